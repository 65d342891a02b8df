import PyProof.Rows.All
import Wide.All
import OpenK.AllK
import Wide.FinOn
import HandS.ForMost
import HandS.DictTup
import KE.KeyNested
import HandS.Dict
import HandS.ForExc
import HandS.Flow
import HandS.SetKeys
import HandS.IsInst
import HandS.Conv
import HandS.Nested
import HandS.TupAny
import HandS.Deep
import HandS.Style
import HandS.WordsDict
import HandS.SortInts
import PyProof.StrBlock2
import KE.KSortedM
import HandS.ExcInit
import HandS.ExcOwn
import HandS.ExcField
import KE.KExcIs
import HandS.ExcIs
import HandS.Wide
import HandS.Iter
import HandS.TryOnly
import HandS.Zip
import KE.KDictSum
import PySem.Challenge.RW_roadnet_k31_what_waits_at_a_gate
set_option Elab.async false
set_option maxRecDepth 100000
set_option maxHeartbeats 4000000
set_option linter.all false
set_option autoImplicit false
/-! dicts whose keys are whole numbers, texts and nested tuples, one beside the other -/
namespace MixD
open PySem
open Sem (wp)
/-- a key, the key's own value, what stands under it -/
abbrev Row := NestedKey × Value × Value
def ent (w : World) (x : Row) : DictEntry := ⟨x.1.hash w, x.2.1, x.2.2⟩
def KeyIs (h : Heap) (k : NestedKey) (v : Value) : Prop := NestedIs h k v ∧ k.depth ≤ 8
def Keys (h : Heap) (xs : List Row) : Prop := ∀ x ∈ xs, KeyIs h x.1 x.2.1
def At (w : World) (h : Heap) (d : Addr) (xs : List Row) : Prop := ∃ o es ep, h.get? d = some o ∧ o.ExactDict ∧ o.data = .dict es ep ∧ es.toList = xs.map (ent w) ∧ (xs.map (·.1)).Nodup
def val (xs : List Row) (k : NestedKey) : Option Value := (xs.find? fun x => decide (x.1 = k)).map (·.2.2)
section
variable {prog : Program} {w : World} {A : Around} {E : Value → Shared → Prop} {s : Shared}
theorem one_place {xs : List Row} (hn : (xs.map (·.1)).Nodup) {i j : Nat} {x y : Row} (hi : xs[i]? = some x) (hj : xs[j]? = some y) (e : x.1 = y.1) : i = j := by
  have h1 : (xs.map (·.1))[i]? = some x.1 := by simp [hi]
  have h2 : (xs.map (·.1))[j]? = some x.1 := by simp [hj, e]
  exact (List.getElem?_inj (List.getElem?_eq_some_iff.mp h1).1 hn).mp (h1.trans h2.symm)
theorem val_at {xs : List Row} (hn : (xs.map (·.1)).Nodup) {j : Nat} {x : Row} (hj : xs[j]? = some x) : val xs x.1 = some x.2.2 := by
  unfold val
  cases e : xs.find? (fun y => decide (y.1 = x.1)) with
  | none =>
    have := List.find?_eq_none.mp e x (List.mem_of_getElem? hj)
    simp at this
  | some y =>
    have hy := List.find?_some e
    obtain ⟨i, hi⟩ := List.mem_iff_getElem?.mp (List.mem_of_find?_eq_some e)
    have := one_place hn hi hj (by simpa using hy)
    subst this
    rw [hi] at hj; cases hj; rfl
theorem val_no {xs : List Row} {k : NestedKey} (h : ∀ x ∈ xs, x.1 ≠ k) : val xs k = none := by
  unfold val
  rw [List.find?_eq_none.mpr fun x hx => by simpa using h x hx]; rfl
theorem quiet_ok {k : NestedKey} {v : Value} {Q : Bool → Shared → Prop} (hk : KeyIs s.heap k v) (h : Q true s) : wpAny (model prog w) A (eqIsQuiet 8 v) Q E s := quiet_key k v 8 s hk.1 hk.2 A E Q h
theorem same_ok {x y : NestedKey} {a b : Value} {Q : Bool → Shared → Prop} (hu : A.units + 8 < cLine) (hx : KeyIs s.heap x a) (hy : KeyIs s.heap y b) (h : Q (decide (x = y)) s) : wpAny (model prog w) A (PySem.eqBool a b) Q E s :=
  eqAt_key x y A s a b hx.1 hy.1 (by have := hx.2; omega) prog w E Q (by rw [← NestedKey.decide_eq]; exact h)
theorem hash_ok {k : NestedKey} {v : Value} {Q : Int → Shared → Prop} (hu : A.units + 8 < cLine) (hk : KeyIs s.heap k v) (h : Q (k.hash w) { s with toks := s.toks + k.draws }) : wpAny (model prog w) A (PySem.pyHash v) Q E s :=
  pyHash_key k v A s Q hk.1 (by have := hk.2; omega) h
theorem tells_ok {v : Value} {k : NestedKey} {st : List Value} {Q : Bool → Shared → Prop} (hk : KeyIs s.heap k v) (hst : ∀ u ∈ st, ∃ k', KeyIs s.heap k' u) (h : Q false s) : wpAny (model prog w) A (tableMayTell v st) Q E s := by
  unfold tableMayTell
  by_cases hz : st.isEmpty = true
  · rw [if_pos hz]; exact wpAny_pure h
  · rw [if_neg hz]
    refine wpAny_bind (quiet_ok hk ?_)
    rw [if_neg (by simp)]
    refine wpAny_bind (wpAny_forIn_list _ (fun rest r s' => s' = s ∧ r = (none, ()) ∧ ∀ u ∈ rest, ∃ k', KeyIs s.heap k' u) _ ?_ ?_ _ _ ⟨rfl, rfl, hst⟩)
    · intro u rest r s' ⟨e1, e2, hr⟩
      subst e1; subst e2
      obtain ⟨k', hk'⟩ := hr u (by simp)
      refine wpAny_bind (quiet_ok hk' ?_)
      rw [if_neg (by simp)]
      exact wpAny_pure ⟨rfl, rfl, fun y hy => hr y (by simp [hy])⟩
    · intro r s' ⟨e1, e2, _⟩
      subst e1; subst e2
      exact wpAny_pure h
end
section
variable {prog : Program} {w : World} {A : Around} {E : Value → Shared → Prop} {s : Shared}
/-- where a key may stand: the places of its hash -/
def spots (w : World) (es : Array DictEntry) (k : NestedKey) : List Nat := placesWithHash es.size (fun i => es[i]?.map (·.hash)) (k.hash w)
theorem ent_at {es : Array DictEntry} {xs : List Row} (he : es.toList = xs.map (ent w)) (j : Nat) : es[j]? = (xs[j]?).map (ent w) := by
  rw [← Array.getElem?_toList, he, List.getElem?_map]
theorem spot_row {es : Array DictEntry} {xs : List Row} {k : NestedKey} (he : es.toList = xs.map (ent w)) {i : Nat} (hi : i ∈ spots w es k) : ∃ x, xs[i]? = some x ∧ es[i]? = some (ent w x) ∧ x.1.hash w = k.hash w := by
  unfold spots placesWithHash at hi
  obtain ⟨_, h2'⟩ := List.mem_filter.mp hi
  have h2 : (es[i]?.map (·.hash) == some (k.hash w)) = true := h2'
  have e := ent_at he i
  cases hx : xs[i]? with
  | none => rw [e, hx] at h2; simp at h2
  | some x =>
    rw [hx] at e
    rw [e] at h2
    exact ⟨x, rfl, e, by simpa [ent] using h2⟩
theorem row_spot {es : Array DictEntry} {xs : List Row} {k : NestedKey} (he : es.toList = xs.map (ent w)) {i : Nat} {x : Row} (hi : xs[i]? = some x) (e : x.1 = k) : i ∈ spots w es k := by
  have h := ent_at he i
  rw [hi] at h
  refine List.mem_filter.mpr ⟨List.mem_range.mpr ?_, ?_⟩
  · have h1 : i < xs.length := (List.getElem?_eq_some_iff.mp hi).1
    have h2 : es.size = xs.length := by rw [← Array.length_toList, he, List.length_map]
    omega
  · simp [h, ent, e]
theorem spots_nodup {es : Array DictEntry} {k : NestedKey} : (spots w es k).Nodup := List.Nodup.sublist List.filter_sublist List.nodup_range
/-- a dict's look-up -/
theorem find_ok {d : Addr} {o : Obj} {es ep} {xs : List Row} {k : NestedKey} {v : Value} {Q : Option Nat → Shared → Prop} (hu : A.units + 8 < cLine) (hkey : KeyIs s.heap k v)
    (ho : s.heap.get? d = some o) (hd : o.data = .dict es ep) (he : es.toList = xs.map (ent w)) (hks : Keys s.heap xs) (hn : (xs.map (·.1)).Nodup)
    (hnone : (∀ x ∈ xs, x.1 ≠ k) → Q none s) (hsome : ∀ j x, xs[j]? = some x → x.1 = k → Q (some j) s) : wpAny (model prog w) A (dictFind d v (k.hash w)) Q E s := by
  have away : ∀ pre : List Nat, spots w es k = pre ++ [] → (∀ j ∈ pre, ∀ x, xs[j]? = some x → x.1 ≠ k) → ∀ x ∈ xs, x.1 ≠ k := fun pre hp h x hx e => by
    obtain ⟨j, hj⟩ := List.mem_iff_getElem?.mp hx
    have := row_spot he hj e
    rw [hp, List.append_nil] at this
    exact h j this x hj e
  have plain : wpAny (model prog w) A (dictWalkPlain d v (k.hash w) es (spots w es k)) Q E s := by
    unfold dictWalkPlain
    refine wpAny_bind (wpAny_forIn_list _ (fun rest r s' => s' = s ∧ r = (none, ()) ∧ ∃ pre, spots w es k = pre ++ rest ∧ ∀ j ∈ pre, ∀ x, xs[j]? = some x → x.1 ≠ k) _ ?_ ?_ _ _ ⟨rfl, rfl, [], rfl, by simp⟩)
    · intro i rest r s' ⟨e1, e2, pre, hp, hno⟩
      subst e1; subst e2
      obtain ⟨x, hx, hex, hh⟩ := spot_row (k := k) he (by rw [hp]; simp : i ∈ spots w es k)
      have hkx := hks x (List.mem_of_getElem? hx)
      rw [hex]
      dsimp only
      rw [if_pos (by simp [ent, hh])]
      refine wpAny_bind (wpAny_dictEpoch ho hd (wpAny_bind (same_ok hu hkx hkey (wpAny_bind (wpAny_dictEpoch ho hd ?_)))))
      rw [if_neg (by simp)]
      by_cases hk : x.1 = k
      · rw [if_pos (by simpa using hk)]
        exact wpAny_bind (wpAny_rule (wpAny_pure (wpAny_pure (hsome i x hx hk))))
      · rw [if_neg (by simpa using hk)]
        refine wpAny_bind (wpAny_rule (wpAny_pure ⟨rfl, rfl, pre ++ [i], by rw [hp]; simp, fun j hj y hy => ?_⟩))
        rcases List.mem_append.mp hj with z | z
        · exact hno j z y hy
        · have : j = i := by simpa using z
          subst this
          rw [hx] at hy; cases hy; exact hk
    · intro r s' ⟨e1, e2, pre, hp, hno⟩
      subst e1; subst e2
      exact wpAny_pure (hnone (away pre hp hno))
  have hst : ∀ u ∈ (spots w es k).filterMap (fun i => es[i]?.map (·.key)), ∃ k', KeyIs s.heap k' u := fun u hu' => by
    obtain ⟨i, hi, e⟩ := List.mem_filterMap.mp hu'
    obtain ⟨x, hx, hex, _⟩ := spot_row (k := k) he hi
    rw [hex] at e
    have : x.2.1 = u := by simpa [ent] using e
    exact ⟨x.1, this ▸ hks x (List.mem_of_getElem? hx)⟩
  unfold dictFind
  try with_reducible refine wpAny_holding ?_
  refine wpAny_bind (wpAny_dictEntries ho hd ?_)
  by_cases hs : ∃ x t, v = .str x t ∧ (es.all fun e => isExactStrKey e.key) = true
  · obtain ⟨x, t, e, hs⟩ := hs
    subst e
    dsimp only
    rw [if_pos hs]
    have hk : k = .text x := by
      cases hkey.1; rfl
    subst hk
    have same : (fun e : DictEntry => e.key.isStr x) = fun e => e.key.isStr x := rfl
    have isx : ∀ y ∈ xs, ((ent w y).key.isStr x = true ↔ y.1 = .text x) := fun y hy => by
      obtain ⟨k', v', z'⟩ := y
      have h1 := (hks _ hy).1
      dsimp only [ent] at h1 ⊢
      cases h1 <;> simp [Value.isStr]
    unfold foundByValue
    cases hf : es.findIdx? (fun e => e.key.isStr x) with
    | none =>
      refine wpAny_pure (hnone fun y hy e => ?_)
      have h1 := Array.findIdx?_eq_none_iff.mp hf (ent w y) (by rw [← Array.mem_toList_iff, he]; exact List.mem_map_of_mem hy)
      rw [(isx y hy).mpr e] at h1
      cases h1
    | some i =>
      obtain ⟨hlt, hi, _⟩ := Array.findIdx?_eq_some_iff_getElem.mp hf
      have h1 : es[i]? = some es[i] := Array.getElem?_eq_getElem hlt
      have h2 := ent_at he i
      rw [h1] at h2
      cases hx : xs[i]? with
      | none => rw [hx] at h2; cases h2
      | some y =>
        rw [hx] at h2
        have h3 : es[i] = ent w y := Option.some.inj h2
        have hy := List.mem_of_getElem? hx
        have h4 : y.1 = .text x := (isx y hy).mp (by rw [← h3]; simpa using hi)
        dsimp only
        rw [h1]
        dsimp only
        rw [h3]
        refine wpAny_bind (wpAny_dictEpoch ho hd (wpAny_bind (same_ok hu (hks y hy) hkey (wpAny_bind (wpAny_dictEpoch ho hd ?_)))))
        rw [if_neg (by simp), if_pos (by simpa using h4)]
        exact wpAny_bind (wpAny_rule (wpAny_pure (hsome i y hx h4)))
  · have tail : ∀ st : List Value, st = (spots w es k).filterMap (fun i => es[i]?.map (·.key)) → wpAny (model prog w) A (do
        let tells ← if st == [v] then pure false else tableMayTell v st
        if tells && st.length ≥ 2 then unsupported "dict.find:order-among-keys-of-one-hash"
        let mut hit : Option Nat := none
        for i in spots w es k do
          if let some e := es[i]? then
            if e.hash == k.hash w then
              let before ← dictEpoch d (keyPart v)
              let same ← eqBool e.key v
              if (← dictEpoch d (keyPart v)) != before then unsupported "dict.changed-during-lookup"
              if same then
                if hit.isSome then unsupported "dict.find:order-among-keys-of-one-hash"
                rule "dict.find.hit"
                if st.length < 2 then return some i
                hit := some i
              else
                rule "dict.find.same-hash-other-key"
                if tells && !(0 ≤ k.hash w && k.hash w < 32) then unsupported "dict.find:asked-again-or-not-hangs-on-the-table"
        return hit) Q E s := fun st est => by
      have go : ∀ tells : Bool, tells = false → wpAny (model prog w) A (do
          let mut hit : Option Nat := none
          for i in spots w es k do
            if let some e := es[i]? then
              if e.hash == k.hash w then
                let before ← dictEpoch d (keyPart v)
                let same ← eqBool e.key v
                if (← dictEpoch d (keyPart v)) != before then unsupported "dict.changed-during-lookup"
                if same then
                  if hit.isSome then unsupported "dict.find:order-among-keys-of-one-hash"
                  rule "dict.find.hit"
                  if st.length < 2 then return some i
                  hit := some i
                else
                  rule "dict.find.same-hash-other-key"
                  if tells && !(0 ≤ k.hash w && k.hash w < 32) then unsupported "dict.find:asked-again-or-not-hangs-on-the-table"
          return hit) Q E s := fun tells ht => by
        subst ht
        dsimp only
        refine wpAny_bind (wpAny_forIn_list _ (fun rest r s' => s' = s ∧ r.1 = none ∧ ∃ pre, spots w es k = pre ++ rest ∧ ((r.2 = none ∧ ∀ j ∈ pre, ∀ x, xs[j]? = some x → x.1 ≠ k) ∨ ∃ j ∈ pre, ∃ x, r.2 = some j ∧ xs[j]? = some x ∧ x.1 = k)) _ ?_ ?_ _ _ ⟨rfl, rfl, [], rfl, .inl ⟨rfl, by simp⟩⟩)
        · intro i rest r s' hI
          obtain ⟨r1, r2⟩ := r
          obtain ⟨e1, e2, pre, hp, hH⟩ := hI
          have e2' : r1 = none := e2
          have hH' : (r2 = none ∧ ∀ j ∈ pre, ∀ x, xs[j]? = some x → x.1 ≠ k) ∨ ∃ j ∈ pre, ∃ x, r2 = some j ∧ xs[j]? = some x ∧ x.1 = k := hH
          clear hH e2
          subst e1
          subst e2'
          have hH := hH'
          clear hH'
          dsimp only
          obtain ⟨x, hx, hex, hh⟩ := spot_row (k := k) he (by rw [hp]; simp : i ∈ spots w es k)
          have hkx := hks x (List.mem_of_getElem? hx)
          rw [hex]
          dsimp only
          rw [if_pos (by simp [ent, hh])]
          refine wpAny_bind (wpAny_dictEpoch ho hd (wpAny_bind (same_ok hu hkx hkey (wpAny_bind (wpAny_dictEpoch ho hd ?_)))))
          rw [if_neg (by simp)]
          by_cases hk : x.1 = k
          · rw [if_pos (by simpa using hk)]
            rcases hH with ⟨e3, _⟩ | ⟨j, hj, y, e3, hy, hyk⟩
            · subst e3
              rw [if_neg (by simp)]
              refine wpAny_bind (wpAny_rule ?_)
              split
              · exact wpAny_pure (wpAny_pure (hsome i x hx hk))
              · exact wpAny_pure ⟨rfl, rfl, pre ++ [i], by rw [hp]; simp, .inr ⟨i, by simp, x, rfl, hx, hk⟩⟩
            · have e4 := one_place hn hx hy (hk.trans hyk.symm)
              subst e4
              have nd : (pre ++ i :: rest).Nodup := by rw [← hp]; exact spots_nodup
              exact absurd rfl ((List.nodup_append.mp nd).2.2 i hj i (by simp))
          · rw [if_neg (by simpa using hk)]
            refine wpAny_bind (wpAny_rule ?_)
            rw [if_neg (by simp)]
            refine wpAny_pure ⟨rfl, rfl, pre ++ [i], by rw [hp]; simp, ?_⟩
            rcases hH with ⟨e3, hno⟩ | ⟨j, hj, y, e3, hy, hyk⟩
            · refine .inl ⟨e3, fun j hj y hy => ?_⟩
              rcases List.mem_append.mp hj with z | z
              · exact hno j z y hy
              · have : j = i := by simpa using z
                subst this
                rw [hx] at hy; cases hy; exact hk
            · exact .inr ⟨j, by simp [hj], y, e3, hy, hyk⟩
        · intro r s' hI
          obtain ⟨r1, r2⟩ := r
          obtain ⟨e1, e2, pre, hp, hH⟩ := hI
          have e2' : r1 = none := e2
          have hH' : (r2 = none ∧ ∀ j ∈ pre, ∀ x, xs[j]? = some x → x.1 ≠ k) ∨ ∃ j ∈ pre, ∃ x, r2 = some j ∧ xs[j]? = some x ∧ x.1 = k := hH
          clear hH e2
          subst e1
          subst e2'
          have hH := hH'
          clear hH'
          dsimp only
          rcases hH with ⟨e3, hno⟩ | ⟨j, hj, y, e3, hy, hyk⟩
          · subst e3
            exact wpAny_pure (hnone (away pre hp hno))
          · subst e3
            exact wpAny_pure (hsome j y hy hyk)
      by_cases hone : (st == [v]) = true
      · rw [if_pos hone]
        refine wpAny_bind (wpAny_pure ?_)
        dsimp only
        rw [if_neg (by simp)]
        exact go false rfl
      · rw [if_neg hone]
        refine wpAny_bind (tells_ok hkey (by rw [est]; exact hst) ?_)
        dsimp only
        rw [if_neg (by simp)]
        exact go false rfl
    have noref : ∀ a, v = .ref a → ¬ (es.any fun e => e.key == Value.ref a && e.hash != k.hash w) = true := fun a e z => by
      subst e
      rw [← Array.any_toList, he, List.any_map, List.any_eq_true] at z
      obtain ⟨x, hx, hz⟩ := z
      simp only [Function.comp_def, ent, Bool.and_eq_true, beq_iff_eq, bne_iff_ne, ne_eq] at hz
      have h1 := (hks x hx).1
      rw [hz.1] at h1
      exact hz.2 (by rw [NestedIs.inj _ _ _ h1 hkey.1])
    have all : ∀ st : List Value, st = (spots w es k).filterMap (fun i => es[i]?.map (·.key)) → wpAny (model prog w) A (do
        if (v :: st).all carriedByValue then return ← dictWalkPlain d v (k.hash w) es (spots w es k)
        if let .ref _ := v then
          if es.any fun e => e.key == v && e.hash != k.hash w then unsupported "dict.find:a-stored-key-whose-hash-has-changed"
        let tells ← if st == [v] then pure false else tableMayTell v st
        if tells && st.length ≥ 2 then unsupported "dict.find:order-among-keys-of-one-hash"
        let mut hit : Option Nat := none
        for i in spots w es k do
          if let some e := es[i]? then
            if e.hash == k.hash w then
              let before ← dictEpoch d (keyPart v)
              let same ← eqBool e.key v
              if (← dictEpoch d (keyPart v)) != before then unsupported "dict.changed-during-lookup"
              if same then
                if hit.isSome then unsupported "dict.find:order-among-keys-of-one-hash"
                rule "dict.find.hit"
                if st.length < 2 then return some i
                hit := some i
              else
                rule "dict.find.same-hash-other-key"
                if tells && !(0 ≤ k.hash w && k.hash w < 32) then unsupported "dict.find:asked-again-or-not-hangs-on-the-table"
        return hit) Q E s := fun st est => by
      by_cases hc : ((v :: st).all carriedByValue) = true
      · rw [if_pos hc]
        first
        | exact plain
        | exact wpAny_bind (wpAny_mono plain (fun _ _ h => wpAny_pure h) fun _ _ h => h)
      · rw [if_neg hc]
        cases v with
        | ref a =>
          dsimp only
          rw [if_neg (noref a rfl)]
          exact tail st est
        | _ => exact tail st est
    cases v with
    | str x t =>
      dsimp only
      rw [if_neg (fun z => hs ⟨x, t, rfl, z⟩)]
      exact all _ rfl
    | _ => exact all _ rfl
end

/-- the rows behind d[k] = x -/
def putR (xs : List Row) (k : NestedKey) (v x : Value) : List Row := if (val xs k).isSome then xs.map (fun y => if y.1 = k then (y.1, y.2.1, x) else y) else xs ++ [(k, v, x)]
/-- the rows behind d.pop(k) -/
def popR (xs : List Row) (k : NestedKey) : List Row := xs.filter fun y => decide (y.1 ≠ k)
theorem putR_old {xs : List Row} {k : NestedKey} {v x u : Value} (h : val xs k = some u) : putR xs k v x = xs.map (fun y => if y.1 = k then (y.1, y.2.1, x) else y) := by simp [putR, h]
theorem putR_new {xs : List Row} {k : NestedKey} {v x : Value} (h : val xs k = none) : putR xs k v x = xs ++ [(k, v, x)] := by simp [putR, h]
theorem erase_row : ∀ {xs : List Row} {j : Nat} {x : Row}, (xs.map (·.1)).Nodup → xs[j]? = some x → xs.eraseIdx j = popR xs x.1
  | [], _, _, _, h => by simp at h
  | y :: ys, 0, x, hn, h => by
    have e : y = x := by simpa using h
    subst e
    rw [List.map_cons, List.nodup_cons] at hn
    rw [List.eraseIdx_cons_zero]
    unfold popR
    rw [List.filter_cons, if_neg (by simp)]
    exact (List.filter_eq_self.mpr fun z hz => by
      have : z.1 ≠ y.1 := fun e => hn.1 (e ▸ List.mem_map_of_mem hz)
      simpa using this).symm
  | y :: ys, j + 1, x, hn, h => by
    rw [List.map_cons, List.nodup_cons] at hn
    have h' : ys[j]? = some x := by simpa using h
    have : y.1 ≠ x.1 := fun e => hn.1 (e ▸ List.mem_map_of_mem (List.mem_of_getElem? h'))
    rw [List.eraseIdx_cons_succ, erase_row hn.2 h']
    unfold popR
    rw [List.filter_cons, if_pos (by simpa using this)]
theorem map_erase {α β : Type} (f : α → β) : ∀ (xs : List α) (j : Nat), (xs.map f).eraseIdx j = (xs.eraseIdx j).map f
  | [], _ => rfl
  | _ :: _, 0 => rfl
  | x :: xs, j + 1 => by simp [map_erase f xs j]
section
variable {prog : Program} {w : World} {A : Around} {E : Value → Shared → Prop} {s : Shared} {d : Addr} {xs : List Row} {k : NestedKey} {v : Value}
theorem At.type (m : At w s.heap d xs) : s.TypeIs (.ref d) "dict" := let ⟨o, _, _, ho, hc, _⟩ := m; ⟨o, ho, hc.1⟩
theorem size_ok {es : Array DictEntry} (he : es.toList = xs.map (ent w)) : es.size = xs.length := by rw [← Array.length_toList, he, List.length_map]
theorem get_ok {Q : Option Value → Shared → Prop} (hu : A.units + 8 < cLine) (hk : KeyIs s.heap k v) (hks : Keys s.heap xs) (m : At w s.heap d xs) (h : Q (val xs k) { s with toks := s.toks + k.draws }) : wpAny (model prog w) A (dictGet d v) Q E s := by
  obtain ⟨o, es, ep, ho, _, hd, he, hn⟩ := m
  unfold dictGet
  try with_reducible refine wpAny_holding ?_
  refine wpAny_bind (hash_ok hu hk (wpAny_bind (find_ok (s := { s with toks := s.toks + k.draws }) hu hk ho hd he hks hn (fun hno => ?_) fun j x hj e => ?_)))
  · rw [val_no hno] at h
    exact wpAny_pure h
  · subst e
    rw [val_at hn hj] at h
    refine wpAny_bind (wpAny_dictEntries (s := { s with toks := s.toks + x.1.draws }) ho hd ?_)
    rw [ent_at he j, hj]
    exact wpAny_pure h
theorem set_ok {x : Value} {Q : Unit → Shared → Prop} (hu : A.units + 8 < cLine) (hk : KeyIs s.heap k v) (hks : Keys s.heap xs) (m : At w s.heap d xs) (hz : xs.length ≤ sizeLine)
    (h : ∀ h', At w h' d (putR xs k v x) → Heap.SameBut d s.heap h' → Q () { s with heap := h', toks := s.toks + k.draws }) : wpAny (model prog w) A (dictSet d v x) Q E s := by
  obtain ⟨o, es, ep, ho, hc, hd, he, hn⟩ := m
  unfold dictSet
  try with_reducible refine wpAny_holding ?_
  refine wpAny_bind (hash_ok hu hk ?_)
  unfold dictSetHashed
  try with_reducible refine wpAny_holding ?_
  refine wpAny_bind (find_ok (s := { s with toks := s.toks + k.draws }) hu hk ho hd he hks hn (fun hno => ?_) fun j y hj e => ?_)
  · refine wpAny_bind (wpAny_rule (wpAny_updateDictKeys (hz := by have := size_ok he; omega) (s := { s with toks := s.toks + k.draws }) ho hd (h _ ⟨_, _, ep + 1, Heap.get?_update_self _ ho (Obj.isFreed_of_dict (Obj.data_mapDictKeys hd _)), hc.mapDictKeys _, Obj.data_mapDictKeys hd _, ?_, ?_⟩ (Heap.SameBut.update ..))))
    · rw [putR_new (val_no hno)]
      simp [he, ent]
    · rw [putR_new (val_no hno), List.map_append, List.nodup_append]
      refine ⟨hn, by simp, fun a ha b hb e => ?_⟩
      have hb' : b = k := by simpa using hb
      obtain ⟨y, hy, ey⟩ := List.mem_map.mp ha
      exact hno y hy (ey.trans (e.trans hb'))
  · subst e
    refine wpAny_bind (wpAny_rule (wpAny_bind (wpAny_updateDict (s := { s with toks := s.toks + y.1.draws }) ho hd (wpAny_point (h _ ⟨_, _, ep, Heap.get?_update_self _ ho (Obj.isFreed_of_dict (Obj.data_mapDict hd _)), hc.mapDict _, Obj.data_mapDict hd _, ?_, ?_⟩ (Heap.SameBut.update ..))))))
    · rw [putR_old (val_at hn hj)]
      have e1 : (es.modify j fun e => { e with val := x }).toList = es.toList.modify j fun e => { e with val := x } := by
        obtain ⟨l⟩ := es; simp
      rw [e1, he]
      refine List.ext_getElem? fun i => ?_
      rw [List.getElem?_modify, List.getElem?_map, List.getElem?_map, List.getElem?_map]
      cases hi : xs[i]? with
      | none => simp
      | some z =>
        by_cases hij : j = i
        · subst hij
          rw [hj] at hi; cases hi
          simp [ent]
        · have : z.1 ≠ y.1 := fun e => hij (one_place hn hj hi e.symm)
          simp [hij, this]
    · rw [putR_old (val_at hn hj), List.map_map]
      have : ((fun z : Row => z.1) ∘ fun z : Row => if z.1 = y.1 then (z.1, z.2.1, x) else z) = fun z => z.1 := by
        funext z
        dsimp only [Function.comp]
        split <;> rfl
      rw [this]; exact hn
theorem take_ok {Q : Option DictEntry → Shared → Prop} {u : Value} (hu : A.units + 8 < cLine) (hk : KeyIs s.heap k v) (hks : Keys s.heap xs) (m : At w s.heap d xs) (hz : xs.length ≤ sizeLine) (hv : val xs k = some u)
    (h : ∀ e, e.val = u → ∀ h', At w h' d (popR xs k) → Heap.SameBut d s.heap h' → Q (some e) { s with heap := h', toks := s.toks + k.draws }) : wpAny (model prog w) A (Builtin.Dict.takeOut d v) Q E s := by
  obtain ⟨o, es, ep, ho, hc, hd, he, hn⟩ := m
  unfold Builtin.Dict.takeOut
  try with_reducible refine wpAny_holding ?_
  refine wpAny_bind (hash_ok hu hk (wpAny_bind (find_ok (s := { s with toks := s.toks + k.draws }) hu hk ho hd he hks hn (fun hno => ?_) fun j x hj e => ?_)))
  · rw [val_no hno] at hv; cases hv
  · subst e
    rw [val_at hn hj] at hv
    refine wpAny_bind (wpAny_dictEntries (s := { s with toks := s.toks + x.1.draws }) ho hd ?_)
    rw [ent_at he j, hj]
    refine wpAny_bind (wpAny_updateDictKeys (hz := by have := size_ok he; omega) (s := { s with toks := s.toks + x.1.draws }) ho hd (wpAny_pure (h _ (by simpa [ent] using hv) _ ⟨_, _, ep + 1, Heap.get?_update_self _ ho (Obj.isFreed_of_dict (Obj.data_mapDictKeys hd _)), hc.mapDictKeys _, Obj.data_mapDictKeys hd _, ?_, ?_⟩ (Heap.SameBut.update ..))))
    · rw [← erase_row hn hj, ← map_erase, ← he]
      obtain ⟨l⟩ := es
      simp
    · exact List.Nodup.sublist (List.Sublist.map _ List.filter_sublist) hn
theorem call_get {x : Value} {Q : Value → Shared → Prop} (hu : A.units + 9 < cLine) (hk : KeyIs s.heap k v) (hks : Keys s.heap xs) (lo : (d == sysModules) = false) (m : At w s.heap d xs) (h : Q ((val xs k).getD x) { s with toks := s.toks + k.draws }) :
    wpAny (model prog w) A (call (.builtin "dict.get") [.ref d, v, x]) Q E s := by
  refine call_meetsIn F.slot_dict_get m.type F.entry_dict_get (F.args_dict_get_3 _ _ _) (S := fun A' R s' => A' = A ∧ s' = s ∧ R (.ok (.ret ((val xs k).getD x))) { s with toks := s.toks + k.draws }) (.of_wp fun A' R s' hS => ?_) ⟨rfl, rfl, h⟩
  obtain ⟨e1, e2, hq⟩ := hS
  subst e1; subst e2
  show wpAny _ _ (dictGet d v >>= _) _ _ _
  refine wpAny_bind (get_ok (by rw [Around.in1_units]; omega) hk hks m ?_)
  cases hf : val xs k with
  | some u =>
    rw [hf] at hq
    exact wpAny_pure ⟨u, rfl, hq⟩
  | none =>
    rw [hf] at hq
    show wpAny _ _ (Builtin.Dict.missed d v >>= _) _ _ _
    exact wpAny_bind (wpAny_missed_other lo (wpAny_pure ⟨x, rfl, hq⟩))
theorem item_ok {u : Value} {Q : Value → Shared → Prop} (hu : A.units + 9 < cLine) (hk : KeyIs s.heap k v) (hks : Keys s.heap xs) (m : At w s.heap d xs) (hv : val xs k = some u) (h : Q u { s with toks := s.toks + k.draws }) :
    wpAny (model prog w) A (getItem (.ref d) v) Q E s := by
  unfold getItem
  try with_reducible refine wpAny_holding ?_
  refine wpAny_bind (wpAny_sequenceKey m.type (by decide) ?_)
  refine wpAny_bind (wpAny_callSpecial?_slot (name := Str.ofString "__getitem__") m.type slot_dict_getitem (wpAny_call_entry slot_dict_getitem m.type entry_dict_getitem ?_ (args_dict_getitem _ _)))
  show wpAny _ _ (dictGet d v >>= _) _ _ s
  refine wpAny_bind (get_ok (by rw [Around.in1_units]; omega) hk hks m ?_)
  rw [hv]
  exact wpAny_pure ⟨u, rfl, wpAny_pure h⟩
theorem store_ok {x : Value} {Q : Unit → Shared → Prop} (hu : A.units + 9 < cLine) (hk : KeyIs s.heap k v) (hks : Keys s.heap xs) (m : At w s.heap d xs) (hz : xs.length ≤ sizeLine)
    (h : ∀ h', At w h' d (putR xs k v x) → Heap.SameBut d s.heap h' → Q () { s with heap := h', toks := s.toks + k.draws }) : wpAny (model prog w) A (setItem (.ref d) v x) Q E s := by
  unfold setItem
  try with_reducible refine wpAny_holding ?_
  refine wpAny_bind (wpAny_sequenceKey m.type (by decide) ?_)
  refine wpAny_bind (wpAny_callSpecial?_slot (name := Str.ofString "__setitem__") m.type slot_dict_setitem (wpAny_call_entry slot_dict_setitem m.type entry_dict_setitem ?_ (args_dict_setitem _ _ _)))
  show wpAny _ _ (Builtin.Dict.notOrdered "__setitem__" ⟨[.ref d, v, x], []⟩ >>= _) _ _ s
  refine wpAny_bind (wpAny_notOrdered_dict m.type ?_)
  show wpAny _ _ (dictSet d v x >>= _) _ _ s
  exact wpAny_bind (set_ok (by rw [Around.in1_units]; omega) hk hks m hz fun h' hm' hs' => wpAny_pure ⟨.none, rfl, wpAny_pure (h h' hm' hs')⟩)
theorem call_pop {u : Value} {Q : Value → Shared → Prop} (hu : A.units + 9 < cLine) (hk : KeyIs s.heap k v) (hks : Keys s.heap xs) (m : At w s.heap d xs) (hz : xs.length ≤ sizeLine) (hv : val xs k = some u)
    (h : ∀ h', At w h' d (popR xs k) → Heap.SameBut d s.heap h' → Q u { s with heap := h', toks := s.toks + k.draws }) : wpAny (model prog w) A (call (.builtin "dict.pop") [.ref d, v]) Q E s := by
  refine call_meetsIn F.slot_dict_pop m.type F.entry_dict_pop (F.args_dict_pop_2 _ _) (S := fun A' R s' => A' = A ∧ s' = s ∧ ∀ h', At w h' d (popR xs k) → Heap.SameBut d s.heap h' → R (.ok (.ret u)) { s with heap := h', toks := s.toks + k.draws }) (.of_wp fun A' R s' hS => ?_) ⟨rfl, rfl, h⟩
  obtain ⟨e1, e2, hq⟩ := hS
  subst e1; subst e2
  unfold Builtin.«dict.pop»
  refine wpAny_bind ?_
  unfold Builtin.Dict.keyAndDefault
  refine wpAny_bind (wpAny_notOrdered_dict m.type ?_)
  show wpAny _ _ (pure (d, v, none)) _ _ _
  refine wpAny_pure ?_
  have fin : ∀ z : Sem Fin, True := fun _ => trivial
  obtain ⟨o, es, ep, ho, hc, hd, he, hn⟩ := id m
  have ne : ¬ es.isEmpty = true := fun z => by
    have h0 : es.size = 0 := by simpa using z
    have h1 : xs.length = 0 := by rw [← size_ok he]; exact h0
    have h2 := List.length_eq_zero_iff.mp h1
    subst h2
    exact nomatch hv
  by_cases hp : (keyPart v).isSome = true
  · simp only [hp, if_true]
    refine wpAny_bind (wpAny_pure ?_)
    simp only [Bool.false_eq_true, if_false]
    refine wpAny_bind (take_ok (by rw [Around.in1_units]; omega) hk hks m hz hv fun e ev h' m' hs => ?_)
    simp only [Option.isNone_some, Bool.false_eq_true, if_false]
    exact wpAny_bind (wpAny_letGo (wpAny_pure ⟨e.val, rfl, by rw [ev]; exact hq h' m' hs⟩))
  · simp only [hp, if_false, Bool.false_eq_true]
    refine wpAny_bind (wpAny_dictEntries ho hd (wpAny_bind (wpAny_pure ?_)))
    rw [if_neg ne]
    refine wpAny_bind (take_ok (by rw [Around.in1_units]; omega) hk hks m hz hv fun e ev h' m' hs => ?_)
    simp only [Option.isNone_some, Bool.false_eq_true, if_false]
    exact wpAny_bind (wpAny_letGo (wpAny_pure ⟨e.val, rfl, by rw [ev]; exact hq h' m' hs⟩))
end
end MixD

set_option maxHeartbeats 4000000
/-! dicts of mixed keys in the abstract heap -/
namespace L2
open PySem PySem.W PySem.Calls PyProof.Rows PyProof.V PySem.Spec
mutual
inductive HKey (H : Hp) : NestedKey → V → Prop
  | num (i : Int) : HKey H (.num i) (.int i)
  | text (x : Str) : HKey H (.text x) (.str x)
  | tup {ks : List NestedKey} {p : Addr} {vs : List V} : H p = some (.tup vs) → HKeys H ks vs → HKey H (.tup ks) (.ref p)
inductive HKeys (H : Hp) : List NestedKey → List V → Prop
  | nil : HKeys H [] []
  | cons {k : NestedKey} {v : V} {ks : List NestedKey} {vs : List V} : HKey H k v → HKeys H ks vs → HKeys H (k :: ks) (v :: vs)
end
mutual
theorem HKey.kept {H H' : Hp} (n : ∀ p xs, H p = some (.tup xs) → H' p = some (.tup xs)) : ∀ {k : NestedKey} {v : V}, HKey H k v → HKey H' k v
  | _, _, .num i => .num i
  | _, _, .text x => .text x
  | _, _, .tup h r => .tup (n _ _ h) (HKeys.kept n r)
theorem HKeys.kept {H H' : Hp} (n : ∀ p xs, H p = some (.tup xs) → H' p = some (.tup xs)) : ∀ {ks : List NestedKey} {vs : List V}, HKeys H ks vs → HKeys H' ks vs
  | _, _, .nil => .nil
  | _, _, .cons h r => .cons (HKey.kept n h) (HKeys.kept n r)
end
mutual
theorem HKey.is {P : Program} {w : World} {H : Hp} {h : Heap} (ok : HOk P w H h) : ∀ {k : NestedKey} {v : V} {u : Value}, HKey H k v → RelV v u → NestedIs h k u
  | _, _, _, .num i, r => by obtain ⟨t, e⟩ := r; subst e; exact .int i t
  | _, _, _, .text x, r => by obtain ⟨t, e⟩ := r; subst e; exact .text x t
  | _, _, _, .tup hp hs, r => by
    cases r
    obtain ⟨_, its, rv, o, h1, h2, n, h3⟩ := (show ObjOk P w H h _ (.tup _) from ok _ _ hp)
    exact .tup h1 h2 h3 (by simpa using HKeys.is ok hs rv)
theorem HKeys.is {P : Program} {w : World} {H : Hp} {h : Heap} (ok : HOk P w H h) : ∀ {ks : List NestedKey} {vs : List V} {us : List Value}, HKeys H ks vs → Vals vs us → NestedAll h ks us
  | _, _, _, .nil, r => by cases r; exact .nil
  | _, _, _, .cons a b, r => by
    cases r with
    | cons r1 r2 => exact .cons (HKey.is ok a r1) (HKeys.is ok b r2)
end
abbrev KRow := NestedKey × V × V
def KRel : List KRow → List MixD.Row → Prop := Paired fun p q => p.1 = q.1 ∧ RelV p.2.1 q.2.1 ∧ RelV p.2.2 q.2.2
def KsIs (H : Hp) (ks : List KRow) : Prop := ∀ p ∈ ks, HKey H p.1 p.2.1 ∧ p.1.depth ≤ 8
def MOk (w : World) (a : Addr) (ks : List KRow) (h : Heap) : Prop := ks.length ≤ sizeLine ∧ (a == sysModules) = false ∧ ∃ xs, KRel ks xs ∧ MixD.At w h a xs
def mixO (w : World) (a : Addr) (ks : List KRow) : HO := .ext (MOk w a ks)
def valM (ks : List KRow) (k : NestedKey) : Option V := (ks.find? fun x => decide (x.1 = k)).map (·.2.2)
def putM (ks : List KRow) (k : NestedKey) (kv v : V) : List KRow := if (valM ks k).isSome then ks.map (fun y => if y.1 = k then (y.1, y.2.1, v) else y) else ks ++ [(k, kv, v)]
def popM (ks : List KRow) (k : NestedKey) : List KRow := ks.filter fun y => decide (y.1 ≠ k)
theorem KRel.val {k : NestedKey} : ∀ {ks : List KRow} {xs : List MixD.Row}, KRel ks xs → RelO (valM ks k) (MixD.val xs k)
  | _, _, .nil => by unfold valM MixD.val; exact trivial
  | p :: ks, q :: xs, .cons h t => by
    have ih := KRel.val (k := k) t
    unfold valM MixD.val at ih ⊢
    by_cases e : p.1 = k
    · rw [List.find?_cons_of_pos (by simpa using e), List.find?_cons_of_pos (by simpa using h.1 ▸ e)]
      exact h.2.2
    · rw [List.find?_cons_of_neg (by simpa using e), List.find?_cons_of_neg (by simpa using h.1 ▸ e)]
      exact ih
theorem KRel.len {ks : List KRow} {xs : List MixD.Row} (r : KRel ks xs) : ks.length = xs.length := Paired.length r
theorem KRel.pop {k : NestedKey} : ∀ {ks : List KRow} {xs : List MixD.Row}, KRel ks xs → KRel (popM ks k) (MixD.popR xs k)
  | _, _, .nil => .nil
  | p :: ks, q :: xs, .cons h t => by
    have ih := KRel.pop (k := k) t
    unfold popM MixD.popR at ih ⊢
    by_cases e : p.1 = k
    · rw [List.filter_cons_of_neg (by simpa using e), List.filter_cons_of_neg (by simpa using h.1 ▸ e)]
      exact ih
    · rw [List.filter_cons_of_pos (by simpa using e), List.filter_cons_of_pos (by simpa using h.1 ▸ e)]
      exact .cons h ih
theorem KRel.upd {k : NestedKey} {v : V} {u : Value} (rv : RelV v u) : ∀ {ks : List KRow} {xs : List MixD.Row}, KRel ks xs → KRel (ks.map fun y => if y.1 = k then (y.1, y.2.1, v) else y) (xs.map fun y => if y.1 = k then (y.1, y.2.1, u) else y)
  | _, _, .nil => .nil
  | p :: ks, q :: xs, .cons h t => by
    refine .cons ?_ (KRel.upd rv t)
    dsimp only
    by_cases e : p.1 = k
    · rw [if_pos e, if_pos (h.1 ▸ e)]; exact ⟨h.1, h.2.1, rv⟩
    · rw [if_neg e, if_neg (h.1 ▸ e)]; exact h
theorem KRel.app : ∀ {ks ls : List KRow} {xs ys : List MixD.Row}, KRel ks xs → KRel ls ys → KRel (ks ++ ls) (xs ++ ys)
  | _, _, _, _, .nil, s => s
  | _, _, _, _, .cons h t, s => .cons h (KRel.app t s)
theorem KRel.put {k : NestedKey} {kv v : V} {ku u : Value} {ks : List KRow} {xs : List MixD.Row} (r : KRel ks xs) (rk : RelV kv ku) (rv : RelV v u) : KRel (putM ks k kv v) (MixD.putR xs k ku u) := by
  have h := r.val (k := k)
  unfold putM MixD.putR
  cases e1 : valM ks k with
  | none =>
    cases e2 : MixD.val xs k with
    | none => rw [if_neg (by simp), if_neg (by simp)]; exact r.app (.cons ⟨rfl, rk, rv⟩ .nil)
    | some z => rw [e1, e2] at h; exact h.elim
  | some y =>
    cases e2 : MixD.val xs k with
    | none => rw [e1, e2] at h; exact h.elim
    | some z => rw [if_pos (by simp), if_pos (by simp)]; exact r.upd rv
theorem putM_len (ks : List KRow) (k : NestedKey) (kv v : V) : (putM ks k kv v).length ≤ ks.length + 1 := by
  unfold putM
  split <;> simp
theorem popM_len (ks : List KRow) (k : NestedKey) : (popM ks k).length ≤ ks.length := List.length_filter_le _ _
theorem KsIs.put {H : Hp} {ks : List KRow} {k : NestedKey} {kv v : V} (r : KsIs H ks) (hk : HKey H k kv) (hd : k.depth ≤ 8) : KsIs H (putM ks k kv v) := fun p hp => by
  unfold putM at hp
  split at hp
  · obtain ⟨y, hy, e⟩ := List.mem_map.mp hp
    subst e
    split <;> exact r y hy
  · rcases List.mem_append.mp hp with z | z
    · exact r p z
    · have : p = (k, kv, v) := by simpa using z
      subst this; exact ⟨hk, hd⟩
theorem KsIs.pop {H : Hp} {ks : List KRow} {k : NestedKey} (r : KsIs H ks) : KsIs H (popM ks k) := fun p hp => r p (List.mem_filter.mp hp).1
theorem KsIs.kept {H H' : Hp} {ks : List KRow} (n : ∀ p xs, H p = some (.tup xs) → H' p = some (.tup xs)) (r : KsIs H ks) : KsIs H' ks := fun p hp => ⟨(r p hp).1.kept n, (r p hp).2⟩
section
variable {X : Cx} {pins : List (Addr × Obj)} {σ : St} {H : Hp} {s : Shared} {a : Addr} {E : Value → Shared → Prop} {ks : List KRow} {k : NestedKey} {y v d : V} {u r : Value}
theorem m_at (I : Inv X pins σ H s) (e : H a = some (mixO X.w a ks)) : MOk X.w a ks s.heap := ((show ObjOk X.prog X.w H s.heap a (.ext _) from I.hok a _ e)).1
theorem m_here (I : Inv X pins σ H s) (e : H a = some (mixO X.w a ks)) : s.TypeIs (.ref a) "dict" ∧ (∀ b, Value.ref a = .ref b → ∃ ob, s.heap.get? b = some ob ∧ ob.dict = none) ∧ (a == sysModules) = false := by
  obtain ⟨_, lo, xs, _, m⟩ := m_at I e
  refine ⟨m.type, fun b q => ?_, lo⟩
  cases q
  obtain ⟨o, _, _, ho, hc, _⟩ := m
  exact ⟨o, ho, hc.2.1⟩
theorem mix_stay {w : World} {h1 h2 : Heap} (m : MOk w a ks h1) (k : ∀ o, h1.get? a = some o → h2.get? a = some o) : MOk w a ks h2 := by
  obtain ⟨z, lo, xs, rel, o, es, ep, ho, q⟩ := m
  exact ⟨z, lo, xs, rel, o, es, ep, k o ho, q⟩
theorem mix_ok {P : Program} {w : World} {H' : Hp} {h' : Heap} (m : MOk w a ks h') : ObjOk P w H' h' a (mixO w a ks) := by
  have m0 := m
  obtain ⟨z, lo, xs, rel, o, es, ep, ho, q⟩ := m
  exact ⟨m0, ⟨o, ho⟩, fun h1 h2 m1 k => mix_stay m1 k⟩
theorem keys_ok (I : Inv X pins σ H s) {xs : List MixD.Row} (hk : KsIs H ks) (rel : KRel ks xs) : MixD.Keys s.heap xs := by
  unfold KRel at rel
  induction rel with
  | nil => exact fun x hx => nomatch hx
  | @cons p q l1 l2 h t ih =>
    intro x hx
    rcases List.mem_cons.mp hx with e | hx
    · subst e
      obtain ⟨h1, h2⟩ := hk p (by simp)
      exact ⟨h.1 ▸ h1.is I.hok h.2.1, h.1 ▸ h2⟩
    · exact ih (fun p hp => hk p (List.mem_cons_of_mem _ hp)) x hx
theorem m_get2 {Q : Value → Shared → Prop} (hu : X.A.units + 9 < cLine) (I : Inv X pins σ H s) (e : H a = some (mixO X.w a ks)) (hks : KsIs H ks) (hk : HKey H k y) (hd : k.depth ≤ 8) (ry : RelV y u) (rd : RelV d r) (h : ∀ w' s', Inv X pins σ H s' → RelV ((valM ks k).getD d) w' → Q w' s') :
    wpAny (model X.prog X.w) X.A (call (.builtin "dict.get") [.ref a, u, r]) Q E s := by
  obtain ⟨_, lo, xs, rel, m⟩ := m_at I e
  exact MixD.call_get hu ⟨hk.is I.hok ry, hd⟩ (keys_ok I hks rel) lo m (h _ _ (I.tok _) (RelO.getD rel.val rd))
theorem m_item {Q : Value → Shared → Prop} (hu : X.A.units + 9 < cLine) (I : Inv X pins σ H s) (e : H a = some (mixO X.w a ks)) (hks : KsIs H ks) (hk : HKey H k y) (hd : k.depth ≤ 8) (ry : RelV y u) (hv : valM ks k = some v) (h : ∀ w' s', Inv X pins σ H s' → RelV v w' → Q w' s') :
    wpAny (model X.prog X.w) X.A (getItem (.ref a) u) Q E s := by
  obtain ⟨_, lo, xs, rel, m⟩ := m_at I e
  obtain ⟨w', hw, rw'⟩ := RelO.some_of (v := v) (o := MixD.val xs k) (by rw [← hv]; exact rel.val)
  exact MixD.item_ok hu ⟨hk.is I.hok ry, hd⟩ (keys_ok I hks rel) m hw (h _ _ (I.tok _) rw')
theorem m_set {Q : Unit → Shared → Prop} (hu : X.A.units + 9 < cLine) (I : Inv X pins σ H s) (e : H a = some (mixO X.w a ks)) (hks : KsIs H ks) (hk : HKey H k y) (hd : k.depth ≤ 8) (ry : RelV y u) (rv : RelV v r) (hz : ks.length < sizeLine) (h : ∀ s', Inv X pins σ (upd H a (mixO X.w a (putM ks k y v))) s' → Q () s') :
    wpAny (model X.prog X.w) X.A (setItem (.ref a) u r) Q E s := by
  obtain ⟨_, lo, xs, rel, m⟩ := m_at I e
  refine MixD.store_ok hu ⟨hk.is I.hok ry, hd⟩ (keys_ok I hks rel) m (by rw [← rel.len]; omega) fun h' m' hs => h _ ?_
  have he : ∃ q, h'.get? a = some q := let ⟨q, _, _, hq, _⟩ := m'; ⟨q, hq⟩
  have hl := putM_len ks k y v
  exact d_write I (by rw [e]; exact True.intro) hs he (mix_ok ⟨by omega, lo, _, rel.put ry rv, m'⟩)
theorem m_pop {Q : Value → Shared → Prop} (hu : X.A.units + 9 < cLine) (I : Inv X pins σ H s) (e : H a = some (mixO X.w a ks)) (hks : KsIs H ks) (hk : HKey H k y) (hd : k.depth ≤ 8) (ry : RelV y u) (hv : valM ks k = some v) (h : ∀ w' s', Inv X pins σ (upd H a (mixO X.w a (popM ks k))) s' → RelV v w' → Q w' s') :
    wpAny (model X.prog X.w) X.A (call (.builtin "dict.pop") [.ref a, u]) Q E s := by
  obtain ⟨z, lo, xs, rel, m⟩ := m_at I e
  obtain ⟨w', hw, rw'⟩ := RelO.some_of (v := v) (o := MixD.val xs k) (by rw [← hv]; exact rel.val)
  refine MixD.call_pop hu ⟨hk.is I.hok ry, hd⟩ (keys_ok I hks rel) m (by rw [← rel.len]; exact z) hw fun h' m' hs => h _ _ ?_ rw'
  have he : ∃ q, h'.get? a = some q := let ⟨q, _, _, hq, _⟩ := m'; ⟨q, hq⟩
  have hl := popM_len ks k
  exact d_write I (by rw [e]; exact True.intro) hs he (mix_ok ⟨by omega, lo, _, rel.pop, m'⟩)
end
/-! the trees -/
def tMNew (w : World) : TE := fun _ H Q => ∀ p, H p = none → Q (.ref p) (upd H p (mixO w p []))
def tMItem (w : World) (td ty : TE) : TE := fun σ H Q => td σ H fun x H1 => ty σ H1 fun y H2 => ∃ a ks k v, x = .ref a ∧ H2 a = some (mixO w a ks) ∧ KsIs H2 ks ∧ HKey H2 k y ∧ k.depth ≤ 8 ∧ valM ks k = some v ∧ Q v H2
def sMPut (w : World) (td ty tv : TE) : TS := fun D σ H => tv σ H fun v H1 => td σ H1 fun x H2 => ty σ H2 fun y H3 => ∃ a ks k, x = .ref a ∧ H3 a = some (mixO w a ks) ∧ KsIs H3 ks ∧ HKey H3 k y ∧ k.depth ≤ 8 ∧ ks.length < sizeLine ∧ D.nx σ (upd H3 a (mixO w a (putM ks k y v)))
def tMGet2 (w : World) (td ty tx : TE) : TE := fun σ H Q => td σ H fun x H1 => ∃ a ks0, x = .ref a ∧ H1 a = some (mixO w a ks0) ∧ ty σ H1 fun y H2 => tx σ H2 fun z H3 => ∃ ks k, H3 a = some (mixO w a ks) ∧ KsIs H3 ks ∧ HKey H3 k y ∧ k.depth ≤ 8 ∧ Q ((valM ks k).getD z) H3
def tMPop (w : World) (td ty : TE) : TE := fun σ H Q => td σ H fun x H1 => ∃ a ks0, x = .ref a ∧ H1 a = some (mixO w a ks0) ∧ ty σ H1 fun y H2 => ∃ ks k v, H2 a = some (mixO w a ks) ∧ KsIs H2 ks ∧ HKey H2 k y ∧ k.depth ≤ 8 ∧ valM ks k = some v ∧ Q v (upd H2 a (mixO w a (popM ks k)))
section
variable {X : Cx} {o i e f value : Expr} {pos pos' apos cpos : Pos} {td ty tv tx : TE}
theorem mix_empty {w : World} (h : Heap) (hb : sysModules < h.objs.size) : MOk w h.objs.size [] (h.push { cls := .type "dict", data := .dict #[] }) :=
  ⟨Nat.zero_le _, beq_eq_false_iff_ne.mpr (Ne.symm (Nat.ne_of_lt hb)), [], .nil, _, #[], 0, Heap.get?_push_size _ rfl, ⟨rfl, rfl, rfl⟩, rfl, rfl, List.nodup_nil⟩
theorem pe_mnew : PE X (.Dict [] [] pos) (tMNew X.w) := ⟨fun pins s σ H Q I h =>
  wpAny_Dict_empty ⟨.ref s.heap.objs.size, _, I.laid (a := s.heap.objs.size) (o := mixO X.w s.heap.objs.size []) (t' := s.toks) (fun _ _ q => Heap.get?_push_of_some _ q) (Nat.le_refl _) (mix_ok (mix_empty s.heap I.big)), rfl, h _ (I.hok.fresh (Nat.le_refl _))⟩⟩
theorem pe_mitem (hu : X.A.units + 9 < cLine) (ho : PE X o td) (hi : PE X i ty) (hs : NoSl i) : PE X (.Subscript o i pos) (tMItem X.w td ty) := by
  refine ⟨fun pins s σ H Q I h => ?_⟩
  refine subD_of PySem.F.slot_dict_getitem.lookup hs (thn (ho.run pins s σ H _ I h) fun u s1 ⟨x, H1, I1, rx, q1⟩ => thn (hi.run pins s1 σ H1 _ I1 q1) fun iv s2 ⟨y, H2, I2, ry, a, ks, k, v, ex, eh, hks, hk, hd, hv, q2⟩ => ?_)
  subst ex
  obtain rfl : u = Value.ref a := rx
  exact ⟨(m_here I2 eh).1, m_item hu I2 eh hks hk hd ry hv fun w' s3 I3 rw' => ⟨v, H2, I3, rw', q2⟩⟩
theorem ps_mput (hu : X.A.units + 9 < cLine) (ho : PE X o td) (hi : PE X i ty) (hv : PE X value tv) (hs : swapsWith value (some (.Subscript o i pos')) pos.line X.env = pure false) : PS X (.Assign [.Subscript o i pos'] value pos) (sMPut X.w td ty tv) := by
  refine ⟨fun pins s σ H D I h => ?_⟩
  refine wpAny_Assign_Subscript (thn (hv.run pins s σ H _ I h) fun r s1 ⟨v, H1, I1, rv, q1⟩ => thn (ho.run pins s1 σ H1 _ I1 q1) fun u s2 ⟨x, H2, I2, rx, q2⟩ => thn (hi.run pins s2 σ H2 _ I2 q2) fun iv s3 ⟨y, H3, I3, ry, a, ks, k, ex, eh, hks, hk, hd, hz, q3⟩ => ?_) hs
  subst ex
  obtain rfl : u = Value.ref a := rx
  exact m_set hu I3 eh hks hk hd ry rv hz fun s4 I4 => ⟨σ, _, I4, q3⟩
theorem pe_mget2 (hu : X.A.units + 9 < cLine) (ho : PE X o td) (he : PE X e ty) (hf : PE X f tx) (m : M2 X o "get" apos e f cpos) : PE X (.Call (.Attribute o "get" apos) [e, f] [] cpos) (tMGet2 X.w td ty tx) := by
  refine ⟨fun pins s σ H Q I h => ?_⟩
  refine wpAny_Call_method m.base m.few m.line PySem.F.plainAttrs_dict PySem.F.slot_dict_get PySem.F.type_dict_get (thn (ho.run pins s σ H _ I h) fun u s1 ⟨x, H1, I1, rx, a, ks0, ex, d, q1⟩ => ?_)
  subst ex
  obtain rfl : u = Value.ref a := rx
  obtain ⟨t1, t2, _⟩ := m_here I1 d
  refine ⟨t1, t2, ?_⟩
  rw [m.trees]
  refine Calls.callWith_builtin rfl (Calls.evalArgs_plain (Calls.spliced_cons (thn (he.run pins s1 σ H1 _ I1 q1) fun iv s2 ⟨y, H2, I2, ry, q2⟩ =>
    Calls.spliced_cons (thn (hf.run pins s2 σ H2 _ I2 q2) fun fv s3 ⟨z, H3, I3, rz, ks, k, eh, hks, hk, hd, q3⟩ => Calls.spliced_nil ?_))))
  exact m_get2 hu I3 eh hks hk hd ry rz fun w' s4 I4 rw' => ⟨_, H3, I4, rw', q3⟩
theorem pe_mpop (hu : X.A.units + 9 < cLine) (ho : PE X o td) (he : PE X e ty) (m : M1 X o "pop" apos e cpos) : PE X (.Call (.Attribute o "pop" apos) [e] [] cpos) (tMPop X.w td ty) := by
  refine ⟨fun pins s σ H Q I h => ?_⟩
  refine wpAny_Call_method m.base m.few m.line PySem.F.plainAttrs_dict PySem.F.slot_dict_pop PySem.F.type_dict_pop (thn (ho.run pins s σ H _ I h) fun u s1 ⟨x, H1, I1, rx, a, ks0, ex, d, q1⟩ => ?_)
  subst ex
  obtain rfl : u = Value.ref a := rx
  obtain ⟨t1, t2, _⟩ := m_here I1 d
  refine ⟨t1, t2, ?_⟩
  rw [m.trees]
  refine Calls.callWith_builtin rfl (Calls.evalArgs_plain (Calls.spliced_cons (thn (he.run pins s1 σ H1 _ I1 q1) fun iv s2 ⟨y, H2, I2, ry, ks, k, v, eh, hks, hk, hd, hv, q2⟩ => Calls.spliced_nil ?_)))
  exact m_pop hu I2 eh hks hk hd ry hv fun w' s3 I3 rw' => ⟨v, _, I3, rw', q2⟩
end
end L2

set_option maxHeartbeats 4000000
/-! Mir: a plain machine over trees and a numbered store, and what ties it to the abstract heap. -/
namespace Mir
open PySem L2

inductive D where
  | non | bl (b : Bool) | int (i : Int) | str (x : Str) | tup (xs : List D) | ctup (xs : List D) | clst (xs : List D) | ref (n : Nat)
inductive O where
  | lst (xs : List D) | dic (kvs : List (Key × D)) | dit (kvs : List (List Key × D)) | ins (c : Nat) (fs : List (Str × D)) | fdic (kvs : List (Key × D)) | fdit (kvs : List (List Key × D)) | opq (c : Nat) (fs : List (Str × D)) | mix (kvs : List (NestedKey × D))
abbrev Mem := List O
abbrev Env := List (Option D)
structure Ex where
  c : Nat
  fs : List (Str × D)
inductive Res (α : Type) where
  | ok (a : α) (m : Mem) | exc (x : Ex) (e : Env) (m : Mem) | no
abbrev M (α : Type) := Mem → Res α
inductive TV where
  | d (x : D) | l (xs : List D)
def bindM {α β : Type} (a : M α) (f : α → M β) : M β := fun m => match a m with
  | .ok x m' => f x m'
  | .exc e v m' => .exc e v m'
  | .no => .no
def okM {α : Type} (a : α) : M α := fun m => .ok a m
def noM {α : Type} : M α := fun _ => .no
def wpR {α : Type} (r : Res α) (q : α → Mem → Prop) (x : Ex → Env → Mem → Prop) : Prop := match r with
  | .ok a m => q a m
  | .exc e v m => x e v m
  | .no => False
theorem wpR_bind {α β : Type} {a : M α} {f : α → M β} {m : Mem} {q : β → Mem → Prop} {x : Ex → Env → Mem → Prop} : wpR (bindM a f m) q x ↔ wpR (a m) (fun v m' => wpR (f v m') q x) x := by
  unfold bindM
  cases a m <;> exact Iff.rfl
theorem wpR_mono {α : Type} {r : Res α} {q q' : α → Mem → Prop} {x x' : Ex → Env → Mem → Prop} (h : wpR r q x) (hq : ∀ a m, q a m → q' a m) (hx : ∀ e v m, x e v m → x' e v m) : wpR r q' x' := by
  cases r with
  | ok a m => exact hq _ _ h
  | exc e v m => exact hx _ _ _ h
  | no => exact h

/-- the world of a proof -/
structure Wd where
  P : Program
  w : World
  K : PySem.W.Frag
  mg : Str → Option Value
  base : Heap
  cA : Nat → Addr
  op : Nat → Addr → HO → List (Addr × HO) → List (Str × V) → Prop
  T : List NdefX.NTab

/-- a list that stays: of the module, or known to its object -/
def CL (W : Wd) (H : Hp) (p : Addr) (vs : List V) : Prop := (∃ o, H p = some (.frz o (.lst vs))) ∨ SqL W.K (fun _ => none) p vs
mutual
inductive Rep (W : Wd) (H : Hp) (ι : List Addr) : D → V → Prop
  | non : Rep W H ι .non .non
  | bl (b : Bool) : Rep W H ι (.bl b) (.bl b)
  | int (i : Int) : Rep W H ι (.int i) (.int i)
  | str (x : Str) : Rep W H ι (.str x) (.str x)
  | tup {ds : List D} {p : Addr} {vs : List V} : H p = some (.tup vs) → Reps W H ι ds vs → Rep W H ι (.tup ds) (.ref p)
  | ctup {ds : List D} {p : Addr} {vs : List V} : SqT W.K (fun _ => none) p vs → Reps W H ι ds vs → Rep W H ι (.ctup ds) (.ref p)
  | clst {ds : List D} {p : Addr} {vs : List V} : CL W H p vs → Reps W H ι ds vs → Rep W H ι (.clst ds) (.ref p)
  | ref {n : Nat} {a : Addr} : ι[n]? = some a → Rep W H ι (.ref n) (.ref a)
inductive Reps (W : Wd) (H : Hp) (ι : List Addr) : List D → List V → Prop
  | nil : Reps W H ι [] []
  | cons {d : D} {v : V} {ds : List D} {vs : List V} : Rep W H ι d v → Reps W H ι ds vs → Reps W H ι (d :: ds) (v :: vs)
end

/-- objects that nothing here writes -/
def Mixy (φ : Heap → Prop) : Prop := ∃ a, ∀ h, φ h → ∃ o es ep, h.get? a = some o ∧ o.data = .dict es ep
def Sat : HO → Prop
  | .ext φ => ¬ Mixy φ
  | .xd _ => True
  | .frz _ (.ext _) => True
  | _ => False
theorem sat_mix {w : World} {a : Addr} {ks : List KRow} : Sat (mixO w a ks) → False := fun z => z ⟨a, fun h m => by
  obtain ⟨_, _, _, _, o, es, ep, ho, _, hd, _⟩ := m
  exact ⟨o, es, ep, ho, hd⟩⟩
/-- from one state to a later one -/
structure Nxt (ι : List Addr) (H : Hp) (ι' : List Addr) (H' : Hp) : Prop where
  pre : ∃ l, ι' = ι ++ l ∧ ∀ a ∈ l, H a = none
  frm0 : ∀ p o, H p = some o → p ∉ ι → (∀ ps, o ≠ .tbl ps) → H' p = some o
  there : ∀ p o, H p = some o → ∃ o', H' p = some o'
  tups : ∀ p xs, H p = some (.tup xs) → H' p = some (.tup xs)
  frzs : ∀ p o u, H p = some (.frz o u) → H' p = some (.frz o u)
  sats : ∀ p u, Sat u → H p = some u → H' p = some u
theorem Nxt.frm {ι ι' : List Addr} {H H' : Hp} (n : Nxt ι H ι' H') (p : Addr) (o : HO) (h : H p = some o) (hn : p ∉ ι) (ht : ∀ ps, o ≠ .tbl ps := by intro _ z; cases z) : H' p = some o := n.frm0 p o h hn ht
theorem Nxt.refl {ι : List Addr} {H : Hp} : Nxt ι H ι H := ⟨⟨[], by simp, by simp⟩, fun _ _ h _ _ => h, fun _ o h => ⟨o, h⟩, fun _ _ h => h, fun _ _ _ h => h, fun _ _ _ h => h⟩
theorem Nxt.back {ι ι' : List Addr} {H H' : Hp} (n : Nxt ι H ι' H') {a : Addr} (h : H' a = none) : H a = none := by
  cases e : H a with
  | none => rfl
  | some o =>
    obtain ⟨o', h'⟩ := n.there a o e
    rw [h] at h'; cases h'
theorem Nxt.out {ι ι' : List Addr} {H H' : Hp} (n : Nxt ι H ι' H') {a : Addr} {o : HO} (h : H a = some o) (hn : a ∉ ι) : a ∉ ι' := by
  obtain ⟨l, e, hl⟩ := n.pre
  rw [e]
  intro z
  rcases List.mem_append.mp z with z | z
  · exact hn z
  · have := hl a z
    rw [h] at this; cases this
theorem Nxt.trans {ι ι1 ι2 : List Addr} {H H1 H2 : Hp} (a : Nxt ι H ι1 H1) (b : Nxt ι1 H1 ι2 H2) : Nxt ι H ι2 H2 := by
  refine ⟨?_, fun p o h hn ht => b.frm0 p o (a.frm0 p o h hn ht) (a.out h hn) ht, fun p o h => ?_, fun p xs h => b.tups p xs (a.tups p xs h), fun p o u h => b.frzs p o u (a.frzs p o u h), fun p u z h => b.sats p u z (a.sats p u z h)⟩
  · obtain ⟨l, e, hl⟩ := a.pre
    obtain ⟨l', e', hl'⟩ := b.pre
    refine ⟨l ++ l', by rw [e', e, List.append_assoc], fun x hx => ?_⟩
    rcases List.mem_append.mp hx with z | z
    · exact hl x z
    · exact a.back (hl' x z)
  · obtain ⟨o1, h1⟩ := a.there p o h
    exact b.there p o1 h1
/-- a new object that is not of the store -/
theorem Nxt.new {ι : List Addr} {H : Hp} {p : Addr} {o : HO} (h : H p = none) : Nxt ι H ι (upd H p o) := by
  have k : ∀ q u, H q = some u → upd H p o q = some u := fun q u e => by
    rw [upd_ne (ne_of_none e h)]; exact e
  exact ⟨⟨[], by simp, by simp⟩, fun q u e _ _ => k q u e, fun q u e => ⟨u, k q u e⟩, fun q xs e => k q _ e, fun q o u e => k q _ e, fun q u _ e => k q u e⟩
/-- a new object of the store -/
theorem Nxt.add {ι : List Addr} {H : Hp} {p : Addr} {o : HO} (h : H p = none) : Nxt ι H (ι ++ [p]) (upd H p o) := by
  have n := Nxt.new (ι := ι) (o := o) h
  exact ⟨⟨[p], rfl, fun a ha => by have : a = p := by simpa using ha
                                   rw [this]; exact h⟩, n.frm0, n.there, n.tups, n.frzs, n.sats⟩
/-- an object of the store written -/
theorem Nxt.put {ι : List Addr} {H : Hp} {p : Addr} {o u : HO} (hp : p ∈ ι) (h : H p = some u) (ht : ∀ xs, u ≠ .tup xs) (hf : ∀ a b, u ≠ .frz a b) (hs : Sat u → False := by exact id) : Nxt ι H ι (upd H p o) := by
  refine ⟨⟨[], by simp, by simp⟩, fun q w e hn _ => ?_, fun q w e => ?_, fun q xs e => ?_, fun q a b e => ?_, fun q w z0 e => ?_⟩
  · rw [upd_ne (fun z => hn (by rw [z]; exact hp))]; exact e
  · by_cases z : q = p
    · subst z; exact ⟨_, upd_same⟩
    · exact ⟨w, by rw [upd_ne z]; exact e⟩
  · rw [upd_ne (fun z => by subst z; rw [h] at e; exact ht _ (Option.some.inj e))]; exact e
  · rw [upd_ne (fun z => by subst z; rw [h] at e; exact hf _ _ (Option.some.inj e))]; exact e
  · rw [upd_ne (fun z => by subst z; rw [h] at e; cases e; exact hs z0)]; exact e

theorem Nxt.get {ι ι' : List Addr} {H H' : Hp} (n : Nxt ι H ι' H') {i : Nat} {a : Addr} (h : ι[i]? = some a) : ι'[i]? = some a := by
  obtain ⟨l, e, _⟩ := n.pre
  rw [e, List.getElem?_append_left (List.getElem?_eq_some_iff.mp h).1]; exact h

/-- tuples and places are kept -/
def Kept (ι : List Addr) (H : Hp) (ι' : List Addr) (H' : Hp) : Prop := (∀ p xs, H p = some (.tup xs) → H' p = some (.tup xs)) ∧ (∀ p o u, H p = some (.frz o u) → H' p = some (.frz o u)) ∧ (∀ {i : Nat} {a : Addr}, ι[i]? = some a → ι'[i]? = some a) ∧ ∀ p u, Sat u → H p = some u → H' p = some u
theorem CL.kept {W : Wd} {ι ι' : List Addr} {H H' : Hp} (n : Kept ι H ι' H') {p : Addr} {vs : List V} (h : CL W H p vs) : CL W H' p vs := by
  rcases h with ⟨o, h⟩ | h
  · exact .inl ⟨o, n.2.1 _ _ _ h⟩
  · exact .inr h
theorem CL.sq {W : Wd} {H : Hp} {p : Addr} {vs : List V} (h : CL W H p vs) : SqL W.K H p vs := by
  rcases h with ⟨o, h⟩ | (h | ⟨_, h⟩) | h
  · exact .inl (.inr ⟨o, h⟩)
  · cases h
  · cases h
  · exact .inr h
theorem CT.sq {W : Wd} {H : Hp} {p : Addr} {vs : List V} (h : SqT W.K (fun _ => none) p vs) : SqT W.K H p vs := by
  rcases h with (h | ⟨_, h⟩) | h
  · cases h
  · cases h
  · exact .inr h
mutual
theorem Rep.kept {W : Wd} {ι ι' : List Addr} {H H' : Hp} (n : Kept ι H ι' H') : ∀ {d : D} {v : V}, Rep W H ι d v → Rep W H' ι' d v
  | _, _, .non => .non
  | _, _, .bl b => .bl b
  | _, _, .int i => .int i
  | _, _, .str x => .str x
  | _, _, .tup h r => .tup (n.1 _ _ h) (Reps.kept n r)
  | _, _, .ctup h r => .ctup h (Reps.kept n r)
  | _, _, .clst h r => .clst (h.kept n) (Reps.kept n r)
  | _, _, .ref h => .ref (n.2.2.1 h)
theorem Reps.kept {W : Wd} {ι ι' : List Addr} {H H' : Hp} (n : Kept ι H ι' H') : ∀ {ds : List D} {vs : List V}, Reps W H ι ds vs → Reps W H' ι' ds vs
  | _, _, .nil => .nil
  | _, _, .cons h r => .cons (Rep.kept n h) (Reps.kept n r)
end
theorem Nxt.kept {ι ι' : List Addr} {H H' : Hp} (n : Nxt ι H ι' H') : Kept ι H ι' H' := ⟨n.tups, n.frzs, n.get, n.sats⟩
theorem Rep.mono {W : Wd} {ι ι' : List Addr} {H H' : Hp} (n : Nxt ι H ι' H') {d : D} {v : V} (r : Rep W H ι d v) : Rep W H' ι' d v := r.kept n.kept
theorem Reps.mono {W : Wd} {ι ι' : List Addr} {H H' : Hp} (n : Nxt ι H ι' H') {ds : List D} {vs : List V} (r : Reps W H ι ds vs) : Reps W H' ι' ds vs := r.kept n.kept
theorem Reps.length {W : Wd} {ι : List Addr} {H : Hp} : ∀ {ds : List D} {vs : List V}, Reps W H ι ds vs → ds.length = vs.length
  | _, _, .nil => rfl
  | _, _, .cons _ r => by simp [Reps.length r]
theorem Reps.get {W : Wd} {ι : List Addr} {H : Hp} : ∀ {ds : List D} {vs : List V} {i : Nat} {d : D}, Reps W H ι ds vs → ds[i]? = some d → ∃ v, vs[i]? = some v ∧ Rep W H ι d v
  | _, _, _, _, .nil, e => by simp at e
  | _, _, 0, _, .cons r _, e => by simp at e; subst e; exact ⟨_, rfl, r⟩
  | _, _, i + 1, d, .cons _ t, e => by
    obtain ⟨u, h1, h2⟩ := Reps.get (i := i) (d := d) t (by simpa using e)
    exact ⟨u, by simpa using h1, h2⟩
theorem Reps.append {W : Wd} {ι : List Addr} {H : Hp} : ∀ {ds es : List D} {vs us : List V}, Reps W H ι ds vs → Reps W H ι es us → Reps W H ι (ds ++ es) (vs ++ us)
  | _, _, _, _, .nil, s => s
  | _, _, _, _, .cons r t, s => .cons r (Reps.append t s)
theorem Reps.take {W : Wd} {ι : List Addr} {H : Hp} : ∀ {ds : List D} {vs : List V} (n : Nat), Reps W H ι ds vs → Reps W H ι (ds.take n) (vs.take n)
  | _, _, 0, _ => .nil
  | _, _, _ + 1, .nil => .nil
  | _, _, n + 1, .cons r t => .cons r (Reps.take n t)
theorem Reps.drop {W : Wd} {ι : List Addr} {H : Hp} : ∀ {ds : List D} {vs : List V} (n : Nat), Reps W H ι ds vs → Reps W H ι (ds.drop n) (vs.drop n)
  | _, _, 0, r => r
  | _, _, _ + 1, .nil => .nil
  | _, _, n + 1, .cons _ t => Reps.drop n t
theorem Reps.set {W : Wd} {ι : List Addr} {H : Hp} {d : D} {v : V} (r : Rep W H ι d v) : ∀ {ds : List D} {vs : List V} (n : Nat), Reps W H ι ds vs → Reps W H ι (ds.set n d) (vs.set n v)
  | _, _, _, .nil => .nil
  | _, _, 0, .cons _ t => .cons r t
  | _, _, n + 1, .cons q t => .cons q (Reps.set r n t)
theorem Reps.ints {W : Wd} {ι : List Addr} {H : Hp} : ∀ {ns : List Int} {vs : List V}, Reps W H ι (ns.map D.int) vs → vs = ns.map V.int
  | [], _, h => by cases h; rfl
  | n :: ns, _, h => by
    cases h with
    | cons h1 h2 =>
      cases h1
      rw [Reps.ints h2]; rfl
theorem Reps.ints' {W : Wd} {ι : List Addr} {H : Hp} : ∀ (ns : List Int), Reps W H ι (ns.map D.int) (ns.map V.int)
  | [] => .nil
  | _ :: ns => .cons (.int _) (Reps.ints' ns)

/-- the pairs of names (or keys) and values -/
def RepF {κ : Type} (W : Wd) (H : Hp) (ι : List Addr) : List (κ × D) → List (κ × V) → Prop := Paired fun p q => p.1 = q.1 ∧ Rep W H ι p.2 q.2
theorem RepF.kept {κ : Type} {W : Wd} {ι ι' : List Addr} {H H' : Hp} (n : Kept ι H ι' H') {fs : List (κ × D)} {gs : List (κ × V)} (r : RepF W H ι fs gs) : RepF W H' ι' fs gs := by
  unfold RepF at *
  induction r with
  | nil => exact .nil
  | cons h _ ih => exact .cons ⟨h.1, h.2.kept n⟩ ih
theorem RepF.mono {κ : Type} {W : Wd} {ι ι' : List Addr} {H H' : Hp} (n : Nxt ι H ι' H') {fs : List (κ × D)} {gs : List (κ × V)} (r : RepF W H ι fs gs) : RepF W H' ι' fs gs := r.kept n.kept

def RepO (W : Wd) (H : Hp) (ι : List Addr) (a : Addr) : O → Prop
  | .lst ds => ∃ vs, H a = some (.lst vs) ∧ Reps W H ι ds vs
  | .dic kvs => ∃ ks, H a = some (.dK ks) ∧ RepF W H ι kvs ks
  | .dit kvs => ∃ ks, H a = some (.dT ks) ∧ RepF W H ι kvs ks
  | .ins c fs => ∃ dx gs, H a = some (.ins (W.cA c) dx gs) ∧ RepF W H ι fs gs
  | .fdic kvs => ∃ o ks, H a = some (.frz o (.dK ks)) ∧ RepF W H ι kvs ks
  | .fdit kvs => ∃ o ks, H a = some (.frz o (.dT ks)) ∧ RepF W H ι kvs ks
  | .mix kvs => ∃ ks, H a = some (mixO W.w a ks) ∧ KsIs H ks ∧ RepF W H ι kvs (ks.map fun p => (p.1, p.2.2))
  | .opq c fs => ∃ o L gs, H a = some o ∧ Sat o ∧ (∀ q ∈ L, Sat q.2 ∧ H q.1 = some q.2) ∧ W.op c a o L gs ∧ RepF W H ι fs gs
structure Sim (W : Wd) (ι : List Addr) (m : Mem) (H : Hp) : Prop where
  len : ι.length = m.length
  nd : ι.Nodup
  obj : ∀ (n : Nat) (o : O) (a : Addr), m[n]? = some o → ι[n]? = some a → RepO W H ι a o
  tabs : W.T = []

theorem RepO.keep {W : Wd} {ι ι' : List Addr} {H H' : Hp} (n : Nxt ι H ι' H') {a : Addr} {o : O} (hs : H' a = H a) (r : RepO W H ι a o) : RepO W H' ι' a o := by
  cases o with
  | lst ds => obtain ⟨vs, h, r⟩ := r; exact ⟨vs, hs.trans h, r.mono n⟩
  | dic kvs => obtain ⟨ks, h, r⟩ := r; exact ⟨ks, hs.trans h, r.mono n⟩
  | dit kvs => obtain ⟨ks, h, r⟩ := r; exact ⟨ks, hs.trans h, r.mono n⟩
  | ins c fs => obtain ⟨dx, gs, h, r⟩ := r; exact ⟨dx, gs, hs.trans h, r.mono n⟩
  | fdic kvs => obtain ⟨o, ks, h, r⟩ := r; exact ⟨o, ks, hs.trans h, r.mono n⟩
  | fdit kvs => obtain ⟨o, ks, h, r⟩ := r; exact ⟨o, ks, hs.trans h, r.mono n⟩
  | mix kvs => obtain ⟨ks, h, hk, r⟩ := r; exact ⟨ks, hs.trans h, hk.kept n.tups, r.mono n⟩
  | opq c fs => obtain ⟨o, L, gs, h, z, hL, k, r⟩ := r; exact ⟨o, L, gs, hs.trans h, z, fun q hq => ⟨(hL q hq).1, n.sats _ _ (hL q hq).1 (hL q hq).2⟩, k, r.mono n⟩
theorem Sim.lt {W : Wd} {ι : List Addr} {m : Mem} {H : Hp} (s : Sim W ι m H) {n : Nat} {a : Addr} (h : ι[n]? = some a) : ∃ o, m[n]? = some o := by
  have := (List.getElem?_eq_some_iff.mp h).1
  rw [s.len] at this
  exact ⟨m[n], List.getElem?_eq_getElem this⟩
/-- what is of the store is of the heap, or of the module -/
theorem Sim.inj {W : Wd} {ι : List Addr} {m : Mem} {H : Hp} (s : Sim W ι m H) {i j : Nat} {a : Addr} (h : ι[i]? = some a) (h' : ι[j]? = some a) : i = j := by
  obtain ⟨h1, e1⟩ := List.getElem?_eq_some_iff.mp h
  obtain ⟨h2, e2⟩ := List.getElem?_eq_some_iff.mp h'
  exact (List.getElem_inj s.nd).mp (e1.trans e2.symm)

theorem RepO.there {W : Wd} {ι : List Addr} {H : Hp} {a : Addr} {o : O} (r : RepO W H ι a o) : ∃ u, H a = some u := by
  cases o with
  | lst ds => obtain ⟨vs, h, r⟩ := r; exact ⟨_, h⟩
  | dic kvs => obtain ⟨ks, h, r⟩ := r; exact ⟨_, h⟩
  | dit kvs => obtain ⟨ks, h, r⟩ := r; exact ⟨_, h⟩
  | ins c fs => obtain ⟨dx, gs, h, r⟩ := r; exact ⟨_, h⟩
  | fdic kvs => obtain ⟨o, ks, h, r⟩ := r; exact ⟨_, h⟩
  | fdit kvs => obtain ⟨o, ks, h, r⟩ := r; exact ⟨_, h⟩
  | mix kvs => obtain ⟨ks, h, hk, r⟩ := r; exact ⟨_, h⟩
  | opq c fs => obtain ⟨o, L, gs, h, z, hL, k, r⟩ := r; exact ⟨_, h⟩
theorem Sim.out {W : Wd} {ι : List Addr} {m : Mem} {H : Hp} (s : Sim W ι m H) {p : Addr} (h : H p = none) : p ∉ ι := fun z => by
  obtain ⟨i, hi⟩ := List.mem_iff_getElem?.mp z
  obtain ⟨o, ho⟩ := s.lt hi
  obtain ⟨u, hu⟩ := (s.obj i o p ho hi).there
  rw [h] at hu; cases hu
/-- a new object beside the store -/
theorem Sim.new {W : Wd} {ι : List Addr} {m : Mem} {H : Hp} {p : Addr} {u : HO} (s : Sim W ι m H) (h : H p = none) : Sim W ι m (upd H p u) := by
  have hp := s.out h
  refine ⟨s.len, s.nd, fun n o a h1 h2 => (s.obj n o a h1 h2).keep (Nxt.new h) ?_, s.tabs⟩
  rw [upd_ne (fun z => hp (by rw [← z]; exact List.mem_of_getElem? h2))]
/-- a new object of the store -/
theorem Sim.add {W : Wd} {ι : List Addr} {m : Mem} {H : Hp} {p : Addr} {u : HO} {o : O} (s : Sim W ι m H) (h : H p = none) (r : RepO W (upd H p u) (ι ++ [p]) p o) : Sim W (ι ++ [p]) (m ++ [o]) (upd H p u) := by
  have hp := s.out h
  refine ⟨by simp [s.len], ?_, fun n o' a h1 h2 => ?_, s.tabs⟩
  · rw [List.nodup_append]
    refine ⟨s.nd, by simp, fun a ha b hb => ?_⟩
    have : b = p := by simpa using hb
    rw [this]; exact fun z => hp (by rw [← z]; exact ha)
  · by_cases hn : n < m.length
    · rw [List.getElem?_append_left hn] at h1
      rw [List.getElem?_append_left (by rw [s.len]; exact hn)] at h2
      refine (s.obj n o' a h1 h2).keep (Nxt.add h) ?_
      rw [upd_ne (fun z => hp (by rw [← z]; exact List.mem_of_getElem? h2))]
    · have e1 : n = m.length := by
        have := (List.getElem?_eq_some_iff.mp h1).1
        simp at this; omega
      subst e1
      rw [List.getElem?_append_right (Nat.le_refl _)] at h1
      rw [← s.len, List.getElem?_append_right (Nat.le_refl _)] at h2
      simp at h1 h2
      subst h1; subst h2
      exact r
/-- an object beside the store taken into it -/
theorem Sim.adopt {W : Wd} {ι : List Addr} {m : Mem} {H : Hp} {p : Addr} {o : O} (s : Sim W ι m H) (hp : p ∉ ι) (r : RepO W H (ι ++ [p]) p o) : Sim W (ι ++ [p]) (m ++ [o]) H := by
  refine ⟨by simp [s.len], ?_, fun n o' a h1 h2 => ?_, s.tabs⟩
  · rw [List.nodup_append]
    refine ⟨s.nd, by simp, fun a ha b hb => ?_⟩
    have : b = p := by simpa using hb
    rw [this]; exact fun z => hp (by rw [← z]; exact ha)
  · have kp : Kept ι H (ι ++ [p]) H := ⟨fun _ _ h => h, fun _ _ _ h => h, fun {i a} h => by
      rw [List.getElem?_append_left (List.getElem?_eq_some_iff.mp h).1]; exact h, fun _ _ _ h => h⟩
    have mo : ∀ {o : O} {a : Addr}, RepO W H ι a o → RepO W H (ι ++ [p]) a o := fun {o a} r => by
      cases o with
      | lst ds => obtain ⟨vs, h, r⟩ := r; exact ⟨vs, h, r.kept kp⟩
      | dic kvs => obtain ⟨ks, h, r⟩ := r; exact ⟨ks, h, r.kept kp⟩
      | dit kvs => obtain ⟨ks, h, r⟩ := r; exact ⟨ks, h, r.kept kp⟩
      | ins c fs => obtain ⟨dx, gs, h, r⟩ := r; exact ⟨dx, gs, h, r.kept kp⟩
      | fdic kvs => obtain ⟨o, ks, h, r⟩ := r; exact ⟨o, ks, h, r.kept kp⟩
      | fdit kvs => obtain ⟨o, ks, h, r⟩ := r; exact ⟨o, ks, h, r.kept kp⟩
      | mix kvs => obtain ⟨ks, h, hk, r⟩ := r; exact ⟨ks, h, hk, r.kept kp⟩
      | opq c fs => obtain ⟨o, L, gs, h, z, hL, k, r⟩ := r; exact ⟨o, L, gs, h, z, hL, k, r.kept kp⟩
    by_cases hn : n < m.length
    · rw [List.getElem?_append_left hn] at h1
      rw [List.getElem?_append_left (by rw [s.len]; exact hn)] at h2
      exact mo (s.obj n o' a h1 h2)
    · have e1 : n = m.length := by
        have := (List.getElem?_eq_some_iff.mp h1).1
        simp at this; omega
      subst e1
      rw [List.getElem?_append_right (Nat.le_refl _)] at h1
      rw [← s.len, List.getElem?_append_right (Nat.le_refl _)] at h2
      simp at h1 h2
      subst h1; subst h2
      exact r
/-- an object of the store written -/
theorem Sim.put {W : Wd} {ι : List Addr} {m : Mem} {H : Hp} {i : Nat} {p : Addr} {o : O} {u w : HO} (s : Sim W ι m H) (hi : ι[i]? = some p) (h : H p = some w) (ht : ∀ xs, w ≠ .tup xs) (hf : ∀ a b, w ≠ .frz a b) (r : RepO W (upd H p u) ι p o) (hs : Sat w → False := by exact id) (hb : ∀ ps, w ≠ .tbl ps := by intro _ z; cases z) : Sim W ι (m.set i o) (upd H p u) := by
  have n := Nxt.put (o := u) (List.mem_of_getElem? hi) h ht hf hs
  refine ⟨by simp [s.len], s.nd, fun j o' a h1 h2 => ?_, s.tabs⟩
  by_cases hj : j = i
  · subst hj
    rw [hi] at h2; cases h2
    have := (List.getElem?_eq_some_iff.mp h1).1
    rw [List.length_set] at this
    rw [List.getElem?_set_self this] at h1
    cases h1
    exact r
  · rw [List.getElem?_set_ne (Ne.symm hj)] at h1
    refine (s.obj j o' a h1 h2).keep n ?_
    exact upd_ne fun z => hj (s.inj (z ▸ h2) hi)
end Mir

set_option maxHeartbeats 4000000
namespace Mir
open PySem L2

/-- a value, or a list that was just made -/
def RepT (W : Wd) (H0 H : Hp) (ι : List Addr) : TV → V → Prop
  | .d x, v => Rep W H ι x v
  | .l ds, v => ∃ p vs, v = .ref p ∧ H p = some (.lst vs) ∧ p ∉ ι ∧ H0 p = none ∧ Reps W H ι ds vs
theorem RepT.mono {W : Wd} {H0 H H' : Hp} {ι ι' : List Addr} (n : Nxt ι H ι' H') {x : TV} {v : V} (r : RepT W H0 H ι x v) : RepT W H0 H' ι' x v := by
  cases x with
  | d x => exact Rep.mono n r
  | l ds =>
    obtain ⟨p, vs, e, h, hp, h0, r⟩ := r
    exact ⟨p, vs, e, n.frm p _ h hp, n.out h hp, h0, r.mono n⟩
/-- seen from an earlier state -/
theorem RepT.back {W : Wd} {H0 H1 H : Hp} {ι0 ι1 ι : List Addr} (n : Nxt ι0 H0 ι1 H1) {x : TV} {v : V} (r : RepT W H1 H ι x v) : RepT W H0 H ι x v := by
  cases x with
  | d x => exact r
  | l ds =>
    obtain ⟨p, vs, e, h, hp, h0, r⟩ := r
    exact ⟨p, vs, e, h, hp, n.back h0, r⟩

/-- the names' values -/
inductive REnv (W : Wd) (H : Hp) (ι : List Addr) : Env → L2.St → Prop
  | nil : REnv W H ι [] []
  | has {d : D} {v : V} {e : Env} {σ : L2.St} : Rep W H ι d v → REnv W H ι e σ → REnv W H ι (some d :: e) (some v :: σ)
  | no {v : Option V} {e : Env} {σ : L2.St} : REnv W H ι e σ → REnv W H ι (none :: e) (v :: σ)
theorem REnv.mono {W : Wd} {H H' : Hp} {ι ι' : List Addr} (n : Nxt ι H ι' H') : ∀ {e : Env} {σ : L2.St}, REnv W H ι e σ → REnv W H' ι' e σ
  | _, _, .nil => .nil
  | _, _, .has r t => .has (r.mono n) (REnv.mono n t)
  | _, _, .no t => REnv.no (REnv.mono n t)
theorem REnv.get {W : Wd} {H : Hp} {ι : List Addr} : ∀ {e : Env} {σ : L2.St} {i : Nat} {d : D}, REnv W H ι e σ → e[i]? = some (some d) → ∃ v, σ[i]? = some (some v) ∧ Rep W H ι d v
  | _, _, _, _, .nil, h => by simp at h
  | _, _, 0, _, .has r _, h => by simp at h; subst h; exact ⟨_, rfl, r⟩
  | _, _, 0, _, .no _, h => by simp at h
  | _, _, i + 1, _, .has _ t, h => by
    obtain ⟨v, h1, h2⟩ := REnv.get (i := i) t (by simpa using h)
    exact ⟨v, by simpa using h1, h2⟩
  | _, _, i + 1, _, .no t, h => by
    obtain ⟨v, h1, h2⟩ := REnv.get (i := i) t (by simpa using h)
    exact ⟨v, by simpa using h1, h2⟩
theorem REnv.set {W : Wd} {H : Hp} {ι : List Addr} {d : D} {v : V} (r : Rep W H ι d v) : ∀ {e : Env} {σ : L2.St} (i : Nat), REnv W H ι e σ → REnv W H ι (e.set i (some d)) (σ.set i (some v))
  | _, _, _, .nil => .nil
  | _, _, 0, .has _ t => REnv.has r t
  | _, _, 0, .no t => .has r t
  | _, _, i + 1, .has q t => REnv.has q (REnv.set r i t)
  | _, _, i + 1, .no t => REnv.no (REnv.set r i t)
theorem REnv.del {W : Wd} {H : Hp} {ι : List Addr} {v : Option V} : ∀ {e : Env} {σ : L2.St} (i : Nat), REnv W H ι e σ → REnv W H ι (e.set i none) (σ.set i v)
  | _, _, _, .nil => .nil
  | _, _, 0, .has _ t => .no t
  | _, _, 0, .no t => .no t
  | _, _, i + 1, .has q t => REnv.has q (REnv.del i t)
  | _, _, i + 1, .no t => REnv.no (REnv.del i t)
/-- the slots vs forgotten -/
def wipeE (e : Env) : List Nat → Env
  | [] => e
  | v :: vs => (wipeE e vs).set v none
theorem REnv.wipe {W : Wd} {H : Hp} {ι : List Addr} {e : Env} {σ : L2.St} (r : REnv W H ι e σ) : ∀ vs : List Nat, REnv W H ι (wipeE e vs) (L2.wipe σ vs)
  | [] => r
  | _ :: vs => REnv.del _ (REnv.wipe r vs)

/-- an exception's own fields -/
def RepX (W : Wd) (H : Hp) (ι : List Addr) (x : Ex) (cls : Value) (d : Option Addr) : Prop :=
  cls = .ref (W.cA x.c) ∧ ((x.fs = [] ∧ d = none) ∨ ∃ p gs, d = some p ∧ H p = some (.xd gs) ∧ RepF W H ι x.fs gs)

def PostE (W : Wd) (ι : List Addr) (H : Hp) (Q : VK) : TV → Mem → Prop := fun tv M' => ∀ v ι' H', Nxt ι H ι' H' → Sim W ι' M' H' → RepT W H H' ι' tv v → Q v H'
def PostX (W : Wd) (ι : List Addr) (H : Hp) (Wx : WX) : Ex → Env → Mem → Prop := fun x env' M' => ∀ cls d σ' ι' H', Nxt ι H ι' H' → Sim W ι' M' H' → REnv W H' ι' env' σ' → RepX W H' ι' x cls d → Wx cls d σ' H'
theorem PostX.next {W : Wd} {ι ι1 : List Addr} {H H1 : Hp} {Wx : WX} {x : Ex} {e : Env} {m : Mem} (n : Nxt ι H ι1 H1) (h : PostX W ι H Wx x e m) : PostX W ι1 H1 Wx x e m :=
  fun cls d σ' ι' H' n' s r k => h cls d σ' ι' H' (n.trans n') s r k

abbrev EM := Env → M TV
def SimE (W : Wd) (t : TE) (Wx : WX) (m : EM) : Prop := ∀ (σ : L2.St) (H : Hp) (ι : List Addr) (M : Mem) (env : Env) (Q : VK), Sim W ι M H → REnv W H ι env σ → wpR (m env M) (PostE W ι H Q) (PostX W ι H Wx) → t σ H Q

/-- what stands still of a def's context -/
structure SCx where
  N : List Str
  sc : Scope
  fn : Str → Bool
  k : Nat
  hot : Bool
structure At (W : Wd) (S : SCx) (X : Cx) (Wx : WX) : Prop where
  prog : X.prog = W.P
  w : X.w = W.w
  K : X.K = W.K
  mg : X.mg = W.mg
  base : X.base = W.base
  N : X.N = S.N
  sc : X.env.scope = S.sc
  fn : X.fn = S.fn
  nd : X.N.Nodup
  room : S.hot = false → Room S.k X.A
  units : X.A.units + 150 < cLine
  calm : S.hot = false → X.calm = true
  tk : Takes X Wx
structure SE (W : Wd) (S : SCx) (e : Expr) (m : EM) : Prop where
  ex : ∃ t : WX → TE, (∀ X Wx, At W S X Wx → PE X e (t Wx)) ∧ ∀ Wx, SimE W (t Wx) Wx m

section
variable {W : Wd} {S : SCx} {Wx : WX}

/-! ### names, constants -/
def varE (i : Nat) : EM := fun env => match env[i]? with
  | some (some d) => okM (.d d)
  | _ => noM
def kE (d : D) : EM := fun _ => okM (.d d)
theorem se_var {x : Str} {pos : Pos} (i : Nat) (hN : S.N[i]? = some x := by rfl) (hv : Vis S.sc x := by first | exact Or.inl rfl | exact Or.inr (Or.inl rfl) | exact Or.inr (Or.inr rfl)) (hd : (x == ("__debug__" : Str)) = false := by decide)
    (hcd : (x == ("__classdict__" : Str)) = false := by decide) : SE W S (.Name x pos) (varE i) := by
  refine ⟨fun _ => tVar i, fun X Wx a => pe_var (by rw [a.N]; exact hN) (by rw [a.sc]; exact hv) hd hcd, fun Wx σ H ι M env Q s r h => ?_⟩
  unfold varE at h
  cases e : env[i]? with
  | none => rw [e] at h; exact h.elim
  | some o =>
    rw [e] at h
    cases o with
    | none => exact h.elim
    | some d =>
      obtain ⟨v, hv, rv⟩ := r.get e
      exact ⟨v, hv, h v ι H Nxt.refl s rv⟩
theorem simE_c {d : D} {v : V} (r : ∀ H ι, Rep W H ι d v) : SimE W (tC v) Wx (kE d) := fun σ H ι M env Q s _ h => h v ι H Nxt.refl s (r H ι)
theorem se_int {i : Int} {j : Nat} {pos : Pos} : SE W S (.Constant (.int i) j pos) (kE (.int i)) := ⟨fun _ => tC (.int i), fun _ _ _ => pe_int, fun _ => simE_c fun _ _ => .int i⟩
theorem se_bl {b : Bool} {j : Nat} {pos : Pos} : SE W S (.Constant (.bool b) j pos) (kE (.bl b)) := ⟨fun _ => tC (.bl b), fun _ _ _ => pe_bl, fun _ => simE_c fun _ _ => .bl b⟩
theorem se_non {j : Nat} {pos : Pos} : SE W S (.Constant .none j pos) (kE .non) := ⟨fun _ => tC .non, fun _ _ _ => pe_non, fun _ => simE_c fun _ _ => .non⟩
theorem se_str {x : Str} {j : Nat} {pos : Pos} : SE W S (.Constant (.str x) j pos) (kE (.str x)) := ⟨fun _ => tC (.str x), fun _ _ _ => pe_str, fun _ => simE_c fun _ _ => .str x⟩
/-- a module's constant -/
structure KonstOk (W : Wd) (x : Str) (d : D) : Prop where
  ex : ∃ u v, W.mg x = some u ∧ RelV v u ∧ ∀ H ι, Rep W H ι d v
theorem se_glob {x : Str} {pos : Pos} {d : D} (c : KonstOk W x d) (hg : S.sc.names.lookup x = some .globalImplicit := by rfl) (hd : (x == ("__debug__" : Str)) = false := by decide) : SE W S (.Name x pos) (kE d) := by
  obtain ⟨u, v, hm, r, q⟩ := c.ex
  refine ⟨fun _ => tC v, fun X Wx a => pe_glob (u := u) ?_ (by rw [a.mg]; exact hm) r hd, fun _ => simE_c q⟩
  show X.env.scope.names.lookup x = _
  rw [a.sc]; exact hg

/-! ### two operands -/
def binE (f : TV → TV → M TV) (a b : EM) : EM := fun env => bindM (a env) fun x => bindM (b env) fun y => f x y
def OpSim (W : Wd) (r : R2) (f : TV → TV → M TV) : Prop := ∀ (H0 H : Hp) (ι : List Addr) (m : Mem) (x y : TV) (vx vy : V) (Q : VK), Sim W ι m H → RepT W H0 H ι x vx → RepT W H0 H ι y vy → (∀ p, H p = none → H0 p = none) →
  wpR (f x y m) (PostE W ι H Q) (fun _ _ _ => False) → r vx vy H Q
theorem simE_op {ta tb : TE} {ma mb : EM} {r : R2} {f : TV → TV → M TV} (ha : SimE W ta Wx ma) (hb : SimE W tb Wx mb) (hr : OpSim W r f) (hf : ∀ x y m e v m', f x y m ≠ .exc e v m') : SimE W (tOp r ta tb) Wx (binE f ma mb) := by
  intro σ H ι M env Q s re h
  refine ha σ H ι M env _ s re ?_
  unfold binE at h
  rw [wpR_bind] at h
  refine wpR_mono h (fun x M1 h1 v ι1 H1 n1 s1 r1 => ?_) fun _ _ _ h => h
  refine hb σ H1 ι1 M1 env _ s1 (re.mono n1) ?_
  rw [wpR_bind] at h1
  refine wpR_mono h1 (fun y M2 h2 u ι2 H2 n2 s2 r2 => ?_) fun _ _ _ h => PostX.next n1 h
  refine hr H H2 ι2 M2 x y v u Q s2 (r1.mono n2) (r2.back n1) (fun p hp => n1.back (n2.back hp)) ?_
  cases e : f x y M2 with
  | ok z M3 =>
    rw [e] at h2
    exact fun v3 ι3 H3 n3 s3 r3 => h2 v3 ι3 H3 ((n1.trans n2).trans n3) s3 (r3.back (n1.trans n2))
  | exc a b c => exact absurd e (hf x y M2 a b c)
  | no => rw [e] at h2; exact h2
/-- an operation: what the model does, what the machine does -/
structure OpS (W : Wd) (S : SCx) (g : Value → Value → Sem Value) (f : TV → TV → M TV) : Prop where
  ex : ∃ r : R2, (∀ X Wx, At W S X Wx → OpR X g r) ∧ OpSim W r f
  nx : ∀ x y m e v m', f x y m ≠ .exc e v m'
theorem OpS.or {g : Value → Value → Sem Value} {f f1 f2 : TV → TV → M TV} (h1 : OpS W S g f1) (h2 : OpS W S g f2) (h : ∀ x y m, f x y m = f1 x y m ∨ f x y m = f2 x y m) : OpS W S g f := by
  obtain ⟨⟨r1, a1, b1⟩, n1⟩ := h1
  obtain ⟨⟨r2, a2, b2⟩, n2⟩ := h2
  refine ⟨⟨fun x y H Q => r1 x y H Q ∨ r2 x y H Q, fun X Wx a pins s σ H x y u v Q I rx ry h => ?_, fun H0 H ι m x y vx vy Q s rx ry k q => ?_⟩, fun x y m e v m' z => ?_⟩
  · rcases h with h | h
    · exact a1 X Wx a pins s σ H x y u v Q I rx ry h
    · exact a2 X Wx a pins s σ H x y u v Q I rx ry h
  · rcases h x y m with e | e
    · rw [e] at q; exact .inl (b1 H0 H ι m x y vx vy Q s rx ry k q)
    · rw [e] at q; exact .inr (b2 H0 H ι m x y vx vy Q s rx ry k q)
  · rcases h x y m with e' | e'
    · exact n1 x y m e v m' (e'.symm.trans z)
    · exact n2 x y m e v m' (e'.symm.trans z)
theorem se_bin {op : Operator} {f : TV → TV → M TV} {a b : Expr} {ma mb : EM} {pos : Pos} (o : OpS W S (binaryOp op) f) (ha : SE W S a ma) (hb : SE W S b mb) : SE W S (.BinOp a op b pos) (binE f ma mb) := by
  obtain ⟨⟨r, o1, o2⟩, o3⟩ := o
  obtain ⟨ta, a1, a2⟩ := ha.ex
  obtain ⟨tb, b1, b2⟩ := hb.ex
  exact ⟨fun Wx => tOp r (ta Wx) (tb Wx), fun X Wx x => pe_op (o1 X Wx x) (a1 X Wx x) (b1 X Wx x), fun Wx => simE_op (a2 Wx) (b2 Wx) o2 o3⟩
theorem se_cmp {op : CmpOp} {f : TV → TV → M TV} {a b : Expr} {ma mb : EM} {pos : Pos} (o : OpS W S (compareOp op) f) (ha : SE W S a ma) (hb : SE W S b mb) (hm : behindInMarks op b = false := by first | exact nomark _ | rfl) : SE W S (.Compare a [op] [b] pos) (binE f ma mb) := by
  obtain ⟨⟨r, o1, o2⟩, o3⟩ := o
  obtain ⟨ta, a1, a2⟩ := ha.ex
  obtain ⟨tb, b1, b2⟩ := hb.ex
  exact ⟨fun Wx => tOp r (ta Wx) (tb Wx), fun X Wx x => pe_cmpR (o1 X Wx x) (a1 X Wx x) (b1 X Wx x) hm, fun Wx => simE_op (a2 Wx) (b2 Wx) o2 o3⟩
end
end Mir

set_option maxHeartbeats 4000000
namespace Mir
open PySem L2
section
variable {W : Wd} {S : SCx} {Wx : WX}

/-! ### whole numbers -/
def intOp (C : Int → Int → Prop) [∀ i j, Decidable (C i j)] (g : Int → Int → D) : TV → TV → M TV
  | .d (.int i), .d (.int j) => if C i j then okM (.d (g i j)) else noM
  | _, _ => noM
theorem ops_I {C : Int → Int → Prop} [∀ i j, Decidable (C i j)] {g : Int → Int → D} {gv : Int → Int → V} {sem : Value → Value → Sem Value} (ho : ∀ X, OpR X sem (rI C gv)) (hr : ∀ i j H ι, Rep W H ι (g i j) (gv i j)) : OpS W S sem (intOp C g) := by
  refine ⟨⟨rI C gv, fun X _ _ => ho X, fun H0 H ι m x y vx vy Q s rx ry k h => ?_⟩, fun x y m e v m' z => ?_⟩
  · unfold intOp at h
    split at h
    · rename_i i j
      cases rx; cases ry
      split at h
      · rename_i hc
        exact ⟨i, j, rfl, rfl, hc, h _ ι H Nxt.refl s (hr i j H ι)⟩
      · exact h.elim
    · exact h.elim
  · unfold intOp at z
    split at z
    · split at z <;> cases z
    · cases z
theorem ops_I0 {g : Int → Int → D} {gv : Int → Int → V} {sem : Value → Value → Sem Value} (ho : ∀ X, OpR X sem (rI0 gv)) (hr : ∀ i j H ι, Rep W H ι (g i j) (gv i j)) : OpS W S sem (intOp (fun _ _ => True) g) := by
  refine ops_I (C := fun _ _ => True) (gv := gv) (fun X pins s σ H x y u v Q I rx ry h => ?_) hr
  obtain ⟨i, j, e1, e2, _, q⟩ := h
  exact ho X pins s σ H x y u v Q I rx ry ⟨i, j, e1, e2, q⟩
instance (i j : Int) : Decidable (CMul i j) := by unfold CMul; infer_instance
instance (i j : Int) : Decidable (CDiv i j) := by unfold CDiv; infer_instance
instance (i j : Int) : Decidable (CPow i j) := by unfold CPow; infer_instance
def opSub := intOp (fun _ _ => True) fun i j => .int (i - j)
def opMul := intOp CMul fun i j => .int (i * j)
def opDiv := intOp CDiv fun i j => .int (i / j)
def opMod := intOp (fun _ j => 0 < j) fun i j => .int (i % j)
def opPow := intOp CPow fun i j => .int (i ^ j.toNat)
def opShl := intOp CPow fun i j => .int (i * 2 ^ j.toNat)
def opShr := intOp (fun _ j => 0 ≤ j) fun i j => .int (i / 2 ^ j.toNat)
def opLt := intOp (fun _ _ => True) fun i j => .bl (decide (i < j))
def opLe := intOp (fun _ _ => True) fun i j => .bl (decide (i ≤ j))
def opGt := intOp (fun _ _ => True) fun i j => .bl (decide (j < i))
def opGe := intOp (fun _ _ => True) fun i j => .bl (decide (j ≤ i))
def opAddI := intOp (fun _ _ => True) fun i j => .int (i + j)
theorem o_sub : OpS W S (binaryOp .Sub) opSub := ops_I0 (fun _ => op_sub) fun _ _ _ _ => .int _
theorem o_mul : OpS W S (binaryOp .Mult) opMul := ops_I (fun _ => op_mul) fun _ _ _ _ => .int _
theorem o_div : OpS W S (binaryOp .FloorDiv) opDiv := ops_I (fun _ => op_fdiv) fun _ _ _ _ => .int _
theorem o_mod : OpS W S (binaryOp .Mod) opMod := ops_I (fun _ => op_mod) fun _ _ _ _ => .int _
theorem o_pow : OpS W S (binaryOp .Pow) opPow := ops_I (fun _ => op_pow) fun _ _ _ _ => .int _
theorem o_shl : OpS W S (binaryOp .LShift) opShl := ops_I (fun _ => op_shl) fun _ _ _ _ => .int _
theorem o_shr : OpS W S (binaryOp .RShift) opShr := ops_I (fun _ => op_shr) fun _ _ _ _ => .int _
theorem o_lt : OpS W S (compareOp .Lt) opLt := ops_I0 (fun _ => op_lt) fun _ _ _ _ => .bl _
theorem o_le : OpS W S (compareOp .LtE) opLe := ops_I0 (fun _ => op_le) fun _ _ _ _ => .bl _
theorem o_gt : OpS W S (compareOp .Gt) opGt := ops_I0 (fun _ => op_gt) fun _ _ _ _ => .bl _
theorem o_ge : OpS W S (compareOp .GtE) opGe := ops_I0 (fun _ => op_ge) fun _ _ _ _ => .bl _
theorem o_addI : OpS W S (binaryOp .Add) opAddI := ops_I0 (fun _ => op_add) fun _ _ _ _ => .int _

/-! ### lists as they stand -/
def listOf (m : Mem) : TV → Option (List D)
  | .l ds => some ds
  | .d (.clst ds) => some ds
  | .d (.ref n) => match m[n]? with
    | some (.lst ds) => some ds
    | _ => none
  | _ => none
theorem listOf_rep {H0 H : Hp} {ι : List Addr} {m : Mem} {x : TV} {v : V} {ds : List D} (s : Sim W ι m H) (r : RepT W H0 H ι x v) (e : listOf m x = some ds) : ∃ p vs, v = .ref p ∧ SqL W.K H p vs ∧ Reps W H ι ds vs := by
  unfold listOf at e
  split at e
  · cases e
    obtain ⟨p, vs, e, h, _, _, r⟩ := r
    exact ⟨p, vs, e, SqL.of h, r⟩
  · cases e
    cases r with
    | clst h r => exact ⟨_, _, rfl, h.sq, r⟩
  · split at e
    · rename_i n ds' hm
      cases e
      cases r with
      | ref hi =>
        obtain ⟨vs, h, r⟩ := s.obj _ _ _ hm hi
        exact ⟨_, vs, rfl, SqL.of h, r⟩
    · cases e
  · cases e
/-- .. that may be written -/
def listOfM (m : Mem) : TV → Option (List D)
  | .l ds => some ds
  | .d (.ref n) => match m[n]? with
    | some (.lst ds) => some ds
    | _ => none
  | _ => none
theorem listOfM_rep {H0 H : Hp} {ι : List Addr} {m : Mem} {x : TV} {v : V} {ds : List D} (s : Sim W ι m H) (r : RepT W H0 H ι x v) (e : listOfM m x = some ds) : ∃ p vs, v = .ref p ∧ H p = some (.lst vs) ∧ Reps W H ι ds vs := by
  unfold listOfM at e
  split at e
  · cases e
    obtain ⟨p, vs, e, h, _, _, r⟩ := r
    exact ⟨p, vs, e, h, r⟩
  · split at e
    · rename_i n ds' hm
      cases e
      cases r with
      | ref hi =>
        obtain ⟨vs, h, r⟩ := s.obj _ _ _ hm hi
        exact ⟨_, vs, rfl, h, r⟩
    · cases e
  · cases e
/-- a tuple -/
def tupOf : TV → Option (List D)
  | .d (.tup ds) => some ds
  | .d (.ctup ds) => some ds
  | _ => none
theorem tupOf_rep {H0 H : Hp} {ι : List Addr} {x : TV} {v : V} {ds : List D} (r : RepT W H0 H ι x v) (e : tupOf x = some ds) : ∃ p vs, v = .ref p ∧ SqT W.K H p vs ∧ Reps W H ι ds vs := by
  unfold tupOf at e
  split at e
  · cases e
    cases r with
    | tup h r => exact ⟨_, _, rfl, SqT.of h, r⟩
  · cases e
    cases r with
    | ctup h r => exact ⟨_, _, rfl, CT.sq h, r⟩
  · cases e

/-! ### + -/
def opCat (x y : TV) : M TV := fun m => match listOfM m x, listOfM m y with
  | some xs, some ys => if xs.length + ys.length ≤ sizeLine then .ok (.l (xs ++ ys)) m else .no
  | _, _ => .no
theorem o_cat : OpS W S (binaryOp .Add) opCat := by
  refine ⟨⟨rCat, fun X _ _ => op_cat, fun H0 H ι m x y vx vy Q s rx ry k h => ?_⟩, fun x y m e v m' z => ?_⟩
  · unfold opCat at h
    split at h
    · rename_i xs ys hx hy
      split at h
      · rename_i hz
        obtain ⟨p, vs, rfl, hp, r1⟩ := listOfM_rep s rx hx
        obtain ⟨q, us, rfl, hq, r2⟩ := listOfM_rep s ry hy
        refine ⟨p, q, vs, us, rfl, rfl, hp, hq, by rw [← r1.length, ← r2.length]; exact hz, fun a ha => ?_⟩
        have n := Nxt.new (ι := ι) (o := .lst (vs ++ us)) ha
        exact h _ ι _ n (s.new ha) ⟨a, _, rfl, upd_same, s.out ha, ha, (r1.append r2).mono n⟩
      · exact h.elim
    · exact h.elim
  · unfold opCat at z
    split at z
    · split at z <;> cases z
    · cases z
def opCatT : TV → TV → M TV
  | .d (.tup xs), .d (.tup ys) => if xs.isEmpty = false ∧ xs.length + ys.length ≤ sizeLine then okM (.d (.tup (xs ++ ys))) else noM
  | _, _ => noM
theorem o_catT : OpS W S (binaryOp .Add) opCatT := by
  refine ⟨⟨rCatT W.K, fun X _ a => by rw [← a.K]; exact op_catT, fun H0 H ι m x y vx vy Q s rx ry k h => ?_⟩, fun x y m e v m' z => ?_⟩
  · unfold opCatT at h
    split at h
    · rename_i xs ys
      split at h
      · rename_i hz
        obtain ⟨hz0, hz⟩ := hz
        cases rx with
        | tup hp r1 =>
          cases ry with
          | tup hq r2 =>
            rename_i p vs q us
            refine ⟨p, q, vs, us, rfl, rfl, SqT.of hp, SqT.of hq, ?_, by rw [← r1.length, ← r2.length]; exact hz, fun e => ?_, fun _ a ha => ?_⟩
            · rintro rfl
              cases r1
              cases hz0
            · subst e
              cases r2
              refine h _ ι H Nxt.refl s ?_
              rw [List.append_nil]
              exact Rep.tup hp r1
            · have n := Nxt.new (ι := ι) (o := .tup (vs ++ us)) ha
              exact h _ ι _ n (s.new ha) (Rep.tup upd_same ((r1.append r2).mono n))
      · exact h.elim
    · exact h.elim
  · unfold opCatT at z
    split at z
    · split at z <;> cases z
    · cases z
def opCatS : TV → TV → M TV
  | .d (.str a), .d (.str b) => if a.length + b.length ≤ sizeLine then okM (.d (.str (a ++ b))) else noM
  | _, _ => noM
theorem o_catS : OpS W S (binaryOp .Add) opCatS := by
  refine ⟨⟨_, fun X _ a => op_add_str, fun H0 H ι m x y vx vy Q s rx ry k h => ?_⟩, fun x y m e v m' z => ?_⟩
  · unfold opCatS at h
    split at h
    · rename_i a b
      cases rx; cases ry
      split at h
      · rename_i hz
        exact ⟨a, b, rfl, rfl, hz, h _ ι H Nxt.refl s (.str _)⟩
      · exact h.elim
    · exact h.elim
  · unfold opCatS at z
    split at z
    · split at z <;> cases z
    · cases z
def opAdd : TV → TV → M TV
  | .d (.int i), .d (.int j) => okM (.d (.int (i + j)))
  | .d (.str a), .d (.str b) => opCatS (.d (.str a)) (.d (.str b))
  | .d (.tup xs), .d (.tup ys) => opCatT (.d (.tup xs)) (.d (.tup ys))
  | x, y => opCat x y
theorem o_add : OpS W S (binaryOp .Add) opAdd := by
  refine OpS.or o_addI (OpS.or o_catS (OpS.or o_catT o_cat (f := fun x y m => match x, y with | .d (.tup xs), .d (.tup ys) => opCatT (.d (.tup xs)) (.d (.tup ys)) m | x, y => opCat x y m) ?_)
    (f := fun x y m => match x, y with | .d (.str a), .d (.str b) => opCatS (.d (.str a)) (.d (.str b)) m | .d (.tup xs), .d (.tup ys) => opCatT (.d (.tup xs)) (.d (.tup ys)) m | x, y => opCat x y m) ?_) ?_
  · intro x y m; split
    · exact .inl rfl
    · exact .inr rfl
  · intro x y m; split
    · exact .inl rfl
    · exact .inr rfl
    · rename_i h1 h2
      refine .inr ?_
      split
      · exact absurd rfl (h2 _ _ rfl)
      · rfl
  · intro x y m
    unfold opAdd
    split
    · exact .inl (by simp [opAddI, intOp])
    · exact .inr rfl
    · exact .inr rfl
    · rename_i h1 h2 h3
      refine .inr ?_
      split
      · exact absurd rfl (h2 _ _ rfl)
      · exact absurd rfl (h3 _ _ rfl)
      · rfl
end
end Mir

set_option maxHeartbeats 4000000
namespace Mir
open PySem L2
section
variable {W : Wd} {S : SCx} {Wx : WX}

/-! ### either reading -/
theorem PE.or {X : Cx} {e : Expr} {t1 t2 : TE} (h1 : PE X e t1) (h2 : PE X e t2) : PE X e (fun σ H Q => t1 σ H Q ∨ t2 σ H Q) :=
  ⟨fun pins s σ H Q I h => h.elim (h1.run pins s σ H Q I) (h2.run pins s σ H Q I)⟩
theorem SE.or {e : Expr} {m m1 m2 : EM} (h1 : SE W S e m1) (h2 : SE W S e m2) (h : ∀ env M, m env M = m1 env M ∨ m env M = m2 env M) : SE W S e m := by
  obtain ⟨t1, a1, b1⟩ := h1.ex
  obtain ⟨t2, a2, b2⟩ := h2.ex
  refine ⟨fun Wx σ H Q => t1 Wx σ H Q ∨ t2 Wx σ H Q, fun X Wx x => PE.or (a1 X Wx x) (a2 X Wx x), fun Wx σ H ι M env Q s r q => ?_⟩
  rcases h env M with e | e
  · rw [e] at q; exact .inl (b1 Wx σ H ι M env Q s r q)
  · rw [e] at q; exact .inr (b2 Wx σ H ι M env Q s r q)
theorem binE_or {f f1 f2 : TV → TV → M TV} {a b : EM} (h : ∀ x y m, f x y m = f1 x y m ∨ f x y m = f2 x y m) (env : Env) (M : Mem) : binE f a b env M = binE f1 a b env M ∨ binE f a b env M = binE f2 a b env M := by
  unfold binE bindM
  cases a env M with
  | ok x M1 =>
    dsimp only
    cases b env M1 with
    | ok y M2 => exact h x y M2
    | exc e v m => exact .inl rfl
    | no => exact .inl rfl
  | exc e v m => exact .inl rfl
  | no => exact .inl rfl

/-! ### data as a whole -/
def toPy (m : Mem) : Nat → D → Option PyData
  | 0, _ => none
  | _ + 1, .non => some .none
  | _ + 1, .bl b => some (.bool b)
  | _ + 1, .int i => some (.int i)
  | _ + 1, .str x => some (.str x)
  | n + 1, .tup xs => (xs.mapM (toPy m n)).map .tuple
  | n + 1, .ctup xs => (xs.mapM (toPy m n)).map .tuple
  | n + 1, .clst xs => (xs.mapM (toPy m n)).map .list
  | n + 1, .ref a => match m[a]? with
    | some (.lst xs) => (xs.mapM (toPy m n)).map .list
    | _ => none
def toPyT (m : Mem) : TV → Option PyData
  | .d x => toPy m 8 x
  | .l xs => (xs.mapM (toPy m 7)).map .list
theorem mapM_dp {H : Hp} {ι : List Addr} {f : D → Option PyData} (hf : ∀ d v py, Rep W H ι d v → f d = some py → Dp W.K H v py) : ∀ {ds : List D} {vs : List V} {ps : List PyData}, Reps W H ι ds vs → ds.mapM f = some ps → DpAll W.K H vs ps
  | [], _, ps, r, e => by
    cases r
    simp at e; subst e
    exact .nil
  | d :: ds, _, ps, r, e => by
    cases r with
    | cons r1 r2 =>
      rw [List.mapM_cons] at e
      cases e1 : f d with
      | none => rw [e1] at e; cases e
      | some p =>
        cases e2 : ds.mapM f with
        | none => rw [e1, e2] at e; cases e
        | some qs =>
          rw [e1, e2] at e
          have e' : p :: qs = ps := Option.some.inj e
          subst e'
          exact .cons (hf d _ p r1 e1) (mapM_dp hf r2 e2)
theorem toPy_dp {H : Hp} {ι : List Addr} {m : Mem} (s : Sim W ι m H) : ∀ (n : Nat) (d : D) (v : V) (py : PyData), Rep W H ι d v → toPy m n d = some py → Dp W.K H v py
  | 0, _, _, _, _, e => by cases e
  | n + 1, .non, _, _, r, e => by cases r; cases e; exact .non
  | n + 1, .bl b, _, _, r, e => by cases r; cases e; exact .bl b
  | n + 1, .int i, _, _, r, e => by cases r; cases e; exact .int i
  | n + 1, .str x, _, _, r, e => by cases r; cases e; exact .str x
  | n + 1, .tup xs, _, _, r, e => by
    cases r with
    | tup h r =>
      simp only [toPy, Option.map_eq_some_iff] at e
      obtain ⟨ps, e1, rfl⟩ := e
      exact .tup (SqT.of h) (mapM_dp (fun d v py r e => toPy_dp s n d v py r e) r e1)
  | n + 1, .ctup xs, _, _, r, e => by
    cases r with
    | ctup h r =>
      simp only [toPy, Option.map_eq_some_iff] at e
      obtain ⟨ps, e1, rfl⟩ := e
      exact .tup (CT.sq h) (mapM_dp (fun d v py r e => toPy_dp s n d v py r e) r e1)
  | n + 1, .clst xs, _, _, r, e => by
    cases r with
    | clst h r =>
      simp only [toPy, Option.map_eq_some_iff] at e
      obtain ⟨ps, e1, rfl⟩ := e
      exact .lst h.sq (mapM_dp (fun d v py r e => toPy_dp s n d v py r e) r e1)
  | n + 1, .ref a, _, _, r, e => by
    cases r with
    | ref hi =>
      simp only [toPy] at e
      split at e
      · rename_i xs hm
        obtain ⟨vs, h, r⟩ := s.obj _ _ _ hm hi
        simp only [Option.map_eq_some_iff] at e
        obtain ⟨ps, e1, rfl⟩ := e
        exact .lst (SqL.of h) (mapM_dp (fun d v py r e => toPy_dp s n d v py r e) r e1)
      · cases e
theorem toPyT_dp {H0 H : Hp} {ι : List Addr} {m : Mem} {x : TV} {v : V} {py : PyData} (s : Sim W ι m H) (r : RepT W H0 H ι x v) (e : toPyT m x = some py) : Dp W.K H v py := by
  cases x with
  | d x => exact toPy_dp s 8 x v py r e
  | l xs =>
    obtain ⟨p, vs, rfl, h, _, _, r⟩ := r
    simp only [toPyT, Option.map_eq_some_iff] at e
    obtain ⟨ps, e1, rfl⟩ := e
    exact .lst (SqL.of h) (mapM_dp (fun d v py r e => toPy_dp s 7 d v py r e) r e1)

/-! ### == -/
/-- flat values -/
def scalD : D → Bool
  | .non => true | .bl _ => true | .int _ => true | .str _ => true | _ => false
def eqS : D → D → Option Bool
  | .int i, .int j => some (decide (i = j))
  | .str a, .str b => some (decide (a = b))
  | _, _ => none
def eqG (m : Mem) (x y : TV) : Option Bool := match toPyT m x, toPyT m y with
  | some d, some e => if SeqAt.shaped d = true ∧ SeqAt.shaped e = true then some (PyData.eqv d e) else none
  | _, _ => none
def eqT (m : Mem) : TV → TV → Option Bool
  | .d (.int i), .d (.int j) => some (decide (i = j))
  | .d (.str a), .d (.str b) => some (decide (a = b))
  | x, y => eqG m x y
def opEq (x y : TV) : M TV := fun m => match eqT m x y with
  | some b => .ok (.d (.bl b)) m
  | none => .no
def opNe (x y : TV) : M TV := fun m => match eqT m x y with
  | some b => .ok (.d (.bl (!b))) m
  | none => .no
theorem eqT_dp {H0 H : Hp} {ι : List Addr} {m : Mem} {x y : TV} {vx vy : V} {b : Bool} (s : Sim W ι m H) (rx : RepT W H0 H ι x vx) (ry : RepT W H0 H ι y vy) (e : eqT m x y = some b) :
    (scal vx vy = true ∧ b = decide (vx = vy)) ∨ ∃ d e, Dp W.K H vx d ∧ Dp W.K H vy e ∧ SeqAt.shaped d = true ∧ SeqAt.shaped e = true ∧ b = PyData.eqv d e := by
  unfold eqT at e
  split at e
  · rename_i i j
    cases rx; cases ry; cases e
    refine .inl ⟨rfl, ?_⟩
    by_cases h : i = j
    · subst h; simp
    · rw [decide_eq_false h, decide_eq_false (fun z => h (V.int.inj z))]
  · rename_i i j
    cases rx; cases ry; cases e
    refine .inl ⟨rfl, ?_⟩
    by_cases h : i = j
    · subst h; simp
    · rw [decide_eq_false h, decide_eq_false (fun z => h (V.str.inj z))]
  · unfold eqG at e
    split at e
    · rename_i d f hd hf
      split at e
      · rename_i hs
        cases e
        exact .inr ⟨d, f, toPyT_dp s rx hd, toPyT_dp s ry hf, hs.1, hs.2, rfl⟩
      · cases e
    · cases e
theorem o_eq : OpS W S (compareOp .Eq) opEq := by
  refine ⟨⟨fun x y H Q => rEq x y H Q ∨ rEqD W.K x y H Q, fun X _ a pins s σ H x y u v Q I rx ry h => ?_, fun H0 H ι m x y vx vy Q s rx ry k h => ?_⟩, fun x y m e v m' z => ?_⟩
  · rcases h with h | h
    · exact op_eq pins s σ H x y u v Q I rx ry h
    · rw [← a.K] at h
      exact op_eqD (by have := a.units; omega) pins s σ H x y u v Q I rx ry h
  · unfold opEq at h
    split at h
    · rename_i b e
      have q := h (.bl b) ι H Nxt.refl s (.bl b)
      rcases eqT_dp s rx ry e with ⟨h1, h2⟩ | ⟨d, f, h1, h2, h3, h4, h5⟩
      · exact .inl ⟨h1, by rw [← h2]; exact q⟩
      · exact .inr ⟨d, f, h1, h2, h3, h4, by rw [← h5]; exact q⟩
    · exact h.elim
  · unfold opEq at z
    split at z <;> cases z
theorem o_ne : OpS W S (compareOp .NotEq) opNe := by
  refine ⟨⟨fun x y H Q => rNe x y H Q ∨ rNeD W.K x y H Q, fun X _ a pins s σ H x y u v Q I rx ry h => ?_, fun H0 H ι m x y vx vy Q s rx ry k h => ?_⟩, fun x y m e v m' z => ?_⟩
  · rcases h with h | h
    · exact op_ne pins s σ H x y u v Q I rx ry h
    · rw [← a.K] at h
      exact op_neD (by have := a.units; omega) pins s σ H x y u v Q I rx ry h
  · unfold opNe at h
    split at h
    · rename_i b e
      have q := h (.bl (!b)) ι H Nxt.refl s (.bl (!b))
      rcases eqT_dp s rx ry e with ⟨h1, h2⟩ | ⟨d, f, h1, h2, h3, h4, h5⟩
      · exact .inl ⟨h1, by rw [← h2]; exact q⟩
      · exact .inr ⟨d, f, h1, h2, h3, h4, by rw [← h5]; exact q⟩
    · exact h.elim
  · unfold opNe at z
    split at z <;> cases z

/-! ### is None -/
def isNon : TV → Bool
  | .d .non => true
  | _ => false
theorem isNon_rep {H0 H : Hp} {ι : List Addr} {x : TV} {v : V} (r : RepT W H0 H ι x v) : decide (v = .non) = isNon x := by
  cases x with
  | l ds => obtain ⟨p, vs, rfl, _⟩ := r; rfl
  | d x => cases r <;> rfl
def opIs (x y : TV) : M TV := if isNon y then okM (.d (.bl (isNon x))) else noM
def opIsNot (x y : TV) : M TV := if isNon y then okM (.d (.bl (!isNon x))) else noM
theorem rep_non {H0 H : Hp} {ι : List Addr} {x : TV} {v : V} (r : RepT W H0 H ι x v) (h : isNon x = true) : v = .non := by
  have e := isNon_rep r
  rw [h] at e
  exact of_decide_eq_true e
theorem o_is : OpS W S (compareOp .Is) opIs := by
  refine ⟨⟨_, fun X _ a => op_isN, fun H0 H ι m x y vx vy Q s rx ry k h => ?_⟩, fun x y m e v m' z => ?_⟩
  · unfold opIs at h
    split at h
    · rename_i hy
      refine ⟨rep_non ry hy, ?_⟩
      rw [isNon_rep rx]
      exact h _ ι H Nxt.refl s (.bl _)
    · exact h.elim
  · unfold opIs at z
    split at z <;> cases z
theorem o_isnot : OpS W S (compareOp .IsNot) opIsNot := by
  refine ⟨⟨_, fun X _ a => op_notN, fun H0 H ι m x y vx vy Q s rx ry k h => ?_⟩, fun x y m e v m' z => ?_⟩
  · unfold opIsNot at h
    split at h
    · rename_i hy
      refine ⟨rep_non ry hy, ?_⟩
      rw [isNon_rep rx]
      exact h _ ι H Nxt.refl s (.bl _)
    · exact h.elim
  · unfold opIsNot at z
    split at z <;> cases z

/-! ### made whole -/
def matD : TV → M D
  | .d x => okM x
  | .l ds => fun m => .ok (.ref m.length) (m ++ [.lst ds])
theorem matD_ok {H0 H : Hp} {ι0 ι : List Addr} {m m' : Mem} {x : TV} {v : V} {d : D} (s : Sim W ι m H) (n : Nxt ι0 H0 ι H) (r : RepT W H0 H ι x v) (e : matD x m = .ok d m') : ∃ ι', Nxt ι0 H0 ι' H ∧ Sim W ι' m' H ∧ Rep W H ι' d v := by
  cases x with
  | d x => cases e; exact ⟨ι, n, s, r⟩
  | l ds =>
    cases e
    obtain ⟨p, vs, rfl, h, hp, h0, r⟩ := r
    have kp : Kept ι H (ι ++ [p]) H := ⟨fun _ _ h => h, fun _ _ _ h => h, fun {i a} h => by
      rw [List.getElem?_append_left (List.getElem?_eq_some_iff.mp h).1]; exact h, fun _ _ _ h => h⟩
    refine ⟨ι ++ [p], ⟨?_, n.frm0, n.there, n.tups, n.frzs, n.sats⟩, s.adopt hp ⟨vs, h, r.kept kp⟩, ?_⟩
    · obtain ⟨l, e, hl⟩ := n.pre
      refine ⟨l ++ [p], by rw [e, List.append_assoc], fun a ha => ?_⟩
      rcases List.mem_append.mp ha with z | z
      · exact hl a z
      · have : a = p := by simpa using z
        rw [this]; exact h0
    · refine .ref ?_
      rw [← s.len, List.getElem?_append_right (Nat.le_refl _)]
      simp
theorem matD_res (x : TV) (m : Mem) : ∃ d m', matD x m = .ok d m' := by
  cases x with
  | d x => exact ⟨_, _, rfl⟩
  | l ds => exact ⟨_, _, rfl⟩

def PostD (W : Wd) (ι : List Addr) (H : Hp) (Q : VK) : D → Mem → Prop := fun d M' => ∀ v ι' H', Nxt ι H ι' H' → Sim W ι' M' H' → Rep W H' ι' d v → Q v H'
def SimD (W : Wd) (t : TE) (Wx : WX) (m : Env → M D) : Prop := ∀ (σ : L2.St) (H : Hp) (ι : List Addr) (M : Mem) (env : Env) (Q : VK), Sim W ι M H → REnv W H ι env σ → wpR (m env M) (PostD W ι H Q) (PostX W ι H Wx) → t σ H Q
structure SD (W : Wd) (S : SCx) (e : Expr) (m : Env → M D) : Prop where
  ex : ∃ t : WX → TE, (∀ X Wx, At W S X Wx → PE X e (t Wx)) ∧ ∀ Wx, SimD W (t Wx) Wx m
def matE (m : EM) : Env → M D := fun env => bindM (m env) matD
theorem sd {e : Expr} {m : EM} (h : SE W S e m) : SD W S e (matE m) := by
  obtain ⟨t, a, b⟩ := h.ex
  refine ⟨t, a, fun Wx σ H ι M env Q s r q => b Wx σ H ι M env Q s r ?_⟩
  unfold matE at q
  rw [wpR_bind] at q
  refine wpR_mono q (fun x M1 h1 v ι1 H1 n1 s1 r1 => ?_) fun _ _ _ h => h
  obtain ⟨d, m', e⟩ := matD_res x M1
  rw [e] at h1
  obtain ⟨ι', n2, s2, r2⟩ := matD_ok s1 n1 r1 e
  exact h1 v ι' H1 n2 s2 r2
/-- a value is a value -/
theorem se_of {e : Expr} {m : Env → M D} (h : SD W S e m) : SE W S e (fun env => bindM (m env) fun d => okM (.d d)) := by
  obtain ⟨t, a, b⟩ := h.ex
  refine ⟨t, a, fun Wx σ H ι M env Q s r q => b Wx σ H ι M env Q s r ?_⟩
  rw [wpR_bind] at q
  exact wpR_mono q (fun x M1 h1 v ι1 H1 n1 s1 r1 => h1 v ι1 H1 n1 s1 r1) fun _ _ _ h => h

/-! ### argument lists, displays -/
def PostA (W : Wd) (ι : List Addr) (H : Hp) (Q : List V → Hp → Prop) : List D → Mem → Prop := fun ds M' => ∀ vs ι' H', Nxt ι H ι' H' → Sim W ι' M' H' → Reps W H' ι' ds vs → Q vs H'
def SimA (W : Wd) (t : TA) (Wx : WX) (m : Env → M (List D)) : Prop := ∀ (σ : L2.St) (H : Hp) (ι : List Addr) (M : Mem) (env : Env) (Q : List V → Hp → Prop), Sim W ι M H → REnv W H ι env σ → wpR (m env M) (PostA W ι H Q) (PostX W ι H Wx) → t σ H Q
structure SA (W : Wd) (S : SCx) (es : List Expr) (m : Env → M (List D)) : Prop where
  ex : ∃ t : WX → TA, (∀ X Wx, At W S X Wx → PA X es (t Wx)) ∧ ∀ Wx, SimA W (t Wx) Wx m
  len : ∀ env M ds M', m env M = .ok ds M' → ds.length = es.length
def nilA : Env → M (List D) := fun _ => okM []
def consA (a : Env → M D) (r : Env → M (List D)) : Env → M (List D) := fun env => bindM (a env) fun d => bindM (r env) fun ds => okM (d :: ds)
theorem sa_nil : SA W S [] nilA := ⟨⟨fun _ => tNil, fun _ _ _ => pa_nil, fun Wx σ H ι M env Q s r h => h [] ι H Nxt.refl s .nil⟩, fun _ _ _ _ e => by cases e; rfl⟩
theorem sa_cons {e : Expr} {es : List Expr} {a : Env → M D} {r : Env → M (List D)} (ha : SD W S e a) (hr : SA W S es r) (hs : ∀ env, starEach (e :: es) env = (false, eval e env) :: starEach es env := by intro _; rfl) : SA W S (e :: es) (consA a r) := by
  obtain ⟨t, a1, b1⟩ := ha.ex
  obtain ⟨u, a2, b2⟩ := hr.ex
  refine ⟨⟨fun Wx => tCons (t Wx) (u Wx), fun X Wx x => pa_cons (a1 X Wx x) (a2 X Wx x) (hs _), fun Wx σ H ι M env Q s re h => ?_⟩, fun env M ds M' e => ?_⟩
  · unfold consA at h
    rw [wpR_bind] at h
    refine b1 Wx σ H ι M env _ s re (wpR_mono h (fun d M1 h1 v ι1 H1 n1 s1 r1 => ?_) fun _ _ _ h => h)
    rw [wpR_bind] at h1
    refine b2 Wx σ H1 ι1 M1 env _ s1 (re.mono n1) (wpR_mono h1 (fun ds M2 h2 vs ι2 H2 n2 s2 r2 => ?_) fun _ _ _ h => PostX.next n1 h)
    exact h2 (v :: vs) ι2 H2 (n1.trans n2) s2 (.cons (r1.mono n2) r2)
  · unfold consA bindM at e
    cases e1 : a env M with
    | ok d M1 =>
      rw [e1] at e
      dsimp only at e
      cases e2 : r env M1 with
      | ok ds' M2 =>
        rw [e2] at e
        cases e
        simp [hr.len env M1 _ _ e2]
      | exc _ _ _ => rw [e2] at e; cases e
      | no => rw [e2] at e; cases e
    | exc _ _ _ => rw [e1] at e; cases e
    | no => rw [e1] at e; cases e
def tupE (r : Env → M (List D)) : EM := fun env => bindM (r env) fun ds => okM (.d (.tup ds))
def lstE (r : Env → M (List D)) : EM := fun env => bindM (r env) fun ds => okM (.l ds)
theorem wpR_and {α : Type} {r : Res α} {q : α → Mem → Prop} {x : Ex → Env → Mem → Prop} (h : wpR r q x) : wpR r (fun a m => r = .ok a m ∧ q a m) x := by
  cases r with
  | ok a m => exact ⟨rfl, h⟩
  | exc e v m => exact h
  | no => exact h
theorem se_tup {es : List Expr} {r : Env → M (List D)} {k : Nat} {pos : Pos} (h : SA W S es r) (hl : es.length ≤ 1000 := by decide) : SE W S (.Tuple es k pos) (tupE r) := by
  obtain ⟨t, a, b⟩ := h.ex
  refine ⟨fun Wx => tTup (t Wx), fun X Wx x => pe_tup (a X Wx x), fun Wx σ H ι M env Q s re q => ?_⟩
  unfold tupE at q
  rw [wpR_bind] at q
  refine b Wx σ H ι M env _ s re (wpR_mono (wpR_and q) (fun ds M1 ⟨e, h1⟩ vs ι1 H1 n1 s1 r1 => ⟨?_, fun p hp => ?_⟩) fun _ _ _ h => h)
  · rw [← r1.length, h.len _ _ _ _ e]
    exact Nat.le_trans hl (by decide)
  · have n := Nxt.new (ι := ι1) (o := .tup vs) hp
    exact h1 _ ι1 _ (n1.trans n) (s1.new hp) (Rep.tup upd_same (r1.mono n))
theorem se_lst {es : List Expr} {r : Env → M (List D)} {pos : Pos} (h : SA W S es r) (hl : es.length ≤ 1000 := by decide) : SE W S (.List es pos) (lstE r) := by
  obtain ⟨t, a, b⟩ := h.ex
  refine ⟨fun Wx => tLst (t Wx), fun X Wx x => pe_lst (a X Wx x), fun Wx σ H ι M env Q s re q => ?_⟩
  unfold lstE at q
  rw [wpR_bind] at q
  refine b Wx σ H ι M env _ s re (wpR_mono (wpR_and q) (fun ds M1 ⟨e, h1⟩ vs ι1 H1 n1 s1 r1 => ⟨?_, fun p hp => ?_⟩) fun _ _ _ h => h)
  · rw [← r1.length, h.len _ _ _ _ e]
    exact Nat.le_trans hl (by decide)
  · have n := Nxt.new (ι := ι1) (o := .lst vs) hp
    exact h1 _ ι1 _ (n1.trans n) (s1.new hp) ⟨p, vs, rfl, upd_same, s1.out hp, n1.back hp, r1.mono n⟩
end
end Mir

set_option maxHeartbeats 4000000
namespace Mir
open PySem L2
section
variable {W : Wd} {S : SCx} {Wx : WX}

/-! ### truth -/
def truth (m : Mem) : TV → Option Bool
  | .d .non => some false
  | .d (.bl b) => some b
  | .d (.int i) => some (i != 0)
  | .d (.str x) => if x.length ≤ sizeLine then some ((x.length : Int) != 0) else none
  | .d (.tup xs) => some (!xs.isEmpty)
  | .d (.ctup xs) => some (!xs.isEmpty)
  | x => (listOf m x).map fun xs => !xs.isEmpty
theorem Reps.empty {H : Hp} {ι : List Addr} {ds : List D} {vs : List V} (r : Reps W H ι ds vs) : vs.isEmpty = ds.isEmpty := by
  cases r <;> rfl
theorem truth_rep {H0 H : Hp} {ι : List Addr} {m : Mem} {x : TV} {v : V} {b : Bool} (s : Sim W ι m H) (r : RepT W H0 H ι x v) (e : truth m x = some b) : TruV W.K v H b := by
  unfold truth at e
  split at e
  · cases e; cases r; rfl
  · cases e; cases r; rfl
  · cases e; cases r; rfl
  · split at e
    · rename_i h
      cases e; cases r; exact ⟨h, rfl⟩
    · cases e
  · cases e
    cases r with
    | tup h r => exact .inr (.inl ⟨_, SqT.of h, by rw [r.empty]⟩)
  · cases e
    cases r with
    | ctup h r => exact .inr (.inl ⟨_, CT.sq h, by rw [r.empty]⟩)
  · simp only [Option.map_eq_some_iff] at e
    obtain ⟨xs, e, rfl⟩ := e
    obtain ⟨p, vs, rfl, h, r⟩ := listOf_rep s r e
    exact .inl ⟨vs, h, by rw [r.empty]⟩
def truthM (x : TV) : M Bool := fun m => match truth m x with
  | some b => .ok b m
  | none => .no

/-! ### tests -/
abbrev TMs := Env → M Bool
def PostT (W : Wd) (ι : List Addr) (H : Hp) (Q : Bool → Hp → Prop) : Bool → Mem → Prop := fun b M' => ∀ ι' H', Nxt ι H ι' H' → Sim W ι' M' H' → Q b H'
def SimT (W : Wd) (t : TT) (Wx : WX) (m : TMs) : Prop := ∀ (σ : L2.St) (H : Hp) (ι : List Addr) (M : Mem) (env : Env) (Q : Bool → Hp → Prop), Sim W ι M H → REnv W H ι env σ → wpR (m env M) (PostT W ι H Q) (PostX W ι H Wx) → t σ H Q
structure ST (W : Wd) (S : SCx) (e : Expr) (m : TMs) : Prop where
  ex : ∃ t : WX → TT, (∀ X Wx, At W S X Wx → PT X e (t Wx)) ∧ ∀ Wx, SimT W (t Wx) Wx m
/-- the same whatever the whole is -/
structure SW (W : Wd) (S : SCx) (e : Expr) (m : TMs) : Prop where
  ex : ∃ t : WX → TT, (∀ X Wx, At W S X Wx → PW X e (t Wx)) ∧ ∀ Wx, SimT W (t Wx) Wx m
def tstT (m : EM) : TMs := fun env => bindM (m env) truthM
theorem st_val {e : Expr} {m : EM} (h : SE W S e m) (he : ∀ env whole, isTrue e env whole = (do let v ← whole; standAt e.pos; holding [v] (truthy v)) := by intro _ _; rfl) : ST W S e (tstT m) := by
  obtain ⟨t, a, b⟩ := h.ex
  refine ⟨fun Wx σ H Q => t Wx σ H fun x H' => ∃ k, TruV W.K x H' k ∧ Q k H', fun X Wx x => ?_, fun Wx σ H ι M env Q s r q => ?_⟩
  · have := pt_truth (a X Wx x) (fun whole => he X.env whole)
    rw [x.K] at this
    exact this
  · unfold tstT at q
    rw [wpR_bind] at q
    refine b Wx σ H ι M env _ s r (wpR_mono q (fun x M1 h1 v ι1 H1 n1 s1 r1 => ?_) fun _ _ _ h => h)
    unfold truthM at h1
    split at h1
    · rename_i k e
      exact ⟨k, truth_rep s1 r1 e, h1 ι1 H1 n1 s1⟩
    · exact h1.elim
/-- a comparison as a test -/
def boolT : TV → M Bool
  | .d (.bl b) => okM b
  | _ => noM
def bT (m : EM) : TMs := fun env => bindM (m env) boolT
theorem st_cmp {op : CmpOp} {f : TV → TV → M TV} {a b : Expr} {ma mb : EM} {pos : Pos} (o : OpS W S (compareOp op) f) (ha : SE W S a ma) (hb : SE W S b mb) (hm : behindInMarks op b = false := by first | exact nomark _ | rfl) :
    ST W S (.Compare a [op] [b] pos) (bT (binE f ma mb)) := by
  obtain ⟨⟨r, o1, o2⟩, o3⟩ := o
  obtain ⟨ta, a1, a2⟩ := ha.ex
  obtain ⟨tb, b1, b2⟩ := hb.ex
  refine ⟨fun Wx => tTest (tOp r (ta Wx) (tb Wx)), fun X Wx x => pt_cmpR (o1 X Wx x) (a1 X Wx x) (b1 X Wx x) hm, fun Wx σ H ι M env Q s re q => ?_⟩
  have k := simE_op (a2 Wx) (b2 Wx) o2 o3
  refine k σ H ι M env _ s re ?_
  unfold bT at q
  rw [wpR_bind] at q
  refine wpR_mono q (fun x M1 h1 v ι1 H1 n1 s1 r1 => ?_) fun _ _ _ h => h
  unfold boolT at h1
  split at h1
  · cases r1
    exact ⟨_, rfl, h1 ι1 H1 n1 s1⟩
  · exact h1.elim
theorem st_w {e : Expr} {m : TMs} (h : SW W S e m) : ST W S e m := by
  obtain ⟨t, a, b⟩ := h.ex
  exact ⟨t, fun X Wx x => (a X Wx x).pt, b⟩
def notT (m : TMs) : TMs := fun env => bindM (m env) fun b => okM (!b)
theorem st_not {e : Expr} {m : TMs} {pos : Pos} (h : ST W S e m) : ST W S (.UnaryOp .Not e pos) (notT m) := by
  obtain ⟨t, a, b⟩ := h.ex
  refine ⟨fun Wx => tNot (t Wx), fun X Wx x => pt_not (a X Wx x), fun Wx σ H ι M env Q s r q => ?_⟩
  unfold notT at q
  rw [wpR_bind] at q
  exact b Wx σ H ι M env _ s r (wpR_mono q (fun x M1 h1 ι1 H1 n1 s1 => h1 ι1 H1 n1 s1) fun _ _ _ h => h)
def andT (a b : TMs) : TMs := fun env => bindM (a env) fun x => if x = true then b env else okM false
def orT (a b : TMs) : TMs := fun env => bindM (a env) fun x => if x = true then okM true else b env
theorem sw_and1 {e : Expr} {m : TMs} {pos : Pos} (h : ST W S e m) : SW W S (.BoolOp .And [e] pos) m := by
  obtain ⟨t, a, b⟩ := h.ex
  exact ⟨t, fun X Wx x => pw_and1 (a X Wx x), b⟩
theorem sw_or1 {e : Expr} {m : TMs} {pos : Pos} (h : ST W S e m) : SW W S (.BoolOp .Or [e] pos) m := by
  obtain ⟨t, a, b⟩ := h.ex
  exact ⟨t, fun X Wx x => pw_or1 (a X Wx x), b⟩
theorem sw_and {a b : Expr} {rest : List Expr} {ma mb : TMs} {pos : Pos} (ha : ST W S a ma) (hb : SW W S (.BoolOp .And (b :: rest) pos) mb) : SW W S (.BoolOp .And (a :: b :: rest) pos) (andT ma mb) := by
  obtain ⟨t, a1, b1⟩ := ha.ex
  obtain ⟨u, a2, b2⟩ := hb.ex
  refine ⟨fun Wx => tAnd (t Wx) (u Wx), fun X Wx x => pw_and (a1 X Wx x) (a2 X Wx x), fun Wx σ H ι M env Q s r q => ?_⟩
  unfold andT at q
  rw [wpR_bind] at q
  refine b1 Wx σ H ι M env _ s r (wpR_mono q (fun x M1 h1 ι1 H1 n1 s1 => ?_) fun _ _ _ h => h)
  cases x with
  | true =>
    show u Wx σ H1 Q
    refine b2 Wx σ H1 ι1 M1 env Q s1 (r.mono n1) (wpR_mono h1 (fun y M2 h2 ι2 H2 n2 s2 => h2 ι2 H2 (n1.trans n2) s2) fun _ _ _ h => PostX.next n1 h)
  | false =>
    show Q false H1
    exact h1 ι1 H1 n1 s1
theorem sw_or {a b : Expr} {rest : List Expr} {ma mb : TMs} {pos : Pos} (ha : ST W S a ma) (hb : SW W S (.BoolOp .Or (b :: rest) pos) mb) : SW W S (.BoolOp .Or (a :: b :: rest) pos) (orT ma mb) := by
  obtain ⟨t, a1, b1⟩ := ha.ex
  obtain ⟨u, a2, b2⟩ := hb.ex
  refine ⟨fun Wx => tOr (t Wx) (u Wx), fun X Wx x => pw_or (a1 X Wx x) (a2 X Wx x), fun Wx σ H ι M env Q s r q => ?_⟩
  unfold orT at q
  rw [wpR_bind] at q
  refine b1 Wx σ H ι M env _ s r (wpR_mono q (fun x M1 h1 ι1 H1 n1 s1 => ?_) fun _ _ _ h => h)
  cases x with
  | true =>
    show Q true H1
    exact h1 ι1 H1 n1 s1
  | false =>
    show u Wx σ H1 Q
    refine b2 Wx σ H1 ι1 M1 env Q s1 (r.mono n1) (wpR_mono h1 (fun y M2 h2 ι2 H2 n2 s2 => h2 ι2 H2 (n1.trans n2) s2) fun _ _ _ h => PostX.next n1 h)

/-! ### and, or, not as values -/
def andE (a b : EM) : EM := fun env => bindM (a env) fun x => bindM (truthM x) fun k => if k = true then b env else okM x
def orE (a b : EM) : EM := fun env => bindM (a env) fun x => bindM (truthM x) fun k => if k = true then okM x else b env
def notE (a : EM) : EM := fun env => bindM (a env) fun x => bindM (truthM x) fun k => okM (.d (.bl (!k)))
theorem truthM_wp {x : TV} {m : Mem} {q : Bool → Mem → Prop} {xx : Ex → Env → Mem → Prop} (h : wpR (truthM x m) q xx) : ∃ k, truth m x = some k ∧ q k m := by
  unfold truthM at h
  split at h
  · rename_i k e; exact ⟨k, e, h⟩
  · exact h.elim
theorem se_one {op : BoolOp} {e : Expr} {m : EM} {pos : Pos} (h : SE W S e m) : SE W S (.BoolOp op [e] pos) m := by
  obtain ⟨t, a, b⟩ := h.ex
  exact ⟨t, fun X Wx x => pe_one (a X Wx x), b⟩
theorem se_and {a b : Expr} {rest : List Expr} {ma mb : EM} {pos : Pos} (ha : SE W S a ma) (hb : SE W S (.BoolOp .And (b :: rest) pos) mb) : SE W S (.BoolOp .And (a :: b :: rest) pos) (andE ma mb) := by
  obtain ⟨t, a1, b1⟩ := ha.ex
  obtain ⟨u, a2, b2⟩ := hb.ex
  refine ⟨fun Wx => tAndT W.K (t Wx) (u Wx), fun X Wx x => by rw [← x.K]; exact pe_andT (a1 X Wx x) (a2 X Wx x), fun Wx σ H ι M env Q s r q => ?_⟩
  unfold andE at q
  rw [wpR_bind] at q
  refine b1 Wx σ H ι M env _ s r (wpR_mono q (fun x M1 h1 v ι1 H1 n1 s1 r1 => ?_) fun _ _ _ h => h)
  rw [wpR_bind] at h1
  obtain ⟨k, e, h1⟩ := truthM_wp h1
  refine ⟨k, truth_rep s1 r1 e, ?_⟩
  cases k with
  | true =>
    show u Wx σ H1 Q
    exact b2 Wx σ H1 ι1 M1 env Q s1 (r.mono n1) (wpR_mono h1 (fun y M2 h2 v2 ι2 H2 n2 s2 r2 => h2 v2 ι2 H2 (n1.trans n2) s2 (r2.back n1)) fun _ _ _ h => PostX.next n1 h)
  | false =>
    show Q v H1
    exact h1 v ι1 H1 n1 s1 r1
theorem se_or {a b : Expr} {rest : List Expr} {ma mb : EM} {pos : Pos} (ha : SE W S a ma) (hb : SE W S (.BoolOp .Or (b :: rest) pos) mb) : SE W S (.BoolOp .Or (a :: b :: rest) pos) (orE ma mb) := by
  obtain ⟨t, a1, b1⟩ := ha.ex
  obtain ⟨u, a2, b2⟩ := hb.ex
  refine ⟨fun Wx => tOrT W.K (t Wx) (u Wx), fun X Wx x => by rw [← x.K]; exact pe_orT (a1 X Wx x) (a2 X Wx x), fun Wx σ H ι M env Q s r q => ?_⟩
  unfold orE at q
  rw [wpR_bind] at q
  refine b1 Wx σ H ι M env _ s r (wpR_mono q (fun x M1 h1 v ι1 H1 n1 s1 r1 => ?_) fun _ _ _ h => h)
  rw [wpR_bind] at h1
  obtain ⟨k, e, h1⟩ := truthM_wp h1
  refine ⟨k, truth_rep s1 r1 e, ?_⟩
  cases k with
  | false =>
    show u Wx σ H1 Q
    exact b2 Wx σ H1 ι1 M1 env Q s1 (r.mono n1) (wpR_mono h1 (fun y M2 h2 v2 ι2 H2 n2 s2 r2 => h2 v2 ι2 H2 (n1.trans n2) s2 (r2.back n1)) fun _ _ _ h => PostX.next n1 h)
  | true =>
    show Q v H1
    exact h1 v ι1 H1 n1 s1 r1
theorem se_not {a : Expr} {ma : EM} {pos : Pos} (ha : SE W S a ma) : SE W S (.UnaryOp .Not a pos) (notE ma) := by
  obtain ⟨t, a1, b1⟩ := ha.ex
  refine ⟨fun Wx => tNotT W.K (t Wx), fun X Wx x => by rw [← x.K]; exact pe_notT (a1 X Wx x), fun Wx σ H ι M env Q s r q => ?_⟩
  unfold notE at q
  rw [wpR_bind] at q
  refine b1 Wx σ H ι M env _ s r (wpR_mono q (fun x M1 h1 v ι1 H1 n1 s1 r1 => ?_) fun _ _ _ h => h)
  rw [wpR_bind] at h1
  obtain ⟨k, e, h1⟩ := truthM_wp h1
  exact ⟨k, truth_rep s1 r1 e, h1 _ ι1 H1 n1 s1 (.bl _)⟩
def negE (a : EM) : EM := fun env => bindM (a env) fun x => match x with
  | .d (.int i) => okM (.d (.int (-i)))
  | _ => noM
theorem se_neg {a : Expr} {ma : EM} {pos : Pos} (ha : SE W S a ma) : SE W S (.UnaryOp .USub a pos) (negE ma) := by
  obtain ⟨t, a1, b1⟩ := ha.ex
  refine ⟨fun Wx => tUn _ (t Wx), fun X Wx x => pe_un un_neg (a1 X Wx x), fun Wx σ H ι M env Q s r q => ?_⟩
  unfold negE at q
  rw [wpR_bind] at q
  refine b1 Wx σ H ι M env _ s r (wpR_mono q (fun x M1 h1 v ι1 H1 n1 s1 r1 => ?_) fun _ _ _ h => h)
  split at h1
  · cases r1
    exact ⟨_, rfl, h1 _ ι1 H1 n1 s1 (.int _)⟩
  · exact h1.elim
/-- a if t else b -/
def ifE (t : TMs) (a b : EM) : EM := fun env => bindM (t env) fun x => if x = true then a env else b env
theorem se_if {c a b : Expr} {mc : TMs} {ma mb : EM} {pos : Pos} (hc : ST W S c mc) (ha : SE W S a ma) (hb : SE W S b mb) : SE W S (.IfExp c a b pos) (ifE mc ma mb) := by
  obtain ⟨t, a0, b0⟩ := hc.ex
  obtain ⟨u, a1, b1⟩ := ha.ex
  obtain ⟨w, a2, b2⟩ := hb.ex
  refine ⟨fun Wx => tIf (t Wx) (u Wx) (w Wx), fun X Wx x => pe_ifExp (a0 X Wx x) (a1 X Wx x) (a2 X Wx x), fun Wx σ H ι M env Q s r q => ?_⟩
  unfold ifE at q
  rw [wpR_bind] at q
  refine b0 Wx σ H ι M env _ s r (wpR_mono q (fun x M1 h1 ι1 H1 n1 s1 => ?_) fun _ _ _ h => h)
  cases x with
  | true =>
    show u Wx σ H1 Q
    exact b1 Wx σ H1 ι1 M1 env Q s1 (r.mono n1) (wpR_mono h1 (fun y M2 h2 v2 ι2 H2 n2 s2 r2 => h2 v2 ι2 H2 (n1.trans n2) s2 (r2.back n1)) fun _ _ _ h => PostX.next n1 h)
  | false =>
    show w Wx σ H1 Q
    exact b2 Wx σ H1 ι1 M1 env Q s1 (r.mono n1) (wpR_mono h1 (fun y M2 h2 v2 ι2 H2 n2 s2 r2 => h2 v2 ι2 H2 (n1.trans n2) s2 (r2.back n1)) fun _ _ _ h => PostX.next n1 h)
/-- a < b < c -/
def chainE (f g : TV → TV → M TV) (a b c : EM) : EM := fun env => bindM (a env) fun x => bindM (b env) fun y => bindM (f x y) fun z => match z with
  | .d (.bl k) => if k = true then bindM (c env) fun w => g y w else okM (.d (.bl false))
  | _ => noM
theorem simE_chain {ta tb tc : TE} {ma mb mc : EM} {r r' : R2} {f g : TV → TV → M TV} (ha : SimE W ta Wx ma) (hb : SimE W tb Wx mb) (hc : SimE W tc Wx mc) (hr : OpSim W r f) (hr' : OpSim W r' g) (hf : ∀ x y m e v m', f x y m ≠ .exc e v m') (hg : ∀ x y m e v m', g x y m ≠ .exc e v m') :
    SimE W (tChain r r' ta tb tc) Wx (chainE f g ma mb mc) := by
  intro σ H ι M env Q s re h
  refine ha σ H ι M env _ s re ?_
  unfold chainE at h
  rw [wpR_bind] at h
  refine wpR_mono h (fun x M1 h1 v ι1 H1 n1 s1 r1 => ?_) fun _ _ _ h => h
  refine hb σ H1 ι1 M1 env _ s1 (re.mono n1) ?_
  rw [wpR_bind] at h1
  refine wpR_mono h1 (fun y M2 h2 u ι2 H2 n2 s2 r2 => ?_) fun _ _ _ h => PostX.next n1 h
  refine hr H H2 ι2 M2 x y v u _ s2 (r1.mono n2) (r2.back n1) (fun p hp => n1.back (n2.back hp)) ?_
  rw [wpR_bind] at h2
  cases e : f x y M2 with
  | exc a b c => exact absurd e (hf x y M2 a b c)
  | no => rw [e] at h2; exact h2
  | ok z M3 =>
    rw [e] at h2
    refine fun v3 ι3 H3 n3 s3 r3 => ?_
    have h2 : wpR ((match z with
      | .d (.bl kk) => if kk = true then bindM (mc env) fun w => g y w else okM (.d (.bl false))
      | _ => noM) M3) (PostE W ι H Q) (PostX W ι H Wx) := h2
    split at h2
    · rename_i kk _ 
      cases r3
      refine ⟨kk, rfl, ?_⟩
      cases kk with
      | false => exact h2 _ ι3 H3 ((n1.trans n2).trans n3) s3 (Rep.bl false)
      | true =>
        rw [if_pos rfl] at h2
        rw [if_pos rfl]
        rw [wpR_bind] at h2
        have n03 := (n1.trans n2).trans n3
        refine hc σ H3 ι3 M3 env _ s3 (re.mono n03) (wpR_mono h2 (fun w M4 h4 v4 ι4 H4 n4 s4 r4 => ?_) fun _ _ _ h => PostX.next n03 h)
        have n04 := n03.trans n4
        refine hr' H H4 ι4 M4 y w u v4 Q s4 (((r2.mono n3).mono n4).back n1) (r4.back n03) (fun p hp => n04.back hp) ?_
        cases e4 : g y w M4 with
        | exc a b c => exact absurd e4 (hg y w M4 a b c)
        | no => rw [e4] at h4; exact h4
        | ok z5 M5 =>
          rw [e4] at h4
          exact fun v5 ι5 H5 n5 s5 r5 => h4 v5 ι5 H5 (n04.trans n5) s5 (r5.back n04)
    · exact h2.elim
theorem se_chain {op op' : CmpOp} {f g : TV → TV → M TV} {a b c : Expr} {ma mb mc : EM} {pos : Pos} (o : OpS W S (compareOp op) f) (o' : OpS W S (compareOp op') g) (ha : SE W S a ma) (hb : SE W S b mb) (hc : SE W S c mc)
    (hm : lastMarks [op, op'] [b, c] = false := by with_unfolding_all rfl) : SE W S (.Compare a [op, op'] [b, c] pos) (chainE f g ma mb mc) := by
  obtain ⟨⟨r, o1, o2⟩, o3⟩ := o
  obtain ⟨⟨r', p1, p2⟩, p3⟩ := o'
  obtain ⟨ta, a1, a2⟩ := ha.ex
  obtain ⟨tb, b1, b2⟩ := hb.ex
  obtain ⟨tc, c1, c2⟩ := hc.ex
  exact ⟨fun Wx => tChain r r' (ta Wx) (tb Wx) (tc Wx), fun X Wx x => pe_chain (o1 X Wx x) (p1 X Wx x) (a1 X Wx x) (b1 X Wx x) (c1 X Wx x) hm, fun Wx => simE_chain (a2 Wx) (b2 Wx) (c2 Wx) o2 p2 o3 p3⟩
theorem st_chain {op op' : CmpOp} {f g : TV → TV → M TV} {a b c : Expr} {ma mb mc : EM} {pos : Pos} (o : OpS W S (compareOp op) f) (o' : OpS W S (compareOp op') g) (ha : SE W S a ma) (hb : SE W S b mb) (hc : SE W S c mc)
    (hm : lastMarks [op, op'] [b, c] = false := by with_unfolding_all rfl) : ST W S (.Compare a [op, op'] [b, c] pos) (bT (chainE f g ma mb mc)) := by
  obtain ⟨⟨r, o1, o2⟩, o3⟩ := o
  obtain ⟨⟨r', p1, p2⟩, p3⟩ := o'
  obtain ⟨ta, a1, a2⟩ := ha.ex
  obtain ⟨tb, b1, b2⟩ := hb.ex
  obtain ⟨tc, c1, c2⟩ := hc.ex
  refine ⟨fun Wx => tTest (tChain r r' (ta Wx) (tb Wx) (tc Wx)), fun X Wx x => pt_chain (o1 X Wx x) (p1 X Wx x) (a1 X Wx x) (b1 X Wx x) (c1 X Wx x) hm, fun Wx σ H ι M env Q s re q => ?_⟩
  refine simE_chain (a2 Wx) (b2 Wx) (c2 Wx) o2 p2 o3 p3 σ H ι M env _ s re ?_
  unfold bT at q
  rw [wpR_bind] at q
  refine wpR_mono q (fun x M1 h1 v ι1 H1 n1 s1 r1 => ?_) fun _ _ _ h => h
  unfold boolT at h1
  split at h1
  · cases r1
    exact ⟨_, rfl, h1 ι1 H1 n1 s1⟩
  · exact h1.elim
end
end Mir

set_option maxHeartbeats 4000000
namespace Mir
open PySem L2
section
variable {W : Wd} {S : SCx} {Wx : WX}

/-! ### places -/
theorem Reps.atI {H : Hp} {ι : List Addr} {ds : List D} {vs : List V} {i : Int} {d : D} (r : Reps W H ι ds vs) (e : L2.atI ds i = some d) : ∃ v, L2.atI vs i = some v ∧ Rep W H ι d v := by
  unfold L2.atI at *
  rw [← r.length]
  cases h : ixN ds.length i with
  | none => rw [h] at e; cases e
  | some j =>
    rw [h] at e
    exact r.get e
structure IxS (W : Wd) (S : SCx) (f : TV → TV → M TV) : Prop where
  ex : ∃ r : R2, (∀ X Wx, At W S X Wx → IxR X r) ∧ OpSim W r f
  nx : ∀ x y m e v m', f x y m ≠ .exc e v m'
theorem IxS.or {f f1 f2 : TV → TV → M TV} (h1 : IxS W S f1) (h2 : IxS W S f2) (h : ∀ x y m, f x y m = f1 x y m ∨ f x y m = f2 x y m) : IxS W S f := by
  obtain ⟨⟨r1, a1, b1⟩, n1⟩ := h1
  obtain ⟨⟨r2, a2, b2⟩, n2⟩ := h2
  refine ⟨⟨fun x y H Q => r1 x y H Q ∨ r2 x y H Q, fun X Wx a => IxR.or (a1 X Wx a) (a2 X Wx a), fun H0 H ι m x y vx vy Q s rx ry k q => ?_⟩, fun x y m e v m' z => ?_⟩
  · rcases h x y m with e | e
    · rw [e] at q; exact .inl (b1 H0 H ι m x y vx vy Q s rx ry k q)
    · rw [e] at q; exact .inr (b2 H0 H ι m x y vx vy Q s rx ry k q)
  · rcases h x y m with e' | e'
    · exact n1 x y m e v m' (e'.symm.trans z)
    · exact n2 x y m e v m' (e'.symm.trans z)
def idxOf (o : Option (List D)) (y : TV) (m : Mem) : Res TV := match o, y with
  | some ds, .d (.int i) => match L2.atI ds i with
    | some d => .ok (.d d) m
    | none => .no
  | _, _ => .no
theorem idxOf_nx {o : Option (List D)} {y : TV} {m m' : Mem} {e : Ex} {v : Env} : idxOf o y m ≠ .exc e v m' := by
  intro z
  unfold idxOf at z
  split at z
  · split at z <;> cases z
  · cases z
def idxL (x y : TV) : M TV := fun m => idxOf (listOf m x) y m
def idxT (x y : TV) : M TV := fun m => idxOf (tupOf x) y m
def idxS : TV → TV → M TV
  | .d (.str z), .d (.int i) => fun m => match L2.atI z.cps.toList i with
    | some c => if z.length ≤ sizeLine then .ok (.d (.str ⟨#[c]⟩)) m else .no
    | none => .no
  | _, _ => noM
theorem x_list : IxS W S idxL := by
  refine ⟨⟨rIxL W.K, fun X _ a => by rw [← a.K]; exact ix_list, fun H0 H ι m x y vx vy Q s rx ry k h => ?_⟩, fun x y m e v m' z => idxOf_nx z⟩
  unfold idxL idxOf at h
  split at h
  · rename_i ds i hx
    split at h
    · rename_i d hd
      obtain ⟨p, vs, rfl, hp, r⟩ := listOf_rep s rx hx
      obtain ⟨v, hv, rv⟩ := r.atI hd
      cases ry
      exact ⟨p, vs, i, v, rfl, rfl, hp, hv, h v ι H Nxt.refl s rv⟩
    · exact h.elim
  · exact h.elim
theorem x_tup : IxS W S idxT := by
  refine ⟨⟨rIxT W.K, fun X _ a => by rw [← a.K]; exact ix_tup, fun H0 H ι m x y vx vy Q s rx ry k h => ?_⟩, fun x y m e v m' z => idxOf_nx z⟩
  unfold idxT idxOf at h
  split at h
  · rename_i ds i hx
    split at h
    · rename_i d hd
      obtain ⟨p, vs, rfl, hp, r⟩ := tupOf_rep rx hx
      obtain ⟨v, hv, rv⟩ := r.atI hd
      cases ry
      exact ⟨p, vs, i, v, rfl, rfl, hp, hv, h v ι H Nxt.refl s rv⟩
    · exact h.elim
  · exact h.elim
theorem x_str : IxS W S idxS := by
  refine ⟨⟨rIxS, fun X _ a => ix_str, fun H0 H ι m x y vx vy Q s rx ry k h => ?_⟩, fun x y m e v m' z => ?_⟩
  · unfold idxS at h
    split at h
    · rename_i z i
      split at h
      · rename_i c hc
        split at h
        · rename_i hz
          cases rx; cases ry
          exact ⟨z, i, c, rfl, rfl, hz, hc, h _ ι H Nxt.refl s (.str _)⟩
        · exact h.elim
      · exact h.elim
    · exact h.elim
  · unfold idxS at z
    split at z
    · split at z
      · split at z <;> cases z
      · cases z
    · cases z
def opIdx : TV → TV → M TV
  | .d (.str z), y => idxS (.d (.str z)) y
  | .d (.tup xs), y => idxT (.d (.tup xs)) y
  | .d (.ctup xs), y => idxT (.d (.ctup xs)) y
  | x, y => idxL x y
theorem x_seq : IxS W S opIdx := by
  refine IxS.or x_str (IxS.or x_tup x_list (f := fun x y m => match x with | .d (.tup xs) => idxT (.d (.tup xs)) y m | .d (.ctup xs) => idxT (.d (.ctup xs)) y m | x => idxL x y m) ?_) ?_
  · intro x y m
    split
    · exact .inl rfl
    · exact .inl rfl
    · exact .inr rfl
  · intro x y m
    unfold opIdx
    split
    · exact .inl rfl
    · exact .inr rfl
    · exact .inr rfl
    · rename_i h1 h2 h3
      refine .inr ?_
      split
      · exact absurd rfl (h2 _)
      · exact absurd rfl (h3 _)
      · rfl
theorem se_ix {f : TV → TV → M TV} {a b : Expr} {ma mb : EM} {pos : Pos} (o : IxS W S f) (ha : SE W S a ma) (hb : SE W S b mb) (hs : PlainIx b := by intro _ _; rfl) : SE W S (.Subscript a b pos) (binE f ma mb) := by
  obtain ⟨⟨r, o1, o2⟩, o3⟩ := o
  obtain ⟨ta, a1, a2⟩ := ha.ex
  obtain ⟨tb, b1, b2⟩ := hb.ex
  exact ⟨fun Wx => tOp r (ta Wx) (tb Wx), fun X Wx x => pe_ix (o1 X Wx x) (a1 X Wx x) (b1 X Wx x) hs, fun Wx => simE_op (a2 Wx) (b2 Wx) o2 o3⟩

/-! ### slices -/
def cutD {α : Type} (xs : List α) (lo hi : Option Int) : List α := (xs.drop (HT.sIx xs.length 0 lo)).take (HT.sIx xs.length xs.length hi - HT.sIx xs.length 0 lo)
theorem Reps.cut {H : Hp} {ι : List Addr} {ds : List D} {vs : List V} (r : Reps W H ι ds vs) (lo hi : Option Int) : Reps W H ι (cutD ds lo hi) (cutV vs lo hi) := by
  unfold cutD cutV
  rw [r.length]
  exact (r.drop _).take _
theorem cutV_whole {xs : List V} {lo hi : Option Int} (h : HT.sIx xs.length 0 lo = 0 ∧ HT.sIx xs.length xs.length hi = xs.length) : cutV xs lo hi = xs := by
  unfold cutV
  rw [h.1, h.2]
  simp
structure SPO (W : Wd) (S : SCx) (e : Option Expr) (m : Env → M (Option Int)) : Prop where
  ex : ∃ t : WX → TO, (∀ X Wx, At W S X Wx → PO X e (t Wx)) ∧ ∀ Wx (σ : L2.St) (H : Hp) (ι : List Addr) (M : Mem) (env : Env) (Q : Option Int → Hp → Prop), Sim W ι M H → REnv W H ι env σ →
    wpR (m env M) (fun o M' => ∀ ι' H', Nxt ι H ι' H' → Sim W ι' M' H' → Q o H') (PostX W ι H Wx) → t Wx σ H Q
def noP : Env → M (Option Int) := fun _ => okM none
def intP (m : EM) : Env → M (Option Int) := fun env => bindM (m env) fun x => match x with
  | .d (.int i) => okM (some i)
  | _ => noM
theorem sp_none : SPO W S none noP := ⟨fun _ => tNoPart, fun _ _ _ => po_none, fun Wx σ H ι M env Q s r h => h ι H Nxt.refl s⟩
theorem sp_some {e : Expr} {m : EM} (h : SE W S e m) : SPO W S (some e) (intP m) := by
  obtain ⟨t, a, b⟩ := h.ex
  refine ⟨fun Wx => tPart (t Wx), fun X Wx x => po_some (a X Wx x), fun Wx σ H ι M env Q s r q => ?_⟩
  unfold intP at q
  rw [wpR_bind] at q
  refine b Wx σ H ι M env _ s r (wpR_mono q (fun x M1 h1 v ι1 H1 n1 s1 r1 => ?_) fun _ _ _ h => h)
  split at h1
  · cases r1
    exact ⟨_, rfl, h1 ι1 H1 n1 s1⟩
  · exact h1.elim
def opCut (x : TV) (lo hi : Option Int) : M TV := fun m => match x with
  | .d (.str z) => if z.length ≤ sizeLine then .ok (.d (.str (cutS z lo hi))) m else .no
  | .d (.tup xs) => .ok (.d (.tup (cutD xs lo hi))) m
  | x => match listOf m x with
    | some xs => .ok (.l (cutD xs lo hi)) m
    | none => .no
def sliceE (a : EM) (lo hi : Env → M (Option Int)) : EM := fun env => bindM (a env) fun x => bindM (lo env) fun l => bindM (hi env) fun h => opCut x l h
theorem se_slice {e : Expr} {lo hi : Option Expr} {m : EM} {ml mh : Env → M (Option Int)} {p2 pos : Pos} (h : SE W S e m) (hl : SPO W S lo ml) (hh : SPO W S hi mh) : SE W S (.Subscript e (.Slice lo hi none p2) pos) (sliceE m ml mh) := by
  obtain ⟨t, a0, b0⟩ := h.ex
  obtain ⟨tl, a1, b1⟩ := hl.ex
  obtain ⟨th, a2, b2⟩ := hh.ex
  refine ⟨fun Wx => tSl (fun x lo hi H Q => rSlL W.K x lo hi H Q ∨ rSlA W.K x lo hi H Q ∨ rSlS x lo hi H Q) (t Wx) (tl Wx) (th Wx), fun X Wx x => pe_slice (fun pins s σ H x' v vl vu lo hi sl Q I rx hs pl pu h => ?_) (a0 X Wx x) (a1 X Wx x) (a2 X Wx x), fun Wx σ H ι M env Q s r q => ?_⟩
  · rw [← x.K] at h
    rcases h with h | h | h
    · exact sl_list pins s σ H x' v vl vu lo hi sl Q I rx hs pl pu h
    · exact sl_tupA pins s σ H x' v vl vu lo hi sl Q I rx hs pl pu h
    · exact sl_str pins s σ H x' v vl vu lo hi sl Q I rx hs pl pu h
  · unfold sliceE at q
    rw [wpR_bind] at q
    refine b0 Wx σ H ι M env _ s r (wpR_mono q (fun x M1 h1 v ι1 H1 n1 s1 r1 => ?_) fun _ _ _ h => h)
    rw [wpR_bind] at h1
    refine b1 Wx σ H1 ι1 M1 env _ s1 (r.mono n1) (wpR_mono h1 (fun l M2 h2 ι2 H2 n2 s2 => ?_) fun _ _ _ h => PostX.next n1 h)
    rw [wpR_bind] at h2
    refine b2 Wx σ H2 ι2 M2 env _ s2 ((r.mono n1).mono n2) (wpR_mono h2 (fun u M3 h3 ι3 H3 n3 s3 => ?_) fun _ _ _ h => PostX.next (n1.trans n2) h)
    have n13 := (n1.trans n2).trans n3
    have rx : RepT W H H3 ι3 x v := (r1.mono n2).mono n3
    unfold opCut at h3
    split at h3
    · split at h3
      · rename_i hz
        cases rx
        exact .inr (.inr ⟨_, rfl, hz, h3 _ ι3 H3 n13 s3 (Rep.str _)⟩)
      · exact h3.elim
    · cases rx with
      | tup hp rr =>
        rename_i xs p vs
        refine .inr (.inl ⟨p, vs, rfl, SqT.of hp, fun hw => ?_, fun hw a ha => ?_⟩)
        · refine h3 _ ι3 H3 n13 s3 (Rep.tup hp ?_)
          have := rr.cut l u
          rw [cutV_whole hw] at this
          exact this
        · have n := Nxt.new (ι := ι3) (o := .tup (cutV vs l u)) ha
          exact h3 _ ι3 _ (n13.trans n) (s3.new ha) (Rep.tup upd_same ((rr.cut l u).mono n))
    · split at h3
      · rename_i xs hx
        obtain ⟨p, vs, rfl, hp, rr⟩ := listOf_rep s3 rx hx
        refine .inl ⟨p, vs, rfl, hp, fun a ha => ?_⟩
        have n := Nxt.new (ι := ι3) (o := .lst (cutV vs l u)) ha
        exact h3 _ ι3 _ (n13.trans n) (s3.new ha) ⟨a, _, rfl, upd_same, s3.out ha, n13.back ha, (rr.cut l u).mono n⟩
      · exact h3.elim

/-! ### arguments as they are -/
inductive RepTs (W : Wd) (H0 H : Hp) (ι : List Addr) : List TV → List V → Prop
  | nil : RepTs W H0 H ι [] []
  | cons {x : TV} {v : V} {xs : List TV} {vs : List V} : RepT W H0 H ι x v → RepTs W H0 H ι xs vs → RepTs W H0 H ι (x :: xs) (v :: vs)
theorem RepTs.mono {H0 H H' : Hp} {ι ι' : List Addr} (n : Nxt ι H ι' H') {xs : List TV} {vs : List V} (r : RepTs W H0 H ι xs vs) : RepTs W H0 H' ι' xs vs := by
  induction r with
  | nil => exact .nil
  | cons h _ ih => exact .cons (h.mono n) ih
theorem RepTs.back {H0 H1 H : Hp} {ι0 ι1 ι : List Addr} (n : Nxt ι0 H0 ι1 H1) {xs : List TV} {vs : List V} (r : RepTs W H1 H ι xs vs) : RepTs W H0 H ι xs vs := by
  induction r with
  | nil => exact .nil
  | cons h _ ih => exact .cons (h.back n) ih
def PostAT (W : Wd) (ι : List Addr) (H : Hp) (Q : List V → Hp → Prop) : List TV → Mem → Prop := fun ds M' => ∀ vs ι' H', Nxt ι H ι' H' → Sim W ι' M' H' → RepTs W H H' ι' ds vs → Q vs H'
structure SAT (W : Wd) (S : SCx) (es : List Expr) (m : Env → M (List TV)) : Prop where
  ex : ∃ t : WX → TA, (∀ X Wx, At W S X Wx → PA X es (t Wx)) ∧ ∀ Wx (σ : L2.St) (H : Hp) (ι : List Addr) (M : Mem) (env : Env) (Q : List V → Hp → Prop), Sim W ι M H → REnv W H ι env σ → wpR (m env M) (PostAT W ι H Q) (PostX W ι H Wx) → t Wx σ H Q
def nilT : Env → M (List TV) := fun _ => okM []
def consT (a : EM) (r : Env → M (List TV)) : Env → M (List TV) := fun env => bindM (a env) fun d => bindM (r env) fun ds => okM (d :: ds)
theorem st_nil : SAT W S [] nilT := ⟨fun _ => tNil, fun _ _ _ => pa_nil, fun Wx σ H ι M env Q s r h => h [] ι H Nxt.refl s .nil⟩
theorem st_cons {e : Expr} {es : List Expr} {a : EM} {r : Env → M (List TV)} (ha : SE W S e a) (hr : SAT W S es r) (hs : ∀ env, starEach (e :: es) env = (false, eval e env) :: starEach es env := by intro _; rfl) : SAT W S (e :: es) (consT a r) := by
  obtain ⟨t, a1, b1⟩ := ha.ex
  obtain ⟨u, a2, b2⟩ := hr.ex
  refine ⟨fun Wx => tCons (t Wx) (u Wx), fun X Wx x => pa_cons (a1 X Wx x) (a2 X Wx x) (hs _), fun Wx σ H ι M env Q s re h => ?_⟩
  unfold consT at h
  rw [wpR_bind] at h
  refine b1 Wx σ H ι M env _ s re (wpR_mono h (fun d M1 h1 v ι1 H1 n1 s1 r1 => ?_) fun _ _ _ h => h)
  rw [wpR_bind] at h1
  refine b2 Wx σ H1 ι1 M1 env _ s1 (re.mono n1) (wpR_mono h1 (fun ds M2 h2 vs ι2 H2 n2 s2 r2 => ?_) fun _ _ _ h => PostX.next n1 h)
  exact h2 (v :: vs) ι2 H2 (n1.trans n2) s2 (.cons (r1.mono n2) (r2.back n1))

/-! ### built-ins by name -/
def CallSim (W : Wd) (r : List V → Hp → VK → Prop) (f : List TV → M TV) : Prop := ∀ (H0 H : Hp) (ι : List Addr) (m : Mem) (xs : List TV) (vs : List V) (Q : VK), Sim W ι m H → RepTs W H0 H ι xs vs → (∀ p, H p = none → H0 p = none) →
  wpR (f xs m) (PostE W ι H Q) (fun _ _ _ => False) → r vs H Q
structure CallS (W : Wd) (S : SCx) (u : Value) (f : List TV → M TV) : Prop where
  ex : ∃ r : List V → Hp → VK → Prop, (∀ X Wx, At W S X Wx → CallR X u r) ∧ CallSim W r f
  nx : ∀ xs m e v m', f xs m ≠ .exc e v m'
theorem CallS.or {u : Value} {f f1 f2 : List TV → M TV} (h1 : CallS W S u f1) (h2 : CallS W S u f2) (h : ∀ xs m, f xs m = f1 xs m ∨ f xs m = f2 xs m) : CallS W S u f := by
  obtain ⟨⟨r1, a1, b1⟩, n1⟩ := h1
  obtain ⟨⟨r2, a2, b2⟩, n2⟩ := h2
  refine ⟨⟨fun xs H Q => r1 xs H Q ∨ r2 xs H Q, fun X Wx a pins s σ H xs us Q I r h => ?_, fun H0 H ι m xs vs Q s r k q => ?_⟩, fun xs m e v m' z => ?_⟩
  · rcases h with h | h
    · exact a1 X Wx a pins s σ H xs us Q I r h
    · exact a2 X Wx a pins s σ H xs us Q I r h
  · rcases h xs m with e | e
    · rw [e] at q; exact .inl (b1 H0 H ι m xs vs Q s r k q)
    · rw [e] at q; exact .inr (b2 H0 H ι m xs vs Q s r k q)
  · rcases h xs m with e' | e'
    · exact n1 xs m e v m' (e'.symm.trans z)
    · exact n2 xs m e v m' (e'.symm.trans z)
def callB (f : List TV → M TV) (r : Env → M (List TV)) : EM := fun env => bindM (r env) f
theorem simE_callB {ta : TA} {r : List V → Hp → VK → Prop} {f : List TV → M TV} {m : Env → M (List TV)} (ha : ∀ (σ : L2.St) (H : Hp) (ι : List Addr) (M : Mem) (env : Env) (Q : List V → Hp → Prop), Sim W ι M H → REnv W H ι env σ → wpR (m env M) (PostAT W ι H Q) (PostX W ι H Wx) → ta σ H Q)
    (hr : CallSim W r f) (hf : ∀ xs m e v m', f xs m ≠ .exc e v m') : SimE W (tCB r ta) Wx (callB f m) := by
  intro σ H ι M env Q s re h
  unfold callB at h
  rw [wpR_bind] at h
  refine ha σ H ι M env _ s re (wpR_mono h (fun xs M1 h1 vs ι1 H1 n1 s1 r1 => ?_) fun _ _ _ h => h)
  refine hr H H1 ι1 M1 xs vs Q s1 r1 (fun p hp => n1.back hp) ?_
  cases e : f xs M1 with
  | ok z M2 =>
    rw [e] at h1
    exact fun v2 ι2 H2 n2 s2 r2 => h1 v2 ι2 H2 (n1.trans n2) s2 (r2.back n1)
  | exc a b c => exact absurd e (hf xs M1 a b c)
  | no => rw [e] at h1; exact h1
theorem At.gl {X : Cx} (a : At W S X Wx) {x : Str} (h : S.sc.names.lookup x = some .globalImplicit) : Gl X x := by
  show X.env.scope.names.lookup x = _
  rw [a.sc]; exact h
theorem se_callB {id : String} {f : List TV → M TV} {x : Str} {p pos : Pos} {e : Expr} {es : List Expr} {m : Env → M (List TV)} (hm : W.mg x = none) (hc : CallS W S (.builtin id) f) (ha : SAT W S (e :: es) m) (hv : bootBuiltins x = some (.builtin id)) (hg : S.sc.names.lookup x = some .globalImplicit := by rfl)
    (hn : x ≠ "__name__" := by decide) (hdb : (x == ("__debug__" : Str)) = false := by decide) (he : ∀ env, starEach (e :: es) env = (false, eval e env) :: starEach es env := by intro _; rfl) (hpl : ∀ env, (backTo pos (starEach es env)).any (·.1) = false := by intro _; rfl) :
    SE W S (.Call (.Name x p) (e :: es) [] pos) (callB f m) := by
  obtain ⟨⟨r, c1, c2⟩, c3⟩ := hc
  obtain ⟨t, a, b⟩ := ha.ex
  exact ⟨fun Wx => tCB r (t Wx), fun X Wx y => pe_callB (c1 X Wx y) (y.gl hg) (by rw [y.mg]; exact hm) hv (a X Wx y) hn hdb (he _) (hpl _), fun Wx => simE_callB (b Wx) c2 c3⟩
theorem se_callTy {id : String} {f : List TV → M TV} {x : Str} {p pos : Pos} {e : Expr} {es : List Expr} {m : Env → M (List TV)} (hm : W.mg x = none) (hc : CallS W S (.type id) f) (ha : SAT W S (e :: es) m) (hv : bootBuiltins x = some (.type id)) (hg : S.sc.names.lookup x = some .globalImplicit := by rfl)
    (hn : x ≠ "__name__" := by decide) (hdb : (x == ("__debug__" : Str)) = false := by decide) (he : ∀ env, starEach (e :: es) env = (false, eval e env) :: starEach es env := by intro _; rfl) (hpl : ∀ env, (backTo pos (starEach es env)).any (·.1) = false := by intro _; rfl) :
    SE W S (.Call (.Name x p) (e :: es) [] pos) (callB f m) := by
  obtain ⟨⟨r, c1, c2⟩, c3⟩ := hc
  obtain ⟨t, a, b⟩ := ha.ex
  exact ⟨fun Wx => tCB r (t Wx), fun X Wx y => pe_callTy (c1 X Wx y) (y.gl hg) (by rw [y.mg]; exact hm) hv (a X Wx y) hn hdb (he _) (hpl _), fun Wx => simE_callB (b Wx) c2 c3⟩

/-- a list or a tuple as it stands -/
def seqOf (m : Mem) (x : TV) : Option (List D) := match tupOf x with
  | some ds => some ds
  | none => listOf m x
theorem seqOf_rep {H0 H : Hp} {ι : List Addr} {m : Mem} {x : TV} {v : V} {ds : List D} (s : Sim W ι m H) (r : RepT W H0 H ι x v) (e : seqOf m x = some ds) : ∃ p vs, v = .ref p ∧ (SqL W.K H p vs ∨ SqT W.K H p vs) ∧ Reps W H ι ds vs := by
  unfold seqOf at e
  split at e
  · rename_i ds' h
    cases e
    obtain ⟨p, vs, e, h, r⟩ := tupOf_rep r h
    exact ⟨p, vs, e, .inr h, r⟩
  · obtain ⟨p, vs, e, h, r⟩ := listOf_rep s r e
    exact ⟨p, vs, e, .inl h, r⟩
end
end Mir

set_option maxHeartbeats 4000000
namespace Mir
open PySem L2
section
variable {W : Wd} {S : SCx} {Wx : WX}

/-! ### the built-ins -/
theorem call1 {u : Value} {f : TV → M TV} {g : List TV → M TV} (hg : ∀ xs m, g xs m = match xs with | [x] => f x m | _ => .no) (hn : ∀ x m e v m', f x m ≠ .exc e v m') {r : V → Hp → VK → Prop}
    (ho : ∀ X Wx, At W S X Wx → CallR X u (fun xs H Q => ∃ x, xs = [x] ∧ r x H Q))
    (hs : ∀ (H0 H : Hp) (ι : List Addr) (m : Mem) (x : TV) (v : V) (Q : VK), Sim W ι m H → RepT W H0 H ι x v → (∀ p, H p = none → H0 p = none) → wpR (f x m) (PostE W ι H Q) (fun _ _ _ => False) → r v H Q) : CallS W S u g := by
  refine ⟨⟨_, ho, fun H0 H ι m xs vs Q s rr k h => ?_⟩, fun xs m e v m' z => ?_⟩
  · rw [hg] at h
    cases rr with
    | nil => exact h.elim
    | cons r1 r2 =>
      cases r2 with
      | nil => exact ⟨_, rfl, hs H0 H ι m _ _ Q s r1 k h⟩
      | cons _ _ => exact h.elim
  · rw [hg] at z
    split at z
    · exact hn _ _ _ _ _ z
    · cases z
def on1 (f : TV → M TV) : List TV → M TV := fun xs m => match xs with | [x] => f x m | _ => .no
def retI (o : Option D) : M TV := fun m => match o with
  | some d => .ok (.d d) m
  | none => .no
theorem retI_nx {o : Option D} {m m' : Mem} {e : Ex} {v : Env} : retI o m ≠ .exc e v m' := by
  intro z
  unfold retI at z
  split at z <;> cases z
theorem retI_wp {o : Option D} {m : Mem} {q : TV → Mem → Prop} {x : Ex → Env → Mem → Prop} (h : wpR (retI o m) q x) : ∃ d, o = some d ∧ q (.d d) m := by
  unfold retI at h
  split at h
  · rename_i d; exact ⟨d, rfl, h⟩
  · exact h.elim
/-! len -/
def lenOf (m : Mem) : TV → Option D
  | .d (.str z) => if z.length ≤ sizeLine then some (.int z.length) else none
  | x => (seqOf m x).map fun ds => .int ds.length
def bLen := on1 fun x m => retI (lenOf m x) m
theorem b_len : CallS W S (.builtin "len") bLen := by
  refine call1 (r := fun x H Q => (∃ p ys, x = .ref p ∧ (SqL W.K H p ys ∨ SqT W.K H p ys) ∧ Q (.int ys.length) H) ∨ ∃ z, x = .str z ∧ z.length ≤ sizeLine ∧ Q (.int z.length) H) (fun _ _ => rfl) (fun _ _ _ _ _ => retI_nx) (fun X _ a pins s σ H xs us Q I r h => ?_) fun H0 H ι m x v Q s r k h => ?_
  · obtain ⟨x, rfl, h⟩ := h
    rw [← a.K] at h
    rcases h with ⟨p, ys, rfl, h, q⟩ | ⟨z, rfl, h, q⟩
    · exact call_len_seq pins s σ H _ us Q I r ⟨p, ys, rfl, h, q⟩
    · exact call_len_str pins s σ H _ us Q I r ⟨z, rfl, h, q⟩
  · obtain ⟨d, e, q⟩ := retI_wp h
    unfold lenOf at e
    split at e
    · split at e
      · rename_i hz
        cases e; cases r
        exact .inr ⟨_, rfl, hz, q _ ι H Nxt.refl s (Rep.int _)⟩
      · cases e
    · simp only [Option.map_eq_some_iff] at e
      obtain ⟨ds, e, rfl⟩ := e
      obtain ⟨p, vs, rfl, hp, r⟩ := seqOf_rep s r e
      refine .inl ⟨p, vs, rfl, hp, ?_⟩
      rw [← r.length]
      exact q _ ι H Nxt.refl s (Rep.int _)
/-! int(..) -/
def intOf : TV → Option D
  | .d (.int i) => some (.int i)
  | .d (.bl k) => some (.int (if k then 1 else 0))
  | _ => none
def bInt := on1 fun x => retI (intOf x)
theorem b_int : CallS W S (.type "int") bInt := by
  refine call1 (r := fun x H Q => (∃ i, x = .int i ∧ Q (.int i) H) ∨ ∃ k, x = .bl k ∧ Q (.int (if k then 1 else 0)) H) (fun _ _ => rfl) (fun _ _ _ _ _ => retI_nx) (fun X _ a pins s σ H xs us Q I r h => ?_) fun H0 H ι m x v Q s r k h => ?_
  · obtain ⟨x, rfl, h⟩ := h
    refine call_int1 pins s σ H _ us Q I r ?_
    rcases h with ⟨i, rfl, q⟩ | ⟨k, rfl, q⟩
    · exact .inl ⟨i, rfl, q⟩
    · exact .inr ⟨k, rfl, q⟩
  · obtain ⟨d, e, q⟩ := retI_wp h
    unfold intOf at e
    split at e
    · cases e; cases r
      exact .inl ⟨_, rfl, q _ ι H Nxt.refl s (Rep.int _)⟩
    · cases e; cases r
      exact .inr ⟨_, rfl, q _ ι H Nxt.refl s (Rep.int _)⟩
    · cases e
/-! max, min of two -/
def bMax2 : List TV → M TV
  | [.d (.int i), .d (.int j)] => okM (.d (.int (if j > i then j else i)))
  | _ => noM
def bMin2 : List TV → M TV
  | [.d (.int i), .d (.int j)] => okM (.d (.int (if j < i then j else i)))
  | _ => noM
theorem b_max2 (hc : S.hot = false := by rfl) : CallS W S (.builtin "max") bMax2 := by
  refine ⟨⟨_, fun X _ a => call_max2 (a.calm hc), fun H0 H ι m xs vs Q s r k h => ?_⟩, fun xs m e v m' z => ?_⟩
  · unfold bMax2 at h
    split at h
    · cases r with
      | cons r1 r2 => cases r2 with
        | cons r2 r3 =>
          cases r3; cases r1; cases r2
          exact ⟨_, _, rfl, h _ ι H Nxt.refl s (Rep.int _)⟩
    · exact h.elim
  · unfold bMax2 at z
    split at z <;> cases z
theorem b_min2 (hc : S.hot = false := by rfl) : CallS W S (.builtin "min") bMin2 := by
  refine ⟨⟨_, fun X _ a => call_min2 (a.calm hc), fun H0 H ι m xs vs Q s r k h => ?_⟩, fun xs m e v m' z => ?_⟩
  · unfold bMin2 at h
    split at h
    · cases r with
      | cons r1 r2 => cases r2 with
        | cons r2 r3 =>
          cases r3; cases r1; cases r2
          exact ⟨_, _, rfl, h _ ι H Nxt.refl s (Rep.int _)⟩
    · exact h.elim
  · unfold bMin2 at z
    split at z <;> cases z
/-! all, any over truths -/
def blOf : D → Option Bool
  | .bl b => some b
  | _ => none
def blsOf (m : Mem) (x : TV) : Option (List Bool) := (listOf m x).bind fun ds => ds.mapM blOf
theorem bls_rep {H : Hp} {ι : List Addr} : ∀ {ds : List D} {vs : List V} {bs : List Bool}, Reps W H ι ds vs → ds.mapM blOf = some bs → vs = bs.map V.bl
  | [], _, bs, r, e => by cases r; simp at e; subst e; rfl
  | d :: ds, _, bs, r, e => by
    cases r with
    | cons r1 r2 =>
      rw [List.mapM_cons] at e
      cases e1 : blOf d with
      | none => rw [e1] at e; cases e
      | some b =>
        cases e2 : ds.mapM blOf with
        | none => rw [e1, e2] at e; cases e
        | some cs =>
          rw [e1, e2] at e
          have e' : b :: cs = bs := Option.some.inj e
          subst e'
          unfold blOf at e1
          split at e1
          · cases e1; cases r1
            rw [bls_rep r2 e2]; rfl
          · cases e1
def bAll := on1 fun x m => retI ((blsOf m x).map fun bs => .bl (bs.all id)) m
def bAny := on1 fun x m => retI ((blsOf m x).map fun bs => .bl (bs.any id)) m
theorem b_all (hc : S.hot = false := by rfl) : CallS W S (.builtin "all") bAll := by
  refine call1 (r := fun x H Q => ∃ (a : Addr) (bs : List Bool), x = V.ref a ∧ SqL W.K H a (bs.map V.bl) ∧ Q (.bl (bs.all id)) H) (fun _ _ => rfl) (fun _ _ _ _ _ => retI_nx) (fun X _ a pins s σ H xs us Q I r h => ?_) fun H0 H ι m x v Q s r k h => ?_
  · obtain ⟨x, rfl, p, bs, rfl, h, q⟩ := h
    rw [← a.K] at h
    exact cr_all (a.calm hc) pins s σ H _ us Q I r ⟨p, bs, rfl, h, q⟩
  · obtain ⟨d, e, q⟩ := retI_wp h
    simp only [Option.map_eq_some_iff, blsOf, Option.bind_eq_some_iff] at e
    obtain ⟨bs, ⟨ds, e1, e2⟩, rfl⟩ := e
    obtain ⟨p, vs, rfl, hp, r⟩ := listOf_rep s r e1
    rw [bls_rep r e2] at hp
    exact ⟨p, bs, rfl, hp, q _ ι H Nxt.refl s (Rep.bl _)⟩
theorem b_any (hc : S.hot = false := by rfl) : CallS W S (.builtin "any") bAny := by
  refine call1 (r := fun x H Q => ∃ (a : Addr) (bs : List Bool), x = V.ref a ∧ SqL W.K H a (bs.map V.bl) ∧ Q (.bl (bs.any id)) H) (fun _ _ => rfl) (fun _ _ _ _ _ => retI_nx) (fun X _ a pins s σ H xs us Q I r h => ?_) fun H0 H ι m x v Q s r k h => ?_
  · obtain ⟨x, rfl, p, bs, rfl, h, q⟩ := h
    rw [← a.K] at h
    exact cr_any (a.calm hc) pins s σ H _ us Q I r ⟨p, bs, rfl, h, q⟩
  · obtain ⟨d, e, q⟩ := retI_wp h
    simp only [Option.map_eq_some_iff, blsOf, Option.bind_eq_some_iff] at e
    obtain ⟨bs, ⟨ds, e1, e2⟩, rfl⟩ := e
    obtain ⟨p, vs, rfl, hp, r⟩ := listOf_rep s r e1
    rw [bls_rep r e2] at hp
    exact ⟨p, bs, rfl, hp, q _ ι H Nxt.refl s (Rep.bl _)⟩
/-! sums, greatest and least of whole numbers -/
def itOf : D → Option Int
  | .int b => some b
  | _ => none
def itsOf (m : Mem) (x : TV) : Option (List Int) := (listOf m x).bind fun ds => ds.mapM itOf
theorem its_rep {H : Hp} {ι : List Addr} : ∀ {ds : List D} {vs : List V} {bs : List Int}, Reps W H ι ds vs → ds.mapM itOf = some bs → vs = bs.map V.int
  | [], _, bs, r, e => by cases r; simp at e; subst e; rfl
  | d :: ds, _, bs, r, e => by
    cases r with
    | cons r1 r2 =>
      rw [List.mapM_cons] at e
      cases e1 : itOf d with
      | none => rw [e1] at e; cases e
      | some b =>
        cases e2 : ds.mapM itOf with
        | none => rw [e1, e2] at e; cases e
        | some cs =>
          rw [e1, e2] at e
          have e' : b :: cs = bs := Option.some.inj e
          subst e'
          unfold itOf at e1
          split at e1
          · cases e1; cases r1
            rw [its_rep r2 e2]; rfl
          · cases e1
def bSum := on1 fun x m => retI ((itsOf m x).map fun bs => .int bs.sum) m
theorem b_sum (hc : S.hot = false := by rfl) : CallS W S (.builtin "sum") bSum := by
  refine call1 (r := fun x H Q => ∃ (a : Addr) (bs : List Int), x = V.ref a ∧ SqL W.K H a (bs.map V.int) ∧ Q (.int bs.sum) H) (fun _ _ => rfl) (fun _ _ _ _ _ => retI_nx) (fun X _ a pins s σ H xs us Q I r h => ?_) fun H0 H ι m x v Q s r k h => ?_
  · obtain ⟨x, rfl, p, bs, rfl, h, q⟩ := h
    rw [← a.K] at h
    exact cr_sum (a.calm hc) pins s σ H _ us Q I r ⟨p, bs, rfl, h, q⟩
  · obtain ⟨d, e, q⟩ := retI_wp h
    simp only [Option.map_eq_some_iff, itsOf, Option.bind_eq_some_iff] at e
    obtain ⟨bs, ⟨ds, e1, e2⟩, rfl⟩ := e
    obtain ⟨p, vs, rfl, hp, r⟩ := listOf_rep s r e1
    rw [its_rep r e2] at hp
    exact ⟨p, bs, rfl, hp, q _ ι H Nxt.refl s (Rep.int _)⟩
/-! list(..), tuple(..) -/
def bList := on1 fun x m => match seqOf m x with
  | some ds => .ok (.l ds) m
  | none => .no
theorem b_list : CallS W S (.type "list") bList := by
  refine call1 (r := fun x H Q => ∃ p ys, x = .ref p ∧ (SqL W.K H p ys ∨ SqT W.K H p ys) ∧ ∀ l, H l = none → Q (.ref l) (upd H l (.lst ys))) (fun _ _ => rfl) (fun x m e v m' z => by split at z <;> cases z) (fun X _ a pins s σ H xs us Q I r h => ?_) fun H0 H ι m x v Q s r k h => ?_
  · obtain ⟨x, rfl, p, ys, rfl, h, q⟩ := h
    rw [← a.K] at h
    exact call_list_of pins s σ H _ us Q I r ⟨p, ys, rfl, h, q⟩
  · split at h
    · rename_i ds e
      obtain ⟨p, vs, rfl, hp, r⟩ := seqOf_rep s r e
      refine ⟨p, vs, rfl, hp, fun l hl => ?_⟩
      have n := Nxt.new (ι := ι) (o := .lst vs) hl
      exact h _ ι _ n (s.new hl) ⟨l, _, rfl, upd_same, s.out hl, hl, r.mono n⟩
    · exact h.elim
def bTuple := on1 fun x m => match x with
  | .d (.tup ds) => .ok (.d (.tup ds)) m
  | x => match listOf m x with
    | some ds => .ok (.d (.tup ds)) m
    | none => .no
theorem b_tuple : CallS W S (.type "tuple") bTuple := by
  refine call1 (r := fun x H Q => ∃ p ys, x = .ref p ∧ ((SqL W.K H p ys ∧ ∀ l, H l = none → Q (.ref l) (upd H l (.tup ys))) ∨ (SqT W.K H p ys ∧ Q (.ref p) H))) (fun _ _ => rfl) (fun x m e v m' z => by split at z; cases z; split at z <;> cases z) (fun X _ a pins s σ H xs us Q I r h => ?_) fun H0 H ι m x v Q s r k h => ?_
  · obtain ⟨x, rfl, p, ys, rfl, h⟩ := h
    rw [← a.K] at h
    exact call_tuple_of pins s σ H _ us Q I r ⟨p, ys, rfl, h⟩
  · split at h
    · cases r with
      | tup hp r => exact ⟨_, _, rfl, .inr ⟨SqT.of hp, h _ ι H Nxt.refl s (Rep.tup hp r)⟩⟩
    · split at h
      · rename_i ds e
        obtain ⟨p, vs, rfl, hp, r⟩ := listOf_rep s r e
        refine ⟨p, vs, rfl, .inl ⟨hp, fun l hl => ?_⟩⟩
        have n := Nxt.new (ι := ι) (o := .tup vs) hl
        exact h _ ι _ n (s.new hl) (Rep.tup upd_same (r.mono n))
      · exact h.elim
/-! isinstance(x, T), T a built-in class -/
def tyN (m : Mem) : TV → Option String
  | .l _ => some "list"
  | .d .non => some "NoneType"
  | .d (.bl _) => some "bool"
  | .d (.int _) => some "int"
  | .d (.str _) => some "str"
  | .d (.tup _) => some "tuple"
  | .d (.ref n) => match m[n]? with
    | some (.lst _) => some "list"
    | some (.dic _) => some "dict"
    | some (.dit _) => some "dict"
    | _ => none
  | _ => none
theorem tyN_rep {H0 H : Hp} {ι : List Addr} {m : Mem} {x : TV} {v : V} {t : String} (s : Sim W ι m H) (r : RepT W H0 H ι x v) (e : tyN m x = some t) : TyX W.K H v (.type t) := by
  unfold tyN at e
  split at e
  · cases e
    obtain ⟨p, vs, rfl, h, _⟩ := r
    exact .base (.lst h)
  · cases e; cases r; exact .base .non
  · cases e; cases r; exact .base (.bl _)
  · cases e; cases r; exact .base (.int _)
  · cases e; cases r; exact .base (.str _)
  · cases e
    cases r with
    | tup h _ => exact .base (.tup h)
  · split at e
    · rename_i hm
      cases e
      cases r with
      | ref hi =>
        obtain ⟨vs, h, _⟩ := s.obj _ _ _ hm hi
        exact .base (.lst h)
    · rename_i hm
      cases e
      cases r with
      | ref hi =>
        obtain ⟨vs, h, _⟩ := s.obj _ _ _ hm hi
        exact .base (.dK h)
    · rename_i hm
      cases e
      cases r with
      | ref hi =>
        obtain ⟨vs, h, _⟩ := s.obj _ _ _ hm hi
        exact .base (.dT h)
    · cases e
  · cases e
def isiB (T : String) (x : TV) : M TV := fun m => retI (((tyN m x).bind fun t => kitB t T).map .bl) m
def isiE (T : String) (a : EM) : EM := fun env => bindM (a env) (isiB T)
theorem se_isi {T : String} {t : Str} {e : Expr} {m : EM} {p p2 pos : Pos} (hm : W.mg "isinstance" = none) (hT : W.mg t = none) (h : SE W S e m) (hv : bootBuiltins t = some (.type T) := by decide +kernel) (hg : S.sc.names.lookup ("isinstance" : Str) = some .globalImplicit := by rfl) (hg2 : S.sc.names.lookup t = some .globalImplicit := by rfl)
    (hn : t ≠ "__name__" := by decide +kernel) (hdb : (t == ("__debug__" : Str)) = false := by decide +kernel) (hs : ∀ env, starEach [e, .Name t p2] env = (false, eval e env) :: starEach [.Name t p2] env := by intro _; rfl) :
    SE W S (.Call (.Name "isinstance" p) [e, .Name t p2] [] pos) (isiE T m) := by
  obtain ⟨u, a, b⟩ := h.ex
  refine ⟨fun Wx => tCB (rIsi W.K) (tCons (u Wx) (tCons (tC (.ty T)) tNil)), fun X Wx x => ?_, fun Wx σ H ι M env Q s r q => ?_⟩
  · rw [← x.K]
    refine pe_callB call_isi (x.gl hg) (by rw [x.mg]; exact hm) PyProof.Rows.boot_isinstance (pa_cons (a X Wx x) (pa_cons (pe_bltn (x.gl hg2) (by rw [x.mg]; exact hT) hv rfl hn hdb) pa_nil) (hs _)) (by decide) (by decide) (hs _)
  · unfold isiE at q
    rw [wpR_bind] at q
    refine b Wx σ H ι M env _ s r (wpR_mono q (fun x M1 h1 v ι1 H1 n1 s1 r1 => ?_) fun _ _ _ h => h)
    obtain ⟨d, e, q⟩ := retI_wp h1
    simp only [Option.map_eq_some_iff, Option.bind_eq_some_iff] at e
    obtain ⟨k, ⟨t', e1, e2⟩, rfl⟩ := e
    exact ⟨v, .ty T, _, _, k, rfl, .ty T, tyN_rep s1 r1 e1, kit_ty e2, q _ ι1 H1 n1 s1 (Rep.bl _)⟩
end
end Mir

set_option maxHeartbeats 4000000
namespace Mir
open PySem L2
section
variable {W : Wd} {S : SCx} {Wx : WX}

/-! ### targets -/
structure SG (W : Wd) (S : SCx) (tg : Expr) (sl : List Nat) (g : D → Env → M Env) : Prop where
  ex : ∃ t : TG, (∀ X Wx, At W S X Wx → PG X tg t) ∧ ∀ (σ : L2.St) (H : Hp) (ι : List Addr) (M : Mem) (env : Env) (d : D) (v : V) (Q : L2.St → Hp → Prop), Sim W ι M H → REnv W H ι env σ → Rep W H ι d v →
    wpR (g d env M) (fun env' M' => ∀ σ' ι' H', Nxt ι H ι' H' → Sim W ι' M' H' → REnv W H' ι' env' σ' → (∀ vs : List Nat, (∀ i ∈ sl, i ∈ vs) → L2.wipe σ' vs = L2.wipe σ vs) → Q σ' H') (fun _ _ _ => False) → t v σ H Q
  nx : ∀ d env M e v m', g d env M ≠ .exc e v m'
structure SGs (W : Wd) (S : SCx) (tgs : List Expr) (sl : List Nat) (g : List D → Env → M Env) : Prop where
  ex : ∃ t : TGs, (∀ X Wx, At W S X Wx → PGs X tgs t) ∧ ∀ (σ : L2.St) (H : Hp) (ι : List Addr) (M : Mem) (env : Env) (d : List D) (v : List V) (Q : L2.St → Hp → Prop), Sim W ι M H → REnv W H ι env σ → Reps W H ι d v →
    wpR (g d env M) (fun env' M' => ∀ σ' ι' H', Nxt ι H ι' H' → Sim W ι' M' H' → REnv W H' ι' env' σ' → (∀ vs : List Nat, (∀ i ∈ sl, i ∈ vs) → L2.wipe σ' vs = L2.wipe σ vs) → Q σ' H') (fun _ _ _ => False) → t v σ H Q
  nx : ∀ d env M e v m', g d env M ≠ .exc e v m'
theorem wipe_set {σ : L2.St} {i : Nat} {o : Option V} : ∀ {vs : List Nat}, i ∈ vs → L2.wipe (σ.set i o) vs = L2.wipe σ vs
  | v :: vs, h => by
    unfold L2.wipe
    by_cases hm : i ∈ vs
    · rw [wipe_set hm]
    · have e : i = v := by
        rcases List.mem_cons.mp h with h | h
        · exact h
        · exact absurd h hm
      subst e
      have aux : ∀ vs : List Nat, i ∉ vs → L2.wipe (σ.set i o) vs = (L2.wipe σ vs).set i o := by
        intro vs
        induction vs with
        | nil => intro _; rfl
        | cons a r ih =>
          intro hn
          unfold L2.wipe
          rw [ih (fun z => hn (List.mem_cons_of_mem _ z))]
          exact List.set_comm _ _ (fun z => hn (by rw [z]; exact List.mem_cons_self))
      rw [aux vs hm, List.set_set]
def nmG (i : Nat) : D → Env → M Env := fun d env => okM (env.set i (some d))
theorem sg_name {x : Str} {pos : Pos} (i : Nat) (hN : S.N[i]? = some x := by rfl) (hv : Loc S.sc x := by first | exact Or.inl rfl | exact Or.inr rfl) (hf : S.fn x = true ∨ S.sc.names.lookup x = some .local := by first | exact Or.inl rfl | exact Or.inr rfl) : SG W S (.Name x pos) [i] (nmG i) := by
  refine ⟨⟨gName i, fun X Wx a => pg_name a.nd (by rw [a.N]; exact hN) (by rw [a.sc]; exact hv) (by rw [a.fn, a.sc]; exact hf), fun σ H ι M env d v Q s re r h => ?_⟩, fun d env M e v m' z => by cases z⟩
  exact h (σ.set i (some v)) ι H Nxt.refl s (re.set r i) fun vs hs => wipe_set (hs i (by simp))
def nilG : List D → Env → M Env := fun ds env => match ds with
  | [] => okM env
  | _ => noM
def consG (a : D → Env → M Env) (r : List D → Env → M Env) : List D → Env → M Env := fun ds env => match ds with
  | d :: ds => bindM (a d env) fun e => r ds e
  | [] => noM
theorem sgs_nil : SGs W S [] [] nilG := by
  refine ⟨⟨gNil, fun _ _ _ => pgs_nil, fun σ H ι M env d v Q s re r h => ?_⟩, fun d env M e v m' z => ?_⟩
  · cases r with
    | nil => exact ⟨rfl, h σ ι H Nxt.refl s re fun _ _ => rfl⟩
    | cons _ _ => exact h.elim
  · unfold nilG at z
    split at z <;> cases z
theorem bind_nx {α β : Type} {a : M α} {f : α → M β} {m m' : Mem} {e : Ex} {v : Env} (ha : ∀ m e v m', a m ≠ .exc e v m') (hf : ∀ x m e v m', f x m ≠ .exc e v m') : bindM a f m ≠ .exc e v m' := by
  intro z
  unfold bindM at z
  split at z
  · exact hf _ _ _ _ _ z
  · rename_i h; exact ha _ _ _ _ h
  · cases z
theorem sgs_cons {e : Expr} {es : List Expr} {sl sl' : List Nat} {a : D → Env → M Env} {r : List D → Env → M Env} (ha : SG W S e sl a) (hr : SGs W S es sl' r)
    (hs : ∀ env, (assignEach (e :: es) env).map (·.2) = assign e env :: (assignEach es env).map (·.2) := by intro _; rfl) : SGs W S (e :: es) (sl ++ sl') (consG a r) := by
  obtain ⟨⟨t, a1, b1⟩, n1⟩ := ha
  obtain ⟨⟨u, a2, b2⟩, n2⟩ := hr
  refine ⟨⟨gCons t u, fun X Wx x => pgs_cons (a1 X Wx x) (a2 X Wx x) (hs _), fun σ H ι M env d v Q s re rr h => ?_⟩, fun d env M e v m' z => ?_⟩
  · cases rr with
    | nil => exact h.elim
    | cons r1 r2 =>
      refine ⟨_, _, rfl, ?_⟩
      unfold consG at h
      dsimp only at h
      rw [wpR_bind] at h
      refine b1 σ H ι M env _ _ _ s re r1 ?_
      cases e1 : a _ env M with
      | exc x y z => exact absurd e1 (n1 _ _ _ _ _ _)
      | no => rw [e1] at h; exact h
      | ok env' M' =>
        rw [e1] at h
        refine fun σ' ι' H' nn ss rre hw => b2 σ' H' ι' M' env' _ _ _ ss rre (r2.mono nn) ?_
        have h : wpR (r _ env' M') _ (fun _ _ _ => False) := h
        exact wpR_mono h (fun env2 M2 h2 σ2 ι2 H2 nn2 ss2 rre2 hw2 => h2 σ2 ι2 H2 (nn.trans nn2) ss2 rre2 fun vs hvs => (hw2 vs fun i hi => hvs i (List.mem_append_right _ hi)).trans (hw vs fun i hi => hvs i (List.mem_append_left _ hi))) fun _ _ _ h => h
  · cases d with
    | nil => cases z
    | cons d ds => exact bind_nx (a := a d env) (f := fun e => r ds e) (fun _ _ _ _ => n1 _ _ _ _ _ _) (fun _ _ _ _ _ => n2 _ _ _ _ _ _) z
def tupG (n : Nat) (g : List D → Env → M Env) : D → Env → M Env := fun d env => match tupOf (.d d) with
  | some ds => if ds.length = n then g ds env else noM
  | none => noM
theorem sg_tup {es : List Expr} {sl : List Nat} {g : List D → Env → M Env} {k n : Nat} {pos : Pos} (h : SGs W S es sl g) (hn : ∀ env, (assignEach es env).length = n := by intro _; rfl) (hst : ∀ env, (assignEach es env).findIdx? (·.1) = none := by intro _; rfl) (hc : S.hot = false := by rfl) : SG W S (.Tuple es k pos) sl (tupG n g) := by
  obtain ⟨⟨t, a1, b1⟩, n1⟩ := h
  refine ⟨⟨gTup W.K n t, fun X Wx x => by rw [← x.K]; exact pg_tup (x.calm hc) (a1 X Wx x) (hn _) (hst _), fun σ H ι M env d v Q s re rr h => ?_⟩, fun d env M e v m' z => ?_⟩
  · unfold tupG at h
    cases e : tupOf (.d d) with
    | none => rw [e] at h; exact h.elim
    | some ds =>
      rw [e] at h
      dsimp only at h
      by_cases hl : ds.length = n
      · rw [if_pos hl] at h
        obtain ⟨p, vs, rfl, hp, r⟩ := tupOf_rep (H0 := H) (x := .d d) rr e
        exact ⟨p, vs, rfl, hp, by rw [← r.length]; exact hl, b1 σ H ι M env ds vs Q s re r h⟩
      · rw [if_neg hl] at h; exact h.elim
  · unfold tupG at z
    cases e : tupOf (.d d) with
    | none => rw [e] at z; cases z
    | some ds =>
      rw [e] at z
      dsimp only at z
      by_cases hl : ds.length = n
      · rw [if_pos hl] at z; exact n1 _ _ _ _ _ _ z
      · rw [if_neg hl] at z; cases z

/-! ### what is walked -/
structure Src where
  n : Nat
  at_ : Nat → Mem → Option (Option D)
def Src.ofL (ds : List D) : Src := ⟨ds.length + 1, fun i _ => some ds[i]?⟩
def Src.ofR (k len : Nat) : Src := ⟨len + 1, fun i m => match m[k]? with
  | some (.lst ds) => some ds[i]?
  | _ => none⟩
def IsSrc (W : Wd) (ι : List Addr) (H : Hp) (J : It) (f : Nat → Mem → Option (Option D)) : Prop := ∀ (ι' : List Addr) (H' : Hp) (m' : Mem), Nxt ι H ι' H' → Sim W ι' m' H' → ∀ i, match f i m' with
  | none => True
  | some none => J.stop i H'
  | some (some d) => J.go i H' ∧ ∀ x H'', J.yld i H' x H'' → Nxt ι' H' ι' H'' ∧ Sim W ι' m' H'' ∧ Rep W H'' ι' d x
structure SI (W : Wd) (S : SCx) (tg iter : Expr) (src : Env → M Src) : Prop where
  ex : ∃ t : WX → TI, (∀ X Wx, At W S X Wx → PI X tg iter (t Wx)) ∧ ∀ Wx (σ : L2.St) (H : Hp) (ι : List Addr) (M : Mem) (env : Env) (R : It → Hp → Prop), Sim W ι M H → REnv W H ι env σ →
    wpR (src env M) (fun sr M' => ∀ J ι' H', Nxt ι H ι' H' → Sim W ι' M' H' → IsSrc W ι' H' J sr.at_ → R J H') (PostX W ι H Wx) → t Wx σ H R
theorem PI.or {X : Cx} {tg iter : Expr} {t1 t2 : TI} (h1 : PI X tg iter t1) (h2 : PI X tg iter t2) : PI X tg iter (fun σ H Q => t1 σ H Q ∨ t2 σ H Q) :=
  ⟨fun pins s σ H Q I h => h.elim (h1.run pins s σ H Q I) (h2.run pins s σ H Q I)⟩
/-- a list or a tuple, as it stands -/
def seqSrc (x : TV) : M Src := fun m => match tupOf x with
  | some ds => .ok (Src.ofL ds) m
  | none => match x with
    | .d (.ref k) => match m[k]? with
      | some (.lst ds) => .ok (Src.ofR k ds.length) m
      | _ => .no
    | .l ds => .ok (Src.ofL ds) m
    | .d (.clst ds) => .ok (Src.ofL ds) m
    | _ => .no
def seqI (a : EM) : Env → M Src := fun env => bindM (a env) seqSrc
theorem isSrc_list {ι : List Addr} {H : Hp} {p : Addr} {ds : List D} {vs : List V} (hs : ∀ ι' H', Nxt ι H ι' H' → SqL W.K H' p vs) (r : Reps W H ι ds vs) : IsSrc W ι H (Itl W.K p) (Src.ofL ds).at_ := by
  intro ι' H' m' n s i
  have h1 := hs ι' H' n
  show match (some ds[i]? : Option (Option D)) with
    | none => True
    | some none => _
    | some (some d) => _
  cases e : ds[i]? with
  | none => exact ⟨vs, h1, by rw [← r.length]; exact List.getElem?_eq_none_iff.mp e⟩
  | some d =>
    obtain ⟨v, hv, rv⟩ := r.get e
    refine ⟨⟨vs, v, h1, hv⟩, fun x H'' y => ?_⟩
    obtain ⟨rfl, y⟩ := y
    have := y vs h1
    rw [hv] at this; cases this
    exact ⟨Nxt.refl, s, rv.mono n⟩
theorem isSrc_tup {ι : List Addr} {H : Hp} {p : Addr} {ds : List D} {vs : List V} (hs : ∀ ι' H', Nxt ι H ι' H' → SqT W.K H' p vs) (r : Reps W H ι ds vs) : IsSrc W ι H (Itt W.K p) (Src.ofL ds).at_ := by
  intro ι' H' m' n s i
  have h1 := hs ι' H' n
  show match (some ds[i]? : Option (Option D)) with
    | none => True
    | some none => _
    | some (some d) => _
  cases e : ds[i]? with
  | none => exact ⟨vs, h1, by rw [← r.length]; exact List.getElem?_eq_none_iff.mp e⟩
  | some d =>
    obtain ⟨v, hv, rv⟩ := r.get e
    refine ⟨⟨vs, v, h1, hv⟩, fun x H'' y => ?_⟩
    obtain ⟨rfl, y⟩ := y
    have := y vs h1
    rw [hv] at this; cases this
    exact ⟨Nxt.refl, s, rv.mono n⟩
theorem isSrc_ref {ι : List Addr} {H : Hp} {p : Addr} {k : Nat} (len : Nat) (hk : ι[k]? = some p) : IsSrc W ι H (Itl W.K p) (Src.ofR k len).at_ := by
  intro ι' H' m' n s i
  have hk' := n.get hk
  cases hm : m'[k]? with
  | none => simp [Src.ofR, hm]
  | some o =>
    cases o with
    | lst ds =>
      obtain ⟨vs, hp, r⟩ := s.obj k _ p hm hk'
      have h1 : SqL W.K H' p vs := SqL.of hp
      have e0 : (Src.ofR k len).at_ i m' = some ds[i]? := by simp [Src.ofR, hm]
      rw [e0]
      cases e : ds[i]? with
      | none => exact ⟨vs, h1, by rw [← r.length]; exact List.getElem?_eq_none_iff.mp e⟩
      | some d =>
        obtain ⟨v, hv, rv⟩ := r.get e
        refine ⟨⟨vs, v, h1, hv⟩, fun x H'' y => ?_⟩
        obtain ⟨rfl, y⟩ := y
        have := y vs h1
        rw [hv] at this; cases this
        exact ⟨Nxt.refl, s, rv⟩
    | _ => simp [Src.ofR, hm]
theorem sqT_keep {H H' : Hp} {ι ι' : List Addr} {p : Addr} {vs : List V} (n : Nxt ι H ι' H') (h : H p = some (.tup vs)) : SqT W.K H' p vs := SqT.of (n.tups _ _ h)
theorem si_seq {tg e : Expr} {m : EM} (h : SE W S e m) : SI W S tg e (seqI m) := by
  obtain ⟨t, a, b⟩ := h.ex
  refine ⟨fun Wx σ H Q => iList W.K (t Wx) σ H Q ∨ iTup W.K (t Wx) σ H Q, fun X Wx x => by rw [← x.K]; exact PI.or (pi_list (a X Wx x)) (pi_tup (a X Wx x)), fun Wx σ H ι M env R s r q => ?_⟩
  -- which of both: by what the machine says
  unfold seqI at q
  rw [wpR_bind] at q
  cases e1 : m env M with
  | no => rw [e1] at q; exact q.elim
  | exc x v m' =>
    rw [e1] at q
    exact .inl (b Wx σ H ι M env _ s r (by rw [e1]; exact q))
  | ok x M1 =>
    rw [e1] at q
    have q : wpR (seqSrc x M1) _ (PostX W ι H Wx) := q
    unfold seqSrc at q
    cases e2 : tupOf x with
    | some ds =>
      rw [e2] at q
      refine .inr (b Wx σ H ι M env _ s r ?_)
      rw [e1]
      refine fun v ι1 H1 n1 s1 r1 => ?_
      obtain ⟨p, vs, rfl, hp, rr⟩ := tupOf_rep r1 e2
      refine ⟨p, rfl, ⟨vs, hp⟩, q _ ι1 H1 n1 s1 (isSrc_tup (fun ι' H' n => ?_) rr)⟩
      rcases hp with (hp | ⟨o, hp⟩) | hp
      · exact SqT.of (n.tups _ _ hp)
      · exact .inl (.inr ⟨o, n.frzs _ _ _ hp⟩)
      · exact .inr hp
    | none =>
      rw [e2] at q
      cases x with
      | l ds =>
        refine .inl (b Wx σ H ι M env _ s r ?_)
        rw [e1]
        refine fun v ι1 H1 n1 s1 r1 => ?_
        obtain ⟨p, vs, rfl, hp, hn, h0, rr⟩ := r1
        exact ⟨p, rfl, ⟨vs, SqL.of hp⟩, q _ ι1 H1 n1 s1 (isSrc_list (fun ι' H' n => SqL.of (n.frm p _ hp hn)) rr)⟩
      | d y =>
        cases y with
        | clst ds =>
          refine .inl (b Wx σ H ι M env _ s r ?_)
          rw [e1]
          refine fun v ι1 H1 n1 s1 r1 => ?_
          cases r1 with
          | clst hp rr => exact ⟨_, rfl, ⟨_, hp.sq⟩, q _ ι1 H1 n1 s1 (isSrc_list (fun ι' H' n => (hp.kept n.kept).sq) rr)⟩
        | ref k =>
          dsimp only at q
          cases hm : M1[k]? with
          | none => rw [hm] at q; exact q.elim
          | some o =>
            rw [hm] at q
            cases o with
            | lst ds =>
              refine .inl (b Wx σ H ι M env _ s r ?_)
              rw [e1]
              refine fun v ι1 H1 n1 s1 r1 => ?_
              cases r1 with
              | ref hi =>
                obtain ⟨vs, hp, rr⟩ := s1.obj _ _ _ hm hi
                exact ⟨_, rfl, ⟨vs, SqL.of hp⟩, q _ ι1 H1 n1 s1 (isSrc_ref _ hi)⟩
            | _ => exact q.elim
        | _ => exact q.elim
/-! range -/
def rngL (lo : Int) (n : Nat) : List D := (List.range n).map fun (k : Nat) => D.int (lo + (k : Int))
theorem isSrc_rng {ι : List Addr} {H : Hp} (lo : Int) (n : Nat) : IsSrc W ι H (Itr lo n) (Src.ofL (rngL lo n)).at_ := by
  intro ι' H' m' nn s i
  show match (some (rngL lo n)[i]? : Option (Option D)) with
    | none => True
    | some none => _
    | some (some d) => _
  by_cases hi : i < n
  · have e : (rngL lo n)[i]? = some (.int (lo + (i : Int))) := by simp [rngL, hi]
    rw [e]
    refine ⟨hi, fun x H'' y => ?_⟩
    obtain ⟨rfl, rfl⟩ := y
    exact ⟨Nxt.refl, s, .int _⟩
  · have e : (rngL lo n)[i]? = none := by simp [rngL]; omega
    rw [e]
    show n ≤ i
    omega
def rng1 : List TV → M Src
  | [.d (.int j)] => if -(2 ^ 62) ≤ j ∧ j < 2 ^ 62 then okM (Src.ofL (rngL 0 j.toNat)) else noM
  | _ => noM
def rng2 : List TV → M Src
  | [.d (.int i), .d (.int j)] => if -(2 ^ 62) ≤ i ∧ i < 2 ^ 62 ∧ -(2 ^ 62) ≤ j ∧ j < 2 ^ 62 then okM (Src.ofL (rngL i (j - i).toNat)) else noM
  | _ => noM
theorem si_range1 {tg a : Expr} {m : Env → M (List TV)} {p pos : Pos} (hm : W.mg "range" = none) (h : SAT W S [a] m) (hg : S.sc.names.lookup ("range" : Str) = some .globalImplicit := by rfl) (hs : ∀ env, starEach [a] env = [(false, eval a env)] := by intro _; rfl) :
    SI W S tg (.Call (.Name "range" p) [a] [] pos) (fun env => bindM (m env) rng1) := by
  obtain ⟨t, a1, b⟩ := h.ex
  refine ⟨fun Wx => iRng1 (t Wx), fun X Wx x => pi_range1 (x.gl hg) (by rw [x.mg]; exact hm) (a1 X Wx x) (hs _), fun Wx σ H ι M env R s r q => ?_⟩
  rw [wpR_bind] at q
  refine b Wx σ H ι M env _ s r (wpR_mono q (fun xs M1 h1 vs ι1 H1 n1 s1 r1 => ?_) fun _ _ _ h => h)
  unfold rng1 at h1
  split at h1
  · split at h1
    · rename_i hb
      cases r1 with
      | cons r1 r2 =>
        cases r2; cases r1
        exact ⟨_, rfl, hb.1, hb.2, h1 _ ι1 H1 n1 s1 (isSrc_rng _ _)⟩
    · exact h1.elim
  · exact h1.elim
theorem si_range2 {tg a c : Expr} {m : Env → M (List TV)} {p pos : Pos} (hm : W.mg "range" = none) (h : SAT W S [a, c] m) (hg : S.sc.names.lookup ("range" : Str) = some .globalImplicit := by rfl) (hs : ∀ env, starEach [a, c] env = [(false, eval a env), (false, eval c env)] := by intro _; rfl)
    (hs2 : ∀ env, starEach [c] env = [(false, eval c env)] := by intro _; rfl) : SI W S tg (.Call (.Name "range" p) [a, c] [] pos) (fun env => bindM (m env) rng2) := by
  obtain ⟨t, a1, b⟩ := h.ex
  refine ⟨fun Wx => iRng2 (t Wx), fun X Wx x => pi_range2 (x.gl hg) (by rw [x.mg]; exact hm) (a1 X Wx x) (hs _) (hs2 _), fun Wx σ H ι M env R s r q => ?_⟩
  rw [wpR_bind] at q
  refine b Wx σ H ι M env _ s r (wpR_mono q (fun xs M1 h1 vs ι1 H1 n1 s1 r1 => ?_) fun _ _ _ h => h)
  unfold rng2 at h1
  split at h1
  · split at h1
    · rename_i hb
      cases r1 with
      | cons r1 r2 => cases r2 with
        | cons r2 r3 =>
          cases r3; cases r2; cases r1
          exact ⟨_, _, rfl, hb, h1 _ ι1 H1 n1 s1 (isSrc_rng _ _)⟩
    · exact h1.elim
  · exact h1.elim
end
end Mir

set_option maxHeartbeats 4000000
namespace Mir
open PySem L2
section
variable {W : Wd} {S : SCx} {Wx : WX}

/-! ### comprehensions -/
/-- an error within is none of ours -/
def noX {α : Type} (a : M α) : M α := fun m => match a m with
  | .ok x m' => .ok x m'
  | _ => .no
theorem noX_wp {α : Type} {a : M α} {m : Mem} {q : α → Mem → Prop} {x x' : Ex → Env → Mem → Prop} (h : wpR (noX a m) q x) : wpR (a m) q x' := by
  unfold noX at h
  cases e : a m with
  | ok y m' => rw [e] at h; exact h
  | exc _ _ _ => rw [e] at h; exact h.elim
  | no => rw [e] at h; exact h
theorem noX_nx {α : Type} {a : M α} {m m' : Mem} {e : Ex} {v : Env} : noX a m ≠ .exc e v m' := by
  intro z
  unfold noX at z
  split at z <;> cases z
def lcS (f : Nat → Mem → Option (Option D)) (turn : D → M (Option D)) : Nat → Nat → List D → M (List D)
  | 0, _, _ => noM
  | n + 1, i, acc => fun m => match f i m with
    | none => .no
    | some none => .ok acc m
    | some (some d) => bindM (noX (turn d)) (fun o => match o with
      | some y => if acc.length < sizeLine then lcS f turn n (i + 1) (acc ++ [y]) else noM
      | none => lcS f turn n (i + 1) acc) m
/-- one turn: the target, the tests, the element -/
def lcT (env : Env) (vs : List Nat) (g : D → Env → M Env) (t : TMs) (e : Env → M D) : D → M (Option D) := fun d => bindM (g d (wipeE env vs)) fun env' => bindM (t env') fun b => if b = true then bindM (e env') fun y => okM (some y) else okM none
def lcE (src : Env → M Src) (vs : List Nat) (g : D → Env → M Env) (t : TMs) (e : Env → M D) : EM := fun env => bindM (src env) fun sr => bindM (lcS sr.at_ (lcT env vs g t e) sr.n 0 []) fun ds => okM (.l ds)
def yesT : TMs := fun _ => okM true
structure STs (W : Wd) (S : SCx) (ifs : List Expr) (m : TMs) : Prop where
  ex : ∃ t : WX → TT, (∀ X Wx, At W S X Wx → PTs X ifs (t Wx)) ∧ ∀ Wx, SimT W (t Wx) Wx m
theorem sts_nil : STs W S [] yesT := ⟨fun _ => tYes, fun _ _ _ => pts_nil, fun Wx σ H ι M env Q s r h => h ι H Nxt.refl s⟩
theorem sts_one {e : Expr} {m : TMs} (h : ST W S e m) : STs W S [e] m := by
  obtain ⟨t, a, b⟩ := h.ex
  exact ⟨t, fun X Wx x => pts_one (a X Wx x), b⟩
/-- the block's scope -/
def relS (sc scope : Scope) : Scope := { scope with names := scope.names.map fun (n, k) => if (k == .free && sc.kind == .function && sc.names.lookup n == some .cell) then (n, .cell) else (n, k) }
def SCx.blk (S : SCx) (scope : Scope) : SCx := ⟨S.N, relS S.sc scope, fun x => scope.names.lookup x == some .cell, S.k, S.hot⟩
theorem At.blk {X : Cx} (a : At W S X Wx) {scope : Scope} {s : Shared} {H : Hp} {C : Addr} {cl : List (Str × Addr)} {fp : List Addr} : At W (S.blk scope) (X.blk s H scope (compEnvC scope cl C X.env) fp) (fun _ _ _ _ => False) := by
  refine ⟨a.prog, a.w, a.K, a.mg, a.base, a.N, ?_, rfl, a.nd, a.room, a.units, a.calm, takes0⟩
  show relabel scope X.env = relS S.sc scope
  rw [← a.sc]
  rfl
theorem Nxt.side {ι0 ι : List Addr} {H0 H : Hp} {D : Addr} {o u : HO} (n : Nxt ι0 H0 ι H) (h0 : H0 D = none) (h : H D = some u) : Nxt ι0 H0 ι (upd H D o) := by
  refine ⟨n.pre, fun p w e hn ht => ?_, fun p w e => ?_, fun p xs e => ?_, fun p a b e => ?_, fun p w z e => ?_⟩
  · rw [upd_ne (ne_of_none e h0)]; exact n.frm0 p w e hn ht
  · rw [upd_ne (ne_of_none e h0)]; exact n.there p w e
  · rw [upd_ne (ne_of_none e h0)]; exact n.tups p xs e
  · rw [upd_ne (ne_of_none e h0)]; exact n.frzs p a b e
  · rw [upd_ne (ne_of_none e h0)]; exact n.sats p w z e
theorem kept_side {ι : List Addr} {H : Hp} {D : Addr} {o : HO} {xs : List V} (h : H D = some (.lst xs)) : Kept ι H ι (upd H D o) := by
  refine ⟨fun p ys e => ?_, fun p a b e => ?_, fun h => h, fun p u z0 e => ?_⟩
  · rw [upd_ne (fun z => by subst z; rw [h] at e; cases e)]; exact e
  · rw [upd_ne (fun z => by subst z; rw [h] at e; cases e)]; exact e
  · rw [upd_ne (fun z => by subst z; rw [h] at e; cases e; exact z0)]; exact e
theorem RepO.kept {ι ι' : List Addr} {H H' : Hp} (n : Kept ι H ι' H') {a : Addr} {o : O} (hs : H' a = H a) (r : RepO W H ι a o) : RepO W H' ι' a o := by
  cases o with
  | lst ds => obtain ⟨vs, h, r⟩ := r; exact ⟨vs, hs.trans h, r.kept n⟩
  | dic kvs => obtain ⟨ks, h, r⟩ := r; exact ⟨ks, hs.trans h, r.kept n⟩
  | dit kvs => obtain ⟨ks, h, r⟩ := r; exact ⟨ks, hs.trans h, r.kept n⟩
  | ins c fs => obtain ⟨dx, gs, h, r⟩ := r; exact ⟨dx, gs, hs.trans h, r.kept n⟩
  | fdic kvs => obtain ⟨o, ks, h, r⟩ := r; exact ⟨o, ks, hs.trans h, r.kept n⟩
  | fdit kvs => obtain ⟨o, ks, h, r⟩ := r; exact ⟨o, ks, hs.trans h, r.kept n⟩
  | mix kvs => obtain ⟨ks, h, hk, r⟩ := r; exact ⟨ks, hs.trans h, hk.kept n.1, r.kept n⟩
  | opq c fs => obtain ⟨o, L, gs, h, z, hL, k, r⟩ := r; exact ⟨o, L, gs, hs.trans h, z, fun q hq => ⟨(hL q hq).1, n.2.2.2 _ _ (hL q hq).1 (hL q hq).2⟩, k, r.kept n⟩
theorem Sim.side {ι : List Addr} {m : Mem} {H : Hp} {D : Addr} {o : HO} {xs : List V} (s : Sim W ι m H) (hD : D ∉ ι) (h : H D = some (.lst xs)) : Sim W ι m (upd H D o) :=
  ⟨s.len, s.nd, fun n o' a h1 h2 => (s.obj n o' a h1 h2).kept (kept_side h) (upd_ne fun z => hD (by rw [← z]; exact List.mem_of_getElem? h2)), s.tabs⟩

theorem simE_lc {tg iter elt : Expr} {ifs : List Expr} {scope : Scope} {src : Env → M Src} {sl vs : List Nat} {g : D → Env → M Env} {t : TMs} {e : Env → M D} {wi : TI} {tgt : TG} {tt : TT} {te : TE}
    (hw : ∀ (σ : L2.St) (H : Hp) (ι : List Addr) (M : Mem) (env : Env) (R : It → Hp → Prop), Sim W ι M H → REnv W H ι env σ → wpR (src env M) (fun sr M' => ∀ J ι' H', Nxt ι H ι' H' → Sim W ι' M' H' → IsSrc W ι' H' J sr.at_ → R J H') (PostX W ι H Wx) → wi σ H R)
    (hg : ∀ (σ : L2.St) (H : Hp) (ι : List Addr) (M : Mem) (env : Env) (d : D) (v : V) (Q : L2.St → Hp → Prop), Sim W ι M H → REnv W H ι env σ → Rep W H ι d v →
      wpR (g d env M) (fun env' M' => ∀ σ' ι' H', Nxt ι H ι' H' → Sim W ι' M' H' → REnv W H' ι' env' σ' → (∀ vs : List Nat, (∀ i ∈ sl, i ∈ vs) → L2.wipe σ' vs = L2.wipe σ vs) → Q σ' H') (fun _ _ _ => False) → tgt v σ H Q)
    (hsl : ∀ i ∈ sl, i ∈ vs) (ht : SimT W tt (fun _ _ _ _ => False) t) (he : SimD W te (fun _ _ _ _ => False) e) : SimE W (tLc wi tgt tt te vs) Wx (lcE src vs g t e) := by
  intro σ H ι M env Q s re h
  unfold lcE at h
  rw [wpR_bind] at h
  refine hw σ H ι M env _ s re (wpR_mono h (fun sr M1 h1 J ι1 H1 n1 s1 hJ => ?_) fun _ _ _ h => h)
  rw [wpR_bind] at h1
  intro Dl hD
  have hDn := s1.out hD
  refine ⟨fun i n H' => ∃ ι' M' vs' acc, Nxt ι1 H1 ι' H' ∧ Sim W ι' M' H' ∧ Dl ∉ ι' ∧ H' Dl = some (.lst vs') ∧ Reps W H' ι' acc vs' ∧ wpR (lcS sr.at_ (lcT env vs g t e) n i acc M') (fun ds m => wpR (okM (TV.l ds) m) (PostE W ι H Q) (PostX W ι H Wx)) (PostX W ι H Wx),
    ⟨sr.n, ι1, M1, [], [], Nxt.new hD, s1.new hD, hDn, upd_same, .nil, h1⟩, ?_⟩
  rintro i n H' ⟨ι', M', vs', acc, n', s', hDn', hl', r', h'⟩
  cases n with
  | zero => exact h'.elim
  | succ n =>
    unfold lcS at h'
    have hJ' := hJ ι' H' M' n' s' i
    cases ef : sr.at_ i M' with
    | none => rw [ef] at h'; exact h'.elim
    | some o =>
      rw [ef] at hJ' h'
      cases o with
      | none => exact .inl ⟨hJ', h' _ ι' H' (n1.trans n') s' ⟨Dl, vs', rfl, hl', hDn', n1.back hD, r'⟩⟩
      | some d =>
        obtain ⟨hgo, hy⟩ := hJ'
        refine .inr ⟨hgo, fun H'' => ∃ ι' M' vs' acc, Nxt ι1 H1 ι' H'' ∧ Sim W ι' M' H'' ∧ Dl ∉ ι' ∧ H'' Dl = some (.lst vs') ∧ Reps W H'' ι' acc vs' ∧ wpR (lcS sr.at_ (lcT env vs g t e) n (i + 1) acc M') (fun ds m => wpR (okM (TV.l ds) m) (PostE W ι H Q) (PostX W ι H Wx)) (PostX W ι H Wx), fun H'' q => ⟨n, Nat.lt_succ_self n, q⟩, fun x H2 y => ?_⟩
        obtain ⟨n2, s2, r2⟩ := hy x H2 y
        have h' : wpR (bindM (noX (lcT env vs g t e d)) (fun o => match o with
          | some y => if acc.length < sizeLine then lcS sr.at_ (lcT env vs g t e) n (i + 1) (acc ++ [y]) else noM
          | none => lcS sr.at_ (lcT env vs g t e) n (i + 1) acc) M') (fun ds m => wpR (okM (TV.l ds) m) (PostE W ι H Q) (PostX W ι H Wx)) (PostX W ι H Wx) := h'
        rw [wpR_bind] at h'
        have h' := noX_wp (x' := fun _ _ _ => False) h'
        unfold lcT at h'
        rw [wpR_bind] at h'
        have re2 : REnv W H2 ι' (wipeE env vs) (L2.wipe σ vs) := REnv.wipe (re.mono ((n1.trans n').trans n2)) vs
        refine hg _ H2 ι' M' _ d x _ s2 re2 r2 (wpR_mono h' (fun env' M3 h3 σ3 ι3 H3 n3 s3 re3 hw3 => ⟨?_, ?_⟩) fun _ _ _ h => h)
        · rw [hw3 vs hsl]
          have idem : ∀ (ws us : List Nat) (τ : L2.St), (∀ i ∈ ws, i ∈ us) → L2.wipe (L2.wipe τ ws) us = L2.wipe τ us := by
            intro ws
            induction ws with
            | nil => intro us τ _; rfl
            | cons a r ih =>
              intro us τ hh
              show L2.wipe ((L2.wipe τ r).set a none) us = _
              rw [wipe_set (hh a List.mem_cons_self)]
              exact ih us τ fun i hi => hh i (List.mem_cons_of_mem _ hi)
          exact idem vs vs σ fun _ h => h
        · rw [wpR_bind] at h3
          refine ht σ3 H3 ι3 M3 env' _ s3 re3 (wpR_mono h3 (fun b M4 h4 ι4 H4 n4 s4 => ?_) fun _ _ _ h => h.elim)
          have n24 := (n2.trans n3).trans n4
          have n14 := n'.trans n24
          have hl4 : H4 Dl = some (.lst vs') := n24.frm Dl _ hl' hDn'
          have hD4 : Dl ∉ ι4 := n24.out hl' hDn'
          cases b with
          | false =>
            exact ⟨ι4, M4, vs', acc, n14, s4, hD4, hl4, r'.mono n24, h4⟩
          | true =>
            rw [if_pos rfl] at h4
            refine L2.iteT ?_
            rw [wpR_bind] at h4
            refine he σ3 H4 ι4 M4 env' _ s4 (re3.mono n4) (wpR_mono h4 (fun y M5 h5 v5 ι5 H5 n5 s5 r5 => ?_) fun _ _ _ h => h.elim)
            have n25 := n24.trans n5
            have hl5 : H5 Dl = some (.lst vs') := n25.frm Dl _ hl' hDn'
            have hD5 : Dl ∉ ι5 := n25.out hl' hDn'
            have h5 : wpR ((if acc.length < sizeLine then lcS sr.at_ (lcT env vs g t e) n (i + 1) (acc ++ [y]) else noM) M5) (fun ds m => wpR (okM (TV.l ds) m) (PostE W ι H Q) (PostX W ι H Wx)) (PostX W ι H Wx) := h5
            by_cases hz : acc.length < sizeLine
            · rw [if_pos hz] at h5
              have racc := (r'.mono n25)
              refine ⟨vs', hl5, by rw [← racc.length]; exact hz, ι5, M5, vs' ++ [v5], acc ++ [y], (n'.trans n25).side hD hl5, s5.side hD5 hl5, hD5, upd_same, ?_, h5⟩
              exact (racc.append (.cons r5 .nil)).kept (kept_side hl5)
            · rw [if_neg hz] at h5; exact h5.elim
/-- all that a comprehension is made of -/
structure SLC (W : Wd) (S : SCx) (elt tg iter : Expr) (ifs : List Expr) (scope : Scope) (m : EM) : Prop where
  ex : ∃ (t : WX → TE) (own : List (Str × Nat)) (wi : WX → TI) (g : TG) (tt : TT) (te : TE), (∀ Wx, t Wx = tLc (wi Wx) g tt te (own.map (·.2))) ∧ BlkOk S.N S.sc scope own ∧
    (∀ X Wx, At W S X Wx → PI X tg iter (wi Wx) ∧ (∀ (s : Shared) (H : Hp) (C : Addr) (cl : List (Str × Addr)) (fp : List Addr), PG (X.blk s H scope (compEnvC scope cl C X.env) fp) tg g) ∧
      (∀ (s : Shared) (H : Hp) (C : Addr) (cl : List (Str × Addr)) (fp : List Addr), PTs (X.blk s H scope (compEnvC scope cl C X.env) fp) ifs tt) ∧
      (∀ (s : Shared) (H : Hp) (C : Addr) (cl : List (Str × Addr)) (fp : List Addr), PE (X.blk s H scope (compEnvC scope cl C X.env) fp) elt te)) ∧ ∀ Wx, SimE W (t Wx) Wx m
  fs : ∀ env x, foldedSetIterable iter env x = pure x
theorem slc {elt tg iter : Expr} {ifs : List Expr} {scope : Scope} {src : Env → M Src} {sl : List Nat} {g : D → Env → M Env} {t : TMs} {e : Env → M D} (own : List (Str × Nat)) (ok : blkC S.N S.sc scope own = true) (hi : SI W S tg iter src)
    (hg : SG W (S.blk scope) tg sl g) (ht : STs W (S.blk scope) ifs t) (he : SD W (S.blk scope) elt e) (hsl : ∀ i ∈ sl, i ∈ own.map (·.2)) (hs : ∀ env x, foldedSetIterable iter env x = pure x := by intro _ _; rfl) : SLC W S elt tg iter ifs scope (lcE src (own.map (·.2)) g t e) := by
  obtain ⟨wi, i1, i2⟩ := hi.ex
  obtain ⟨⟨tgt, g1, g2⟩, g3⟩ := hg
  obtain ⟨tt, t1, t2⟩ := ht.ex
  obtain ⟨te, e1, e2⟩ := he.ex
  refine ⟨⟨_, own, wi, tgt, tt (fun _ _ _ _ => False), te (fun _ _ _ _ => False), fun _ => rfl, blkOk_by ok, fun X Wx x => ⟨i1 X Wx x, fun s H C cl fp => g1 _ _ x.blk, fun s H C cl fp => t1 _ _ x.blk, fun s H C cl fp => e1 _ _ x.blk⟩, fun Wx => ?_⟩, hs⟩
  exact simE_lc (tg := tg) (iter := iter) (elt := elt) (ifs := ifs) (scope := scope) (fun σ H ι M env R => i2 Wx σ H ι M env R) g2 hsl (t2 _) (e2 _)
theorem se_lc {elt tg iter : Expr} {ifs : List Expr} {scope : Scope} {m : EM} {pos : Pos} (h : SLC W S elt tg iter ifs scope m) (hc : S.hot = false := by rfl) : SE W S (.ListComp elt [⟨tg, iter, ifs, 0⟩] scope pos) m := by
  obtain ⟨⟨t, own, wi, g, tt, te, e, ok, a, b⟩, hs⟩ := h
  refine ⟨t, fun X Wx x => ?_, b⟩
  obtain ⟨a1, a2, a3, a4⟩ := a X Wx x
  rw [e]
  exact pe_lc (x.calm hc) x.nd a1 (by rw [x.N, x.sc]; exact ok) a2 a3 a4 (hs _)
end
end Mir

set_option maxHeartbeats 4000000
namespace Mir
open PySem L2
section
variable {W : Wd} {S : SCx} {Wx : WX}

/-! ### statements -/
inductive Fl where
  | nxt (e : Env) | ret (d : D) | brk (e : Env) | cnt (e : Env)
abbrev SMs := Env → M Fl
def PostS (W : Wd) (ι : List Addr) (H : Hp) (D : Ends) : Fl → Mem → Prop := fun fl M' => match fl with
  | .nxt e => ∀ σ' ι' H', Nxt ι H ι' H' → Sim W ι' M' H' → REnv W H' ι' e σ' → D.nx σ' H'
  | .ret d => ∀ v ι' H', Nxt ι H ι' H' → Sim W ι' M' H' → Rep W H' ι' d v → D.rt v H'
  | .brk e => ∀ σ' ι' H', Nxt ι H ι' H' → Sim W ι' M' H' → REnv W H' ι' e σ' → D.bk σ' H'
  | .cnt e => ∀ σ' ι' H', Nxt ι H ι' H' → Sim W ι' M' H' → REnv W H' ι' e σ' → D.ct σ' H'
theorem PostS.next {ι ι1 : List Addr} {H H1 : Hp} {D : Ends} {fl : Fl} {m : Mem} (n : Nxt ι H ι1 H1) (h : PostS W ι H D fl m) : PostS W ι1 H1 D fl m := by
  cases fl with
  | nxt e => exact fun σ' ι' H' n' => h σ' ι' H' (n.trans n')
  | ret d => exact fun σ' ι' H' n' => h σ' ι' H' (n.trans n')
  | brk e => exact fun σ' ι' H' n' => h σ' ι' H' (n.trans n')
  | cnt e => exact fun σ' ι' H' n' => h σ' ι' H' (n.trans n')
def SimS (W : Wd) (t : TS) (Wx : WX) (m : SMs) : Prop := ∀ (σ : L2.St) (H : Hp) (ι : List Addr) (M : Mem) (env : Env) (D : Ends), Sim W ι M H → REnv W H ι env σ → wpR (m env M) (PostS W ι H D) (PostX W ι H Wx) → t D σ H
structure AtS (W : Wd) (S : SCx) (X : Cx) (Wx : WX) : Prop extends At W S X Wx where
  own : PassesOwn (model X.prog X.w) X.A X.env X.xe
  ex0 : X.ex = []
  stk : X.stack = X.env :: X.outer
  frm : X.env.frame = some X.env.locals
structure SS (W : Wd) (S : SCx) (st : Stmt) (m : SMs) : Prop where
  ex : ∃ t : WX → TS, (∀ X Wx, AtS W S X Wx → PS X st (t Wx)) ∧ ∀ Wx, SimS W (t Wx) Wx m
structure SB (W : Wd) (S : SCx) (sts : List Stmt) (m : SMs) : Prop where
  ex : ∃ t : WX → TS, (∀ X Wx, AtS W S X Wx → PSs X sts (t Wx)) ∧ ∀ Wx, SimS W (t Wx) Wx m
def skipS : SMs := fun env => okM (.nxt env)
def seqS (a b : SMs) : SMs := fun env => bindM (a env) fun fl => match fl with
  | .nxt e => b e
  | fl => okM fl
theorem sb_nil : SB W S [] skipS := ⟨fun _ => tNext, fun _ _ _ => pss_nil, fun Wx σ H ι M env D s r h => h σ ι H Nxt.refl s r⟩
theorem sb_one {st : Stmt} {m : SMs} (h : SS W S st m) : SB W S [st] m := by
  obtain ⟨t, a, b⟩ := h.ex
  exact ⟨t, fun X Wx x => pss_one (a X Wx x), b⟩
theorem sb_cons {st : Stmt} {rest : List Stmt} {m r : SMs} (h : SS W S st m) (hr : SB W S rest r) : SB W S (st :: rest) (seqS m r) := by
  obtain ⟨t, a, b⟩ := h.ex
  obtain ⟨u, a2, b2⟩ := hr.ex
  refine ⟨fun Wx => tSeq (t Wx) (u Wx), fun X Wx x => pss_cons (a X Wx x) (a2 X Wx x), fun Wx σ H ι M env D s re h => ?_⟩
  unfold seqS at h
  rw [wpR_bind] at h
  refine b Wx σ H ι M env _ s re (wpR_mono h (fun fl M1 h1 => ?_) fun _ _ _ h => h)
  cases fl with
  | nxt e => exact fun σ1 ι1 H1 n1 s1 r1 => b2 Wx σ1 H1 ι1 M1 e D s1 r1 (wpR_mono h1 (fun fl M2 h2 => PostS.next n1 h2) fun _ _ _ h => PostX.next n1 h)
  | ret d => exact h1
  | brk e => exact h1
  | cnt e => exact h1
theorem ss_pass {pos : Pos} : SS W S (.Pass pos) skipS := ⟨fun _ => tNext, fun _ _ _ => ps_pass, fun Wx σ H ι M env D s r h => h σ ι H Nxt.refl s r⟩
def brkS : SMs := fun env => okM (.brk env)
def cntS : SMs := fun env => okM (.cnt env)
theorem ss_break {pos : Pos} : SS W S (.Break pos) brkS := ⟨fun _ => tBreak, fun _ _ _ => ps_break, fun Wx σ H ι M env D s r h => h σ ι H Nxt.refl s r⟩
theorem ss_continue {pos : Pos} : SS W S (.Continue pos) cntS := ⟨fun _ => tCont, fun _ _ _ => ps_continue, fun Wx σ H ι M env D s r h => h σ ι H Nxt.refl s r⟩
def retS (e : Env → M D) : SMs := fun env => bindM (e env) fun d => okM (.ret d)
theorem ss_ret {e : Expr} {m : Env → M D} {pos : Pos} (h : SD W S e m) : SS W S (.Return (some e) pos) (retS m) := by
  obtain ⟨t, a, b⟩ := h.ex
  refine ⟨fun Wx => tRet (t Wx), fun X Wx x => ps_ret (a X Wx x.toAt), fun Wx σ H ι M env D s re h => ?_⟩
  unfold retS at h
  rw [wpR_bind] at h
  exact b Wx σ H ι M env _ s re (wpR_mono h (fun d M1 h1 v ι1 H1 n1 s1 r1 => h1 v ι1 H1 n1 s1 r1) fun _ _ _ h => h)
def retNS : SMs := fun _ => okM (.ret .non)
theorem ss_retN {pos : Pos} : SS W S (.Return none pos) retNS := ⟨fun _ => tRetN, fun _ _ _ => ps_retN, fun Wx σ H ι M env D s r h => h _ ι H Nxt.refl s .non⟩
def dropS (e : EM) : SMs := fun env => bindM (e env) fun _ => okM (.nxt env)
theorem ss_expr {e : Expr} {m : EM} {pos : Pos} (h : SE W S e m) (hs : ∀ env, swapsWith e none pos.line env = pure false := by intro _; rfl) : SS W S (.Expr e pos) (dropS m) := by
  obtain ⟨t, a, b⟩ := h.ex
  refine ⟨fun Wx => tDrop (t Wx), fun X Wx x => ps_expr (a X Wx x.toAt) (hs _), fun Wx σ H ι M env D s re h => ?_⟩
  unfold dropS at h
  rw [wpR_bind] at h
  exact b Wx σ H ι M env _ s re (wpR_mono h (fun d M1 h1 v ι1 H1 n1 s1 r1 => h1 σ ι1 H1 n1 s1 (re.mono n1)) fun _ _ _ h => h)
def ifS (t : TMs) (a b : SMs) : SMs := fun env => bindM (t env) fun k => if k = true then a env else b env
theorem ss_if {c : Expr} {p q : List Stmt} {mc : TMs} {ma mb : SMs} {pos : Pos} (hc : ST W S c mc) (ha : SB W S p ma) (hb : SB W S q mb) : SS W S (.If c p q pos) (ifS mc ma mb) := by
  obtain ⟨t, a0, b0⟩ := hc.ex
  obtain ⟨u, a1, b1⟩ := ha.ex
  obtain ⟨w, a2, b2⟩ := hb.ex
  refine ⟨fun Wx => tIfS (t Wx) (u Wx) (w Wx), fun X Wx x => ps_if (a0 X Wx x.toAt) (a1 X Wx x) (a2 X Wx x), fun Wx σ H ι M env D s re h => ?_⟩
  unfold ifS at h
  rw [wpR_bind] at h
  refine b0 Wx σ H ι M env _ s re (wpR_mono h (fun k M1 h1 ι1 H1 n1 s1 => ?_) fun _ _ _ h => h)
  cases k with
  | true =>
    refine L2.iteT ?_
    exact b1 Wx σ H1 ι1 M1 env D s1 (re.mono n1) (wpR_mono h1 (fun fl M2 h2 => PostS.next n1 h2) fun _ _ _ h => PostX.next n1 h)
  | false =>
    refine L2.iteF ?_
    exact b2 Wx σ H1 ι1 M1 env D s1 (re.mono n1) (wpR_mono h1 (fun fl M2 h2 => PostS.next n1 h2) fun _ _ _ h => PostX.next n1 h)
/-- target = value -/
def asgS (e : Env → M D) (g : D → Env → M Env) : SMs := fun env => bindM (e env) fun d => bindM (g d env) fun env' => okM (.nxt env')
theorem simS_asg {te : TE} {tg : TG} {m : Env → M D} {g : D → Env → M Env} {sl : List Nat} (he : SimD W te Wx m) (hg : ∀ (σ : L2.St) (H : Hp) (ι : List Addr) (M : Mem) (env : Env) (d : D) (v : V) (Q : L2.St → Hp → Prop), Sim W ι M H → REnv W H ι env σ → Rep W H ι d v →
    wpR (g d env M) (fun env' M' => ∀ σ' ι' H', Nxt ι H ι' H' → Sim W ι' M' H' → REnv W H' ι' env' σ' → (∀ vs : List Nat, (∀ i ∈ sl, i ∈ vs) → L2.wipe σ' vs = L2.wipe σ vs) → Q σ' H') (fun _ _ _ => False) → tg v σ H Q)
    (hn : ∀ d env M e v m', g d env M ≠ .exc e v m') : SimS W (tAsg te tg) Wx (asgS m g) := by
  intro σ H ι M env D s re h
  unfold asgS at h
  rw [wpR_bind] at h
  refine he σ H ι M env _ s re (wpR_mono h (fun d M1 h1 v ι1 H1 n1 s1 r1 => ?_) fun _ _ _ h => h)
  rw [wpR_bind] at h1
  refine hg σ H1 ι1 M1 env d v _ s1 (re.mono n1) r1 ?_
  cases e : g d env M1 with
  | exc a b c => exact absurd e (hn _ _ _ _ _ _)
  | no => rw [e] at h1; exact h1
  | ok env' M2 =>
    rw [e] at h1
    exact fun σ' ι' H' n' s' r' _ => h1 σ' ι' H' (n1.trans n') s' r'
theorem ss_asg {tg e : Expr} {m : Env → M D} {g : D → Env → M Env} {sl : List Nat} {pos : Pos} (h : SD W S e m) (hg : SG W S tg sl g) (hs : ∀ env, swapsWithSole [tg] e pos.line env = pure false := by intro _; rfl) (hw : ∀ env, swappedStores [tg] e env = pure none := by intro _; rfl)
    (h1 : ∀ env, (assignEach [tg] env).map (·.2) = [assign tg env] := by intro _; rfl) : SS W S (.Assign [tg] e pos) (asgS m g) := by
  obtain ⟨t, a, b⟩ := h.ex
  obtain ⟨⟨u, a1, b1⟩, n1⟩ := hg
  exact ⟨fun Wx => tAsg (t Wx) u, fun X Wx x => ps_asg (a X Wx x.toAt) (a1 X Wx x.toAt) (hs _) (hw _) (h1 _), fun Wx => simS_asg (b Wx) b1 n1⟩
/-- name = [..], the name a local one -/
theorem ss_lc {x : Str} {px : Pos} {elt tg iter : Expr} {ifs : List Expr} {scope : Scope} {m : EM} {pos spos : Pos} (i : Nat) (h : SLC W S elt tg iter ifs scope m) (hN : S.N[i]? = some x := by rfl) (hl : S.sc.names.lookup x = some .local := by rfl) (hk : S.sc.kind = .function := by rfl)
    (hp : (px.line == pos.line) = true := by rfl) (ha : (scope.names.any fun (n, k) => n == x && (k == .local || k == .cell)) = false := by decide +kernel) (hc : S.hot = false := by rfl) : SS W S (.Assign [.Name x px] (.ListComp elt [⟨tg, iter, ifs, 0⟩] scope pos) spos) (asgS (matE m) (nmG i)) := by
  obtain ⟨⟨t, own, wi, g, tt, te, e, ok, a, b⟩, hs⟩ := h
  refine ⟨fun Wx => tAsg (t Wx) (gName i), fun X Wx x' => ?_, fun Wx => ?_⟩
  · obtain ⟨a1, a2, a3, a4⟩ := a X Wx x'.toAt
    show PS X _ (tAsg (t Wx) (gName i))
    rw [e]
    exact ps_setLc (x'.calm hc) x'.nd (by rw [x'.N]; exact hN) (by rw [x'.sc]; exact hl) (sw_true (by rw [x'.sc]; exact hk) (by rw [x'.sc]; exact hl) hp ha) a1 (by rw [x'.N, x'.sc]; exact ok) a2 a3 a4 (hs _)
  · refine simS_asg (sl := [i]) (fun σ H ι M env Q s r q => b Wx σ H ι M env Q s r ?_) (fun σ H ι M env d v Q s re r h => h (σ.set i (some v)) ι H Nxt.refl s (re.set r i) fun vs hv => wipe_set (hv i (by simp))) (fun d env M e v m' z => by cases z)
    unfold matE at q
    rw [wpR_bind] at q
    refine wpR_mono q (fun x M1 h1 v ι1 H1 n1 s1 r1 => ?_) fun _ _ _ h => h
    obtain ⟨d, m', e⟩ := matD_res x M1
    rw [e] at h1
    obtain ⟨ι', n2, s2, r2⟩ := matD_ok s1 n1 r1 e
    exact h1 v ι' H1 n2 s2 r2
/-- the same, the name a cell -/
theorem ss_lcC {x : Str} {px : Pos} {elt tg iter : Expr} {ifs : List Expr} {scope : Scope} {m : EM} {pos spos : Pos} (i : Nat) (h : SLC W S elt tg iter ifs scope m) (hN : S.N[i]? = some x := by rfl) (hl : S.sc.names.lookup x = some .cell := by rfl) (hk : S.sc.kind = .function := by rfl) (hf : S.fn x = true := by rfl) (hc : S.hot = false := by rfl) :
    SS W S (.Assign [.Name x px] (.ListComp elt [⟨tg, iter, ifs, 0⟩] scope pos) spos) (asgS (matE m) (nmG i)) := by
  obtain ⟨t, a, b⟩ := (sd (se_lc (pos := pos) h hc)).ex
  obtain ⟨⟨u, a1, b1⟩, n1⟩ := sg_name (W := W) (S := S) (x := x) (pos := px) i hN (Or.inr hl) (Or.inl hf)
  refine ⟨fun Wx => tAsg (t Wx) u, fun X Wx x' => ps_asg (a X Wx x'.toAt) (a1 X Wx x'.toAt) ?_ rfl, fun Wx => simS_asg (b Wx) b1 n1⟩
  have kk : X.env.kindOf x = some .cell := by
    show X.env.scope.names.lookup x = _
    rw [x'.sc]; exact hl
  unfold swapsWithSole swapsWith
  have e0 : (NameKind.cell == NameKind.local) = false := rfl
  simp [kk, e0]

/-! ### loops -/
def loopS (f : Nat → Mem → Option (Option D)) (g : D → Env → M Env) (body : SMs) : Nat → Nat → SMs
  | 0, _, _ => noM
  | n + 1, i, env => fun m => match f i m with
    | none => .no
    | some none => .ok (.nxt env) m
    | some (some d) => bindM (g d env) (fun e1 => bindM (body e1) fun fl => match fl with
      | .nxt e => loopS f g body n (i + 1) e
      | .cnt e => loopS f g body n (i + 1) e
      | .brk e => okM (.nxt e)
      | .ret d => okM (.ret d)) m
def forS (src : Env → M Src) (g : D → Env → M Env) (body : SMs) : SMs := fun env => bindM (src env) fun sr => loopS sr.at_ g body sr.n 0 env
theorem ss_for {tg iter : Expr} {body : List Stmt} {src : Env → M Src} {sl : List Nat} {g : D → Env → M Env} {b : SMs} {pos : Pos} (hi : SI W S tg iter src) (hg : SG W S tg sl g) (hb : SB W S body b) (hs : ∀ env x, foldedSetIterable iter env x = pure x := by intro _ _; rfl) (hc : S.hot = false := by rfl) :
    SS W S (.For tg iter body [] pos) (forS src g b) := by
  obtain ⟨wi, i1, i2⟩ := hi.ex
  obtain ⟨⟨tgt, g1, g2⟩, g3⟩ := hg
  obtain ⟨tb, b1, b2⟩ := hb.ex
  refine ⟨fun Wx => tFor (wi Wx) tgt (tb Wx), fun X Wx x => ps_for x.own (x.calm hc) (i1 X Wx x.toAt) (g1 X Wx x.toAt) (b1 X Wx x) (hs _), fun Wx σ H ι M env D s re h => ?_⟩
  unfold forS at h
  rw [wpR_bind] at h
  refine i2 Wx σ H ι M env _ s re (wpR_mono h (fun sr M1 h1 J ι1 H1 n1 s1 hJ => ?_) fun _ _ _ h => h)
  refine ⟨fun i n σ' H' => ∃ ι' M' env', Nxt ι1 H1 ι' H' ∧ Sim W ι' M' H' ∧ REnv W H' ι' env' σ' ∧ wpR (loopS sr.at_ g b n i env' M') (PostS W ι H D) (PostX W ι H Wx), ⟨sr.n, ι1, M1, env, Nxt.refl, s1, re.mono n1, h1⟩, ?_⟩
  rintro i n σ' H' ⟨ι', M', env', n', s', re', h'⟩
  cases n with
  | zero => exact h'.elim
  | succ n =>
    unfold loopS at h'
    have hJ' := hJ ι' H' M' n' s' i
    cases ef : sr.at_ i M' with
    | none => rw [ef] at h'; exact h'.elim
    | some o =>
      rw [ef] at hJ' h'
      cases o with
      | none => exact .inl ⟨hJ', h' σ' ι' H' (n1.trans n') s' re'⟩
      | some d =>
        obtain ⟨hgo, hy⟩ := hJ'
        refine .inr ⟨hgo, fun σ' H' => ∃ ι' M' env', Nxt ι1 H1 ι' H' ∧ Sim W ι' M' H' ∧ REnv W H' ι' env' σ' ∧ wpR (loopS sr.at_ g b n (i + 1) env' M') (PostS W ι H D) (PostX W ι H Wx), fun _ _ q => ⟨n, Nat.lt_succ_self n, q⟩, fun x H2 y => ?_⟩
        obtain ⟨n2, s2, r2⟩ := hy x H2 y
        have h' : wpR (bindM (g d env') (fun e1 => bindM (b e1) fun fl => match fl with
          | .nxt e => loopS sr.at_ g b n (i + 1) e
          | .cnt e => loopS sr.at_ g b n (i + 1) e
          | .brk e => okM (.nxt e)
          | .ret d => okM (.ret d)) M') (PostS W ι H D) (PostX W ι H Wx) := h'
        rw [wpR_bind] at h'
        refine g2 σ' H2 ι' M' env' d x _ s2 (re'.mono n2) r2 ?_
        cases eg : g d env' M' with
        | exc a b c => exact absurd eg (g3 _ _ _ _ _ _)
        | no => rw [eg] at h'; exact h'
        | ok e1 M3 =>
          rw [eg] at h'
          refine fun σ3 ι3 H3 n3 s3 re3 _ => ?_
          have h' : wpR (bindM (b e1) (fun fl => match fl with
            | .nxt e => loopS sr.at_ g b n (i + 1) e
            | .cnt e => loopS sr.at_ g b n (i + 1) e
            | .brk e => okM (.nxt e)
            | .ret d => okM (.ret d)) M3) (PostS W ι H D) (PostX W ι H Wx) := h'
          rw [wpR_bind] at h'
          have n13 := (n'.trans n2).trans n3
          have n03 := n1.trans n13
          refine b2 Wx σ3 H3 ι3 M3 e1 _ s3 re3 (wpR_mono h' (fun fl M4 h4 => ?_) fun _ _ _ h => PostX.next n03 h)
          cases fl with
          | nxt e => exact fun σ4 ι4 H4 n4 s4 re4 => ⟨ι4, M4, e, n13.trans n4, s4, re4, h4⟩
          | cnt e => exact fun σ4 ι4 H4 n4 s4 re4 => ⟨ι4, M4, e, n13.trans n4, s4, re4, h4⟩
          | brk e => exact fun σ4 ι4 H4 n4 s4 re4 => h4 σ4 ι4 H4 (n03.trans n4) s4 re4
          | ret d => exact fun v4 ι4 H4 n4 s4 r4 => h4 v4 ι4 H4 (n03.trans n4) s4 r4
def whileL (t : TMs) (body : SMs) : Nat → SMs
  | 0, _ => noM
  | n + 1, env => bindM (t env) fun k => if k = true then bindM (body env) (fun fl => match fl with
      | .nxt e => whileL t body n e
      | .cnt e => whileL t body n e
      | .brk e => okM (.nxt e)
      | .ret d => okM (.ret d)) else okM (.nxt env)
/-- turns enough -/
def manyN : Nat := 1000000000000
def whileS (t : TMs) (body : SMs) : SMs := whileL t body manyN
theorem ss_while {c : Expr} {body : List Stmt} {t : TMs} {b : SMs} {pos : Pos} (hc : ST W S c t) (hb : SB W S body b) : SS W S (.While c body [] pos) (whileS t b) := by
  obtain ⟨tc, c1, c2⟩ := hc.ex
  obtain ⟨tb, b1, b2⟩ := hb.ex
  refine ⟨fun Wx => tWhile (tc Wx) (tb Wx), fun X Wx x => ps_while x.own (c1 X Wx x.toAt) (b1 X Wx x), fun Wx σ H ι M env D s re h => ?_⟩
  unfold whileS at h
  refine ⟨fun n σ' H' => ∃ ι' M' env', Nxt ι H ι' H' ∧ Sim W ι' M' H' ∧ REnv W H' ι' env' σ' ∧ wpR (whileL t b n env' M') (PostS W ι H D) (PostX W ι H Wx), ⟨manyN, ι, M, env, Nxt.refl, s, re, h⟩, ?_⟩
  rintro n σ' H' ⟨ι', M', env', n', s', re', h'⟩
  cases n with
  | zero => exact h'.elim
  | succ n =>
    unfold whileL at h'
    rw [wpR_bind] at h'
    refine c2 Wx σ' H' ι' M' env' _ s' re' (wpR_mono h' (fun k M1 h1 ι1 H1 n1 s1 => ?_) fun _ _ _ h => PostX.next n' h)
    cases k with
    | false =>
      refine L2.iteF ?_
      exact h1 σ' ι1 H1 (n'.trans n1) s1 (re'.mono n1)
    | true =>
      refine L2.iteT ?_
      refine ⟨fun σ' H' => ∃ ι' M' env', Nxt ι H ι' H' ∧ Sim W ι' M' H' ∧ REnv W H' ι' env' σ' ∧ wpR (whileL t b n env' M') (PostS W ι H D) (PostX W ι H Wx), fun _ _ q => ⟨n, Nat.lt_succ_self n, q⟩, ?_⟩
      rw [if_pos rfl] at h1
      rw [wpR_bind] at h1
      have n01 := n'.trans n1
      refine b2 Wx σ' H1 ι1 M1 env' _ s1 (re'.mono n1) (wpR_mono h1 (fun fl M4 h4 => ?_) fun _ _ _ h => PostX.next n01 h)
      cases fl with
      | nxt e => exact fun σ4 ι4 H4 n4 s4 re4 => ⟨ι4, M4, e, n01.trans n4, s4, re4, h4⟩
      | cnt e => exact fun σ4 ι4 H4 n4 s4 re4 => ⟨ι4, M4, e, n01.trans n4, s4, re4, h4⟩
      | brk e => exact fun σ4 ι4 H4 n4 s4 re4 => h4 σ4 ι4 H4 (n01.trans n4) s4 re4
      | ret d => exact fun v4 ι4 H4 n4 s4 r4 => h4 v4 ι4 H4 (n01.trans n4) s4 r4

/-! ### defs -/
abbrev FnSem := List D → M D
def fnM (n : Nat) (body : SMs) : FnSem := fun args m => match body (args.map some ++ List.replicate (n - args.length) none) m with
  | .ok (.nxt _) m' => .ok .non m'
  | .ok (.ret d) m' => .ok d m'
  | .ok _ _ => .no
  | .exc x _ m' => .exc x [] m'
  | .no => .no
def spOf (W : Wd) (np : Nat) (F : FnSem) : Sp := fun vs H Q E => vs.length = np ∧ ∃ ι m ds, Sim W ι m H ∧ Reps W H ι ds vs ∧ wpR (F ds m) (PostD W ι H Q) (fun x _ m' => ∀ cls d ι' H', Nxt ι H ι' H' → Sim W ι' m' H' → RepX W H' ι' x cls d → E cls d H')
/-- a def that may be called by its name -/
structure Fn (W : Wd) (x : Str) (k np : Nat) (F : FnSem) : Prop where
  ex : ∃ (f : Addr) (fd : FuncData) (ps : List Str), W.mg x = some (.ref f) ∧ PySem.W.keepIn W.K (.ref f) = true ∧ Binds W.K fd ps [] ∧ ps.length = np ∧ FnOk W.P W.w W.K W.mg W.base (L2.CX W.P W.w) k f fd ps (spOf W np F)
theorem renv_start {H : Hp} {ι : List Addr} : ∀ {ds : List D} {vs : List V} (n : Nat), Reps W H ι ds vs → REnv W H ι (ds.map some ++ List.replicate n none) (vs.map some ++ List.replicate n none)
  | [], _, n, r => by
    cases r
    induction n with
    | zero => exact .nil
    | succ n ih => exact .no ih
  | d :: ds, _, n, r => by
    cases r with
    | cons r1 r2 => exact .has r1 (renv_start n r2)
theorem room150 {k : Nat} {A : Around} (r : Room k A) : A.units + 150 < cLine := by have := r.un; omega
theorem fn_ok {x qual : Str} {st : Stmt} {f : Addr} {fd : FuncData} {N ps : List Str} {k : Nat} {b : SMs} (F : Fun W.K x qual st f fd) (C : FnScope N ps (defScope st)) (hb : SB W ⟨N, defScope st, fun _ => true, k, false⟩ (defBody st) b) :
    FnOk W.P W.w W.K W.mg W.base (L2.CX W.P W.w) (k + 1) f fd ps (spOf W ps.length (fnM N.length b)) := by
  refine F.okX C (fun vs H Q E h => h.1) (fun cdv A outer s H vs Q E hr h => ?_)
  obtain ⟨hl, ι, m, ds, sm, r, h⟩ := h
  obtain ⟨t, a, bb⟩ := hb.ex
  have at_ : AtS W ⟨N, defScope st, fun _ => true, k, false⟩ (cxOf (L2.CX W.P W.w) W.P W.w W.K W.mg W.base N qual (defScope st) f cdv A outer s H E) (fun cls d _ H => E cls d H) :=
    ⟨⟨rfl, rfl, rfl, rfl, rfl, rfl, rfl, rfl, C.nd, fun _ => hr, room150 hr, fun _ => rfl, takes_of rfl rfl rfl rfl⟩, passes_of rfl, rfl, rfl, rfl⟩
  refine ⟨_, a _ _ at_, ?_⟩
  unfold L2.start
  have re := renv_start (N.length - vs.length) r
  refine bb _ _ H ι m _ _ sm re ?_
  unfold fnM at h
  rw [r.length] at h
  cases e : b (ds.map some ++ List.replicate (N.length - vs.length) none) m with
  | ok fl m' =>
    rw [e] at h
    cases fl with
    | nxt e => exact fun σ' ι' H' n s' _ => h _ ι' H' n s' .non
    | ret d => exact fun v ι' H' n s' r' => h v ι' H' n s' r'
    | brk e => exact h.elim
    | cnt e => exact h.elim
  | exc x e m' =>
    rw [e] at h
    exact fun cls d σ' ι' H' n s' _ rx => h cls d ι' H' n s' rx
  | no => rw [e] at h; exact h
def callF (F : FnSem) (a : Env → M (List D)) : EM := fun env => bindM (a env) fun ds m => match F ds m with
  | .ok d m' => .ok (.d d) m'
  | .exc x _ m' => .exc x env m'
  | .no => .no
theorem simE_call {np : Nat} {F : FnSem} {t : TA} {a : Env → M (List D)} (hn : ∀ env M ds M', a env M = .ok ds M' → ds.length = np) (h : SimA W t Wx a) : SimE W (tCallS (spOf W np F) (WE Wx) t) Wx (callF F a) := by
  intro σ H ι M env Q s re q
  unfold callF at q
  rw [wpR_bind] at q
  refine h σ H ι M env _ s re (wpR_mono (wpR_and q) (fun ds M1 ⟨e, h1⟩ vs ι1 H1 n1 s1 r1 => ⟨by rw [← r1.length]; exact hn _ _ _ _ e, ι1, M1, ds, s1, r1, ?_⟩) fun _ _ _ h => h)
  cases ef : F ds M1 with
  | ok d m' => rw [ef] at h1; exact fun v ι' H' n' s' r' => h1 v ι' H' (n1.trans n') s' r'
  | exc x e m' => rw [ef] at h1; exact fun cls d ι' H' n' s' rx => h1 cls d σ ι' H' (n1.trans n') s' ((re.mono n1).mono n') rx
  | no => rw [ef] at h1; exact h1
theorem se_call {x : Str} {k np : Nat} {F : FnSem} {e : Expr} {es : List Expr} {a : Env → M (List D)} {p pos : Pos} (f : Fn W x k np F) (ha : SA W S (e :: es) a) (hk : k ≤ S.k := by decide) (hl : (e :: es).length = np := by rfl) (hg : S.sc.names.lookup x = some .globalImplicit := by rfl) (hdb : (x == ("__debug__" : Str)) = false := by decide)
    (he : ∀ env, starEach (e :: es) env = (false, eval e env) :: starEach es env := by intro _; rfl) (hpl : ∀ env, (backTo pos (starEach es env)).any (·.1) = false := by intro _; rfl) (hc : S.hot = false := by rfl) : SE W S (.Call (.Name x p) (e :: es) [] pos) (callF F a) := by
  obtain ⟨fa, fd, ps, hm, kp, bd, hps, ok⟩ := f.ex
  obtain ⟨t, a1, b1⟩ := ha.ex
  refine ⟨fun Wx => tCallS (spOf W np F) (WE Wx) (t Wx), fun X Wx y => ?_, fun Wx => simE_call (fun env M ds M' e => (ha.len env M ds M' e).trans hl) (b1 Wx)⟩
  refine pe_callS (CX := L2.CX X.prog X.w) (ps := ps) (fd := fd) (k := k) (f := fa) ?_ ((y.room hc).mono hk) (y.gl hg) (by rw [y.mg]; exact hm) (by rw [y.K]; exact kp) (by rw [y.K]; exact bd) (fun σ => passAt y.tk σ) (a1 X Wx y) hdb (he _) (hpl _)
  rw [y.prog, y.w, y.K, y.mg, y.base]
  exact ok
end
end Mir

set_option maxHeartbeats 4000000
namespace Mir
open PySem L2
section
variable {W : Wd} {S : SCx} {Wx : WX}

/-! ### methods of built-in types -/
/-- the receiver is of that type -/
def chk (T : String) (m : Mem) (x : TV) : Bool := if T = "list" then (listOf m x).isSome else if T = "str" then (match x with | .d (.str _) => true | _ => false) else if T = "dict" then (match x with | .d (.ref n) => (match m[n]? with | some (.dic _) => true | some (.dit _) => true | _ => false) | _ => false) else false
theorem chk_rep {T : String} {H0 H : Hp} {ι : List Addr} {m : Mem} {x : TV} {v : V} (s : Sim W ι m H) (r : RepT W H0 H ι x v) (e : chk T m x = true) : tyV W.K T v H := by
  unfold chk at e
  split at e
  · rename_i hT
    obtain ⟨ds, e⟩ := Option.isSome_iff_exists.mp e
    obtain ⟨p, vs, rfl, h, _⟩ := listOf_rep s r e
    exact .inl ⟨hT, vs, h⟩
  · split at e
    · rename_i _ hT
      cases x with
      | l _ => cases e
      | d y => cases y with
        | str z => cases r; exact hT
        | _ => cases e
    · split at e
      · rename_i _ _ hT
        cases x with
        | l _ => cases e
        | d y => cases y with
          | ref n =>
            dsimp only at e
            cases r with
            | ref hi =>
              cases hm : m[n]? with
              | none => rw [hm] at e; cases e
              | some o =>
                rw [hm] at e
                cases o with
                | dic kvs => obtain ⟨ks, h, _⟩ := s.obj _ _ _ hm hi; exact .inr (.inr (.inl ⟨hT, .inl ⟨ks, h⟩⟩))
                | dit kvs => obtain ⟨ks, h, _⟩ := s.obj _ _ _ hm hi; exact .inr (.inr (.inl ⟨hT, .inr ⟨ks, h⟩⟩))
                | _ => cases e
          | _ => cases e
      · cases e
def MetSim (W : Wd) (r : V → List V → Hp → VK → Prop) (f : TV → List TV → M TV) : Prop := ∀ (H0 H : Hp) (ι : List Addr) (m : Mem) (x : TV) (v : V) (xs : List TV) (vs : List V) (Q : VK), Sim W ι m H → RepT W H0 H ι x v → RepTs W H0 H ι xs vs → (∀ p, H p = none → H0 p = none) →
  wpR (f x xs m) (PostE W ι H Q) (fun _ _ _ => False) → r v vs H Q
structure MetS (W : Wd) (S : SCx) (id : String) (f : TV → List TV → M TV) : Prop where
  ex : ∃ r : V → List V → Hp → VK → Prop, (∀ X Wx, At W S X Wx → MtR X id r) ∧ MetSim W r f
  nx : ∀ x xs m e v m', f x xs m ≠ .exc e v m'
theorem MetS.or {id : String} {f f1 f2 : TV → List TV → M TV} (h1 : MetS W S id f1) (h2 : MetS W S id f2) (h : ∀ x xs m, f x xs m = f1 x xs m ∨ f x xs m = f2 x xs m) : MetS W S id f := by
  obtain ⟨⟨r1, a1, b1⟩, n1⟩ := h1
  obtain ⟨⟨r2, a2, b2⟩, n2⟩ := h2
  refine ⟨⟨fun x xs H Q => r1 x xs H Q ∨ r2 x xs H Q, fun X Wx a => MtR.or (a1 X Wx a) (a2 X Wx a), fun H0 H ι m x v xs vs Q s rx r k q => ?_⟩, fun x xs m e v m' z => ?_⟩
  · rcases h x xs m with e | e
    · rw [e] at q; exact .inl (b1 H0 H ι m x v xs vs Q s rx r k q)
    · rw [e] at q; exact .inr (b2 H0 H ι m x v xs vs Q s rx r k q)
  · rcases h x xs m with e' | e'
    · exact n1 x xs m e v m' (e'.symm.trans z)
    · exact n2 x xs m e v m' (e'.symm.trans z)
def bmE (T : String) (f : TV → List TV → M TV) (o : EM) (a : Env → M (List TV)) : EM := fun env => bindM (o env) fun x m => if chk T m x = true then bindM (a env) (fun xs => f x xs) m else .no
def bmE0 (T : String) (f : TV → List TV → M TV) (o : EM) : EM := fun env => bindM (o env) fun x m => if chk T m x = true then f x [] m else .no
theorem se_bm {T id : String} {name : Str} {f : TV → List TV → M TV} {o e : Expr} {es : List Expr} {mo : EM} {ma : Env → M (List TV)} {apos cpos : Pos} (pa : PlainAttrs T) (slot : Slot T name id) (hty : typeOf (.builtin id) = pure (.type "method_descriptor")) (hm : MetS W S id f) (ho : SE W S o mo) (ha : SAT W S (e :: es) ma)
    (hbase : ∀ env, attributeBase o name env (eval o env) = eval o env := by intro _; rfl)
    (hfew : ∀ env, ((backTo cpos (starEach (e :: es) env)).all (fun x => !x.1) && (backToKw cpos (keywordEach [] env)).all (fun x => x.1.isSome)
      && decide ((e :: es).length + ([] : List Keyword).length + (if ([] : List Keyword).isEmpty then 0 else 1) < 30)) = true := by intro _; rfl)
    (hline : (apos.endLine == cpos.line) = true := by rfl) (hs : ∀ env, starEach (e :: es) env = (false, eval e env) :: starEach es env := by intro _; rfl) (hplain : ∀ env, (backTo cpos (starEach es env)).any (·.1) = false := by intro _; rfl) :
    SE W S (.Call (.Attribute o name apos) (e :: es) [] cpos) (bmE T f mo ma) := by
  obtain ⟨⟨r, c1, c2⟩, c3⟩ := hm
  obtain ⟨to, a0, b0⟩ := ho.ex
  obtain ⟨t, a1, b1⟩ := ha.ex
  refine ⟨fun Wx => tBM W.K T r (to Wx) (t Wx), fun X Wx x => by rw [← x.K]; exact pe_bm pa slot hty (c1 X Wx x) (a0 X Wx x) (a1 X Wx x) (hbase _) (hfew _) hline (hs _) (hplain _), fun Wx σ H ι M env Q s re h => ?_⟩
  unfold bmE at h
  rw [wpR_bind] at h
  refine b0 Wx σ H ι M env _ s re (wpR_mono h (fun x M1 h1 v ι1 H1 n1 s1 r1 => ?_) fun _ _ _ h => h)
  by_cases hc : chk T M1 x = true
  · rw [if_pos hc] at h1
    refine ⟨chk_rep s1 r1 hc, ?_⟩
    rw [wpR_bind] at h1
    refine b1 Wx σ H1 ι1 M1 env _ s1 (re.mono n1) (wpR_mono h1 (fun xs M2 h2 vs ι2 H2 n2 s2 r2 => ?_) fun _ _ _ h => PostX.next n1 h)
    have n02 := n1.trans n2
    refine c2 H H2 ι2 M2 x v xs vs Q s2 (r1.mono n2) (r2.back n1) (fun p hp => n02.back hp) ?_
    cases ef : f x xs M2 with
    | ok z M3 => rw [ef] at h2; exact fun v3 ι3 H3 n3 s3 r3 => h2 v3 ι3 H3 (n02.trans n3) s3 (r3.back n02)
    | exc a b c => exact absurd ef (c3 _ _ _ _ _ _)
    | no => rw [ef] at h2; exact h2
  · rw [if_neg hc] at h1; exact h1.elim
theorem se_bm0 {T id : String} {name : Str} {f : TV → List TV → M TV} {o : Expr} {mo : EM} {apos cpos : Pos} (pa : PlainAttrs T) (slot : Slot T name id) (hty : typeOf (.builtin id) = pure (.type "method_descriptor")) (hm : MetS W S id f) (ho : SE W S o mo)
    (hbase : ∀ env, attributeBase o name env (eval o env) = eval o env := by intro _; rfl) (hline : (apos.endLine == cpos.line) = true := by rfl) : SE W S (.Call (.Attribute o name apos) [] [] cpos) (bmE0 T f mo) := by
  obtain ⟨⟨r, c1, c2⟩, c3⟩ := hm
  obtain ⟨to, a0, b0⟩ := ho.ex
  refine ⟨fun Wx => tBM0 W.K T r (to Wx), fun X Wx x => by rw [← x.K]; exact pe_bm0 pa slot hty (c1 X Wx x) (a0 X Wx x) (hbase _) hline, fun Wx σ H ι M env Q s re h => ?_⟩
  unfold bmE0 at h
  rw [wpR_bind] at h
  refine b0 Wx σ H ι M env _ s re (wpR_mono h (fun x M1 h1 v ι1 H1 n1 s1 r1 => ?_) fun _ _ _ h => h)
  by_cases hc : chk T M1 x = true
  · rw [if_pos hc] at h1
    refine ⟨chk_rep s1 r1 hc, ?_⟩
    refine c2 H H1 ι1 M1 x v [] [] Q s1 r1 .nil (fun p hp => n1.back hp) ?_
    cases ef : f x [] M1 with
    | ok z M3 => rw [ef] at h1; exact fun v3 ι3 H3 n3 s3 r3 => h1 v3 ι3 H3 (n1.trans n3) s3 (r3.back n1)
    | exc a b c => exact absurd ef (c3 _ _ _ _ _ _)
    | no => rw [ef] at h1; exact h1
  · rw [if_neg hc] at h1; exact h1.elim
/-- a list of the store written -/
theorem put_list {H : Hp} {ι : List Addr} {m : Mem} {n : Nat} {p : Addr} {ws : List V} {ds : List D} {vs : List V} (s : Sim W ι m H) (hi : ι[n]? = some p) (h : H p = some (.lst ws)) (r : Reps W H ι ds vs) : Nxt ι H ι (upd H p (.lst vs)) ∧ Sim W ι (m.set n (.lst ds)) (upd H p (.lst vs)) := by
  have nx := Nxt.put (o := .lst vs) (List.mem_of_getElem? hi) h (fun _ z => nomatch z) (fun _ _ z => nomatch z)
  exact ⟨nx, s.put hi h (fun _ z => nomatch z) (fun _ _ z => nomatch z) ⟨vs, upd_same, r.mono nx⟩⟩
/-! append, extend, pop, clear, insert .. -/
def lAppend : TV → List TV → M TV
  | .d (.ref n), [.d y] => fun m => match m[n]? with
    | some (.lst ds) => if ds.length < sizeLine then .ok (.d .non) (m.set n (.lst (ds ++ [y]))) else .no
    | _ => .no
  | _, _ => noM
theorem l_append : MetS W S "list.append" lAppend := by
  refine ⟨⟨rAppend, fun X _ a => mt_append, fun H0 H ι m x v xs vs Q s rx rr k h => ?_⟩, fun x xs m e v m' z => ?_⟩
  · unfold lAppend at h
    split at h
    · split at h
      · split at h
        · rename_i hm hz
          cases rx with
          | ref hi =>
            cases rr with
            | cons r1 r2 =>
              cases r2
              obtain ⟨ws, hp, rw'⟩ := s.obj _ _ _ hm hi
              obtain ⟨nx, s'⟩ := put_list (vs := ws ++ [_]) s hi hp (rw'.append (.cons r1 .nil))
              exact ⟨_, ws, _, rfl, rfl, hp, by rw [← rw'.length]; exact hz, h _ ι _ nx s' Rep.non⟩
        · exact h.elim
      · exact h.elim
    · exact h.elim
  · unfold lAppend at z
    split at z
    · split at z
      · split at z <;> cases z
      · cases z
    · cases z
def lExtend : TV → List TV → M TV
  | .d (.ref n), [y] => fun m => match m[n]?, listOfM m y with
    | some (.lst ds), some es => if ds.length + es.length ≤ sizeLine then .ok (.d .non) (m.set n (.lst (ds ++ es))) else .no
    | _, _ => .no
  | _, _ => noM
theorem l_extend : MetS W S "list.extend" lExtend := by
  refine ⟨⟨rExtend, fun X _ a => mt_extend, fun H0 H ι m x v xs vs Q s rx rr k h => ?_⟩, fun x xs m e v m' z => ?_⟩
  · unfold lExtend at h
    split at h
    · split at h
      · split at h
        · rename_i hm hy hz
          cases rx with
          | ref hi =>
            cases rr with
            | cons r1 r2 =>
              cases r2
              obtain ⟨ws, hp, rw'⟩ := s.obj _ _ _ hm hi
              obtain ⟨q, us, rfl, hq, ru⟩ := listOfM_rep s r1 hy
              obtain ⟨nx, s'⟩ := put_list (vs := ws ++ us) s hi hp (rw'.append ru)
              exact ⟨_, q, ws, us, rfl, rfl, hp, hq, by rw [← rw'.length, ← ru.length]; exact hz, h _ ι _ nx s' Rep.non⟩
        · exact h.elim
      · exact h.elim
    · exact h.elim
  · unfold lExtend at z
    split at z
    · split at z
      · split at z <;> cases z
      · cases z
    · cases z
def lClear : TV → List TV → M TV
  | .d (.ref n), [] => fun m => match m[n]? with
    | some (.lst ds) => .ok (.d .non) (m.set n (.lst []))
    | _ => .no
  | _, _ => noM
theorem l_clear : MetS W S "list.clear" lClear := by
  refine ⟨⟨rClear, fun X _ a => mt_clear, fun H0 H ι m x v xs vs Q s rx rr k h => ?_⟩, fun x xs m e v m' z => ?_⟩
  · unfold lClear at h
    split at h
    · split at h
      · rename_i hm
        cases rx with
        | ref hi =>
          cases rr
          obtain ⟨ws, hp, rw'⟩ := s.obj _ _ _ hm hi
          obtain ⟨nx, s'⟩ := put_list (vs := []) s hi hp .nil
          exact ⟨_, ws, rfl, rfl, hp, h _ ι _ nx s' Rep.non⟩
      · exact h.elim
    · exact h.elim
  · unfold lClear at z
    split at z
    · split at z <;> cases z
    · cases z
theorem Reps.dropLast {H : Hp} {ι : List Addr} {ds : List D} {vs : List V} (r : Reps W H ι ds vs) : Reps W H ι ds.dropLast vs.dropLast := by
  rw [List.dropLast_eq_take, List.dropLast_eq_take, r.length]
  exact r.take _
def lPop : TV → List TV → M TV
  | .d (.ref n), [] => fun m => match m[n]? with
    | some (.lst ds) => match ds[ds.length - 1]? with
      | some d => .ok (.d d) (m.set n (.lst ds.dropLast))
      | none => .no
    | _ => .no
  | _, _ => noM
theorem l_pop : MetS W S "list.pop" lPop := by
  refine ⟨⟨rPop, fun X _ a => mt_pop, fun H0 H ι m x v xs vs Q s rx rr k h => ?_⟩, fun x xs m e v m' z => ?_⟩
  · unfold lPop at h
    split at h
    · split at h
      · split at h
        · rename_i hm _ d hd
          cases rx with
          | ref hi =>
            cases rr
            obtain ⟨ws, hp, rw'⟩ := s.obj _ _ _ hm hi
            obtain ⟨v, hv, rv⟩ := rw'.get hd
            obtain ⟨nx, s'⟩ := put_list (vs := ws.dropLast) s hi hp rw'.dropLast
            exact ⟨_, ws, v, rfl, rfl, hp, by rw [← rw'.length]; exact hv, h _ ι _ nx s' (rv.mono nx)⟩
        · exact h.elim
      · exact h.elim
    · exact h.elim
  · unfold lPop at z
    split at z
    · split at z
      · split at z <;> cases z
      · cases z
    · cases z
theorem Reps.eraseIdx {H : Hp} {ι : List Addr} : ∀ {ds : List D} {vs : List V} (k : Nat), Reps W H ι ds vs → Reps W H ι (ds.eraseIdx k) (vs.eraseIdx k)
  | _, _, _, .nil => .nil
  | _, _, 0, .cons _ t => t
  | _, _, k + 1, .cons r t => .cons r (Reps.eraseIdx k t)
def lPopAt : TV → List TV → M TV
  | .d (.ref n), [.d (.int i)] => fun m => match m[n]? with
    | some (.lst ds) => match seqIndex? i ds.length with
      | some k => match ds[k]? with
        | some d => if -(2 ^ 63) ≤ i ∧ i < 2 ^ 63 then .ok (.d d) (m.set n (.lst (ds.eraseIdx k))) else .no
        | none => .no
      | none => .no
    | _ => .no
  | _, _ => noM
theorem l_popAt : MetS W S "list.pop" lPopAt := by
  refine ⟨⟨rPopAt, fun X _ a => mt_popAt, fun H0 H ι m x v xs vs Q s rx rr k h => ?_⟩, fun x xs m e v m' z => ?_⟩
  · unfold lPopAt at h
    split at h
    · split at h
      · split at h
        · split at h
          · split at h
            · rename_i hm _ kk hk _ d hd hz
              cases rx with
              | ref hi =>
                cases rr with
                | cons r1 r2 =>
                  cases r2; cases r1
                  obtain ⟨ws, hp, rw'⟩ := s.obj _ _ _ hm hi
                  obtain ⟨v, hv, rv⟩ := rw'.get hd
                  obtain ⟨nx, s'⟩ := put_list (vs := ws.eraseIdx kk) s hi hp (rw'.eraseIdx kk)
                  exact ⟨_, ws, _, kk, v, rfl, rfl, hp, hz.1, hz.2, by rw [← rw'.length]; exact hk, hv, h _ ι _ nx s' (rv.mono nx)⟩
            · exact h.elim
          · exact h.elim
        · exact h.elim
      · exact h.elim
    · exact h.elim
  · unfold lPopAt at z
    split at z
    · split at z
      · split at z
        · split at z
          · split at z <;> cases z
          · cases z
        · cases z
      · cases z
    · cases z
end
end Mir

set_option maxHeartbeats 4000000
namespace Mir
open PySem L2
section
variable {W : Wd} {S : SCx} {Wx : WX}

/-! ### attributes -/
theorem RepF.get {κ : Type} [BEq κ] [LawfulBEq κ] {H : Hp} {ι : List Addr} {k : κ} : ∀ {fs : List (κ × D)} {gs : List (κ × V)}, RepF W H ι fs gs → (∀ d, fs.lookup k = some d → ∃ v, gs.lookup k = some v ∧ Rep W H ι d v) ∧ (fs.lookup k = none → gs.lookup k = none)
  | [], _, r => by
    cases r
    exact ⟨fun d e => by simp at e, fun _ => by simp⟩
  | (a, x) :: fs, _, r => by
    cases r with
    | @cons _ q _ gs h t =>
      obtain ⟨b, y⟩ := q
      obtain ⟨h1, h2⟩ := h
      have h1 : a = b := h1
      subst h1
      have ih := RepF.get (k := k) (show RepF W H ι fs gs from t)
      simp only [List.lookup_cons]
      cases k == a with
      | true => exact ⟨fun d e => ⟨y, rfl, by cases e; exact h2⟩, fun e => by cases e⟩
      | false => exact ih
theorem RepF.length {κ : Type} {H : Hp} {ι : List Addr} {fs : List (κ × D)} {gs : List (κ × V)} (r : RepF W H ι fs gs) : fs.length = gs.length := Paired.length r
/-- an attribute stored -/
def putD (f : Str) (v : D) : List (Str × D) → List (Str × D)
  | [] => [(f, v)]
  | (g, x) :: r => if g = f then (g, v) :: r else (g, x) :: putD f v r
theorem RepF.put {H : Hp} {ι : List Addr} {f : Str} {d : D} {v : V} (rv : Rep W H ι d v) : ∀ {fs : List (Str × D)} {gs : List (Str × V)}, RepF W H ι fs gs → RepF W H ι (putD f d fs) (putF f v gs)
  | [], _, r => by
    cases r
    exact .cons ⟨rfl, rv⟩ .nil
  | (a, x) :: fs, _, r => by
    cases r with
    | @cons _ q _ gs h t =>
      obtain ⟨b, y⟩ := q
      obtain ⟨h1, h2⟩ := h
      have h1 : a = b := h1
      subst h1
      by_cases e : a = f
      · show RepF W H ι (if a = f then _ else _) (if a = f then _ else _)
        rw [if_pos e, if_pos e]
        exact .cons ⟨rfl, rv⟩ t
      · show RepF W H ι (if a = f then _ else _) (if a = f then _ else _)
        rw [if_neg e, if_neg e]
        exact .cons ⟨rfl, h2⟩ (RepF.put rv (show RepF W H ι fs gs from t))
/-- classes that may bear the attribute -/
structure FldOk (W : Wd) (cs : List Nat) (f : Str) : Prop where
  ok : ∀ c ∈ cs, Cls W.K (W.cA c) ∧ NoAttr W.K (W.cA c) f
def getF (cs : List Nat) (f : Str) (x : TV) (m : Mem) : Option D := match x with
  | .d (.ref n) => match m[n]? with
    | some (.ins c fs) => if c ∈ cs then fs.lookup f else none
    | _ => none
  | _ => none
theorem getF_rep {cs : List Nat} {f : Str} {H0 H : Hp} {ι : List Addr} {m : Mem} {x : TV} {v : V} {d : D} (k : FldOk W cs f) (s : Sim W ι m H) (r : RepT W H0 H ι x v) (e : getF cs f x m = some d) :
    ∃ a C dx gs u, v = .ref a ∧ H a = some (.ins C dx gs) ∧ Cls W.K C ∧ NoAttr W.K C f ∧ gs.lookup f = some u ∧ Rep W H ι d u := by
  unfold getF at e
  split at e
  · split at e
    · split at e
      · rename_i hm hc
        cases r with
        | ref hi =>
          obtain ⟨dx, gs, h, r⟩ := s.obj _ _ _ hm hi
          obtain ⟨h1, h2⟩ := k.ok _ hc
          obtain ⟨u, hu, ru⟩ := (RepF.get (k := f) r).1 d e
          exact ⟨_, _, dx, gs, u, rfl, h, h1, h2, hu, ru⟩
      · cases e
    · cases e
  · cases e
/-- the class too -/
def getC (cs : List Nat) (f : Str) (x : TV) (m : Mem) : Option (Nat × D) := match x with
  | .d (.ref n) => match m[n]? with
    | some (.ins c fs) => if c ∈ cs then (fs.lookup f).map fun d => (c, d) else none
    | _ => none
  | _ => none
theorem getC_rep {cs : List Nat} {f : Str} {H0 H : Hp} {ι : List Addr} {m : Mem} {x : TV} {v : V} {c : Nat} {d : D} (k : FldOk W cs f) (s : Sim W ι m H) (r : RepT W H0 H ι x v) (e : getC cs f x m = some (c, d)) :
    c ∈ cs ∧ ∃ a dx gs u, v = .ref a ∧ H a = some (.ins (W.cA c) dx gs) ∧ Cls W.K (W.cA c) ∧ NoAttr W.K (W.cA c) f ∧ gs.lookup f = some u ∧ Rep W H ι d u := by
  unfold getC at e
  split at e
  · split at e
    · split at e
      · rename_i hm hc
        simp only [Option.map_eq_some_iff] at e
        obtain ⟨d', e, e'⟩ := e
        cases e'
        cases r with
        | ref hi =>
          obtain ⟨dx, gs, h, r⟩ := s.obj _ _ _ hm hi
          obtain ⟨h1, h2⟩ := k.ok _ hc
          obtain ⟨u, hu, ru⟩ := (RepF.get (k := f) r).1 d e
          exact ⟨hc, _, dx, gs, u, rfl, h, h1, h2, hu, ru⟩
      · cases e
    · cases e
  · cases e
def fldE (cs : List Nat) (f : Str) (o : EM) : EM := fun env => bindM (o env) fun x m => match getF cs f x m with
  | some d => .ok (.d d) m
  | none => .no
theorem se_fld {cs : List Nat} {f : Str} {o : Expr} {mo : EM} {pos : Pos} (k : FldOk W cs f) (h : SE W S o mo) (hb : ∀ env, attributeBase o f env (eval o env) = eval o env := by intro _; rfl) : SE W S (.Attribute o f pos) (fldE cs f mo) := by
  obtain ⟨t, a, b⟩ := h.ex
  refine ⟨fun Wx => tFld W.K (t Wx) f, fun X Wx x => by rw [← x.K]; exact pe_fld (a X Wx x) (hb _), fun Wx σ H ι M env Q s re q => ?_⟩
  unfold fldE at q
  rw [wpR_bind] at q
  refine b Wx σ H ι M env _ s re (wpR_mono q (fun x M1 h1 v ι1 H1 n1 s1 r1 => ?_) fun _ _ _ h => h)
  cases e : getF cs f x M1 with
  | none => rw [e] at h1; exact h1.elim
  | some d =>
    rw [e] at h1
    obtain ⟨p, C, dx, gs, u, rfl, h, c1, c2, hu, ru⟩ := getF_rep k s1 r1 e
    exact ⟨p, C, dx, gs, u, rfl, h, c1, c2, hu, h1 u ι1 H1 n1 s1 ru⟩
/-- o.f = e -/
def setF (cs : List Nat) (f : Str) (x : TV) (d : D) : M Unit := fun m => match x with
  | .d (.ref n) => match m[n]? with
    | some (.ins c fs) => if c ∈ cs ∧ fs.length < 1000 then .ok () (m.set n (.ins c (putD f d fs))) else .no
    | _ => .no
  | _ => .no
theorem setF_rep {cs : List Nat} {f : Str} {H0 H : Hp} {ι : List Addr} {m : Mem} {x : TV} {v u : V} {d : D} {q : Unit → Mem → Prop} {xx : Ex → Env → Mem → Prop} (k : FldOk W cs f) (s : Sim W ι m H) (r : RepT W H0 H ι x v) (rd : Rep W H ι d u) (e : wpR (setF cs f x d m) q xx) :
    ∃ c ∈ cs, ∃ a dx gs m', v = .ref a ∧ H a = some (.ins (W.cA c) dx gs) ∧ Cls W.K (W.cA c) ∧ NoAttr W.K (W.cA c) f ∧ gs.length < 1000 ∧ q () m' ∧ Nxt ι H ι (upd H a (.ins (W.cA c) dx (putF f u gs))) ∧ Sim W ι m' (upd H a (.ins (W.cA c) dx (putF f u gs))) := by
  unfold setF at e
  split at e
  · split at e
    · split at e
      · rename_i c fs hm hc
        cases r with
        | ref hi =>
          obtain ⟨dx, gs, h, r⟩ := s.obj _ _ _ hm hi
          obtain ⟨h1, h2⟩ := k.ok _ hc.1
          have nx := Nxt.put (o := .ins (W.cA c) dx (putF f u gs)) (List.mem_of_getElem? hi) h (fun _ z => nomatch z) (fun _ _ z => nomatch z)
          exact ⟨c, hc.1, _, dx, gs, _, rfl, h, h1, h2, by rw [← r.length]; exact hc.2, e, nx, s.put hi h (fun _ z => nomatch z) (fun _ _ z => nomatch z) ⟨dx, _, upd_same, (r.put rd).mono nx⟩⟩
      · exact e.elim
    · exact e.elim
  · exact e.elim
def sfldS (cs : List Nat) (f : Str) (o : EM) (e : Env → M D) : SMs := fun env => bindM (e env) fun d => bindM (o env) fun x => bindM (setF cs f x d) fun _ => okM (.nxt env)
theorem ss_fld {cs : List Nat} {f : Str} {o e : Expr} {mo : EM} {me : Env → M D} {pos pos' : Pos} (k : FldOk W cs f) (ho : SE W S o mo) (he : SD W S e me) (hs : ∀ env, swapsWith e (some (.Attribute o f pos')) pos.line env = pure false := by intro _; rfl) : SS W S (.Assign [.Attribute o f pos'] e pos) (sfldS cs f mo me) := by
  obtain ⟨t, a, b⟩ := ho.ex
  obtain ⟨u, a2, b2⟩ := he.ex
  refine ⟨fun Wx => sFld W.K (t Wx) (u Wx) f, fun X Wx x => by rw [← x.K]; exact ps_fld (a X Wx x.toAt) (a2 X Wx x.toAt) (hs _), fun Wx σ H ι M env D s re q => ?_⟩
  unfold sfldS at q
  rw [wpR_bind] at q
  refine b2 Wx σ H ι M env _ s re (wpR_mono q (fun d M1 h1 v ι1 H1 n1 s1 r1 => ?_) fun _ _ _ h => h)
  rw [wpR_bind] at h1
  refine b Wx σ H1 ι1 M1 env _ s1 (re.mono n1) (wpR_mono h1 (fun x M2 h2 w ι2 H2 n2 s2 r2 => ?_) fun _ _ _ h => PostX.next n1 h)
  rw [wpR_bind] at h2
  obtain ⟨c, _, p, dx, gs, m', rfl, h, c1, c2, hl, hq, nx, s3⟩ := setF_rep k s2 r2 (r1.mono n2) h2
  have n03 := (n1.trans n2).trans nx
  exact ⟨p, _, dx, gs, rfl, h, c1, c2, hl, hq σ ι2 _ n03 s3 (re.mono n03)⟩
/-- o.f += e, of whole numbers -/
def augFS (g : Int → Int → Int) (cs : List Nat) (f : Str) (o e : EM) : SMs := fun env => bindM (o env) fun x m => match getC cs f x m with
  | some (c, .int i) => bindM (e env) (fun y => match y with
    | .d (.int j) => bindM (setF [c] f x (.int (g i j))) fun _ => okM (.nxt env)
    | _ => noM) m
  | _ => .no
theorem ss_augF {g : Int → Int → Int} {op : Operator} {cs : List Nat} {f : Str} {o e : Expr} {mo me : EM} {pos pos' : Pos} (hop : ∀ X, InOp X op (fun x y H Q => ∃ i j, x = .int i ∧ y = .int j ∧ Q (.int (g i j)) H)) (k : FldOk W cs f) (ho : SE W S o mo) (he : SE W S e me) : SS W S (.AugAssign (.Attribute o f pos') op e pos) (augFS g cs f mo me) := by
  obtain ⟨t, a, b⟩ := ho.ex
  obtain ⟨u, a2, b2⟩ := he.ex
  refine ⟨fun Wx => sFldAug W.K (t Wx) (u Wx) (fun x y H Q => ∃ i j, x = .int i ∧ y = .int j ∧ Q (.int (g i j)) H) f, fun X Wx x => by rw [← x.K]; exact ps_fldaug (a X Wx x.toAt) (a2 X Wx x.toAt) (hop X), fun Wx σ H ι M env D s re q => ?_⟩
  unfold augFS at q
  rw [wpR_bind] at q
  refine b Wx σ H ι M env _ s re (wpR_mono q (fun x M1 h1 v ι1 H1 n1 s1 r1 => ?_) fun _ _ _ h => h)
  cases e1 : getC cs f x M1 with
  | none => rw [e1] at h1; exact h1.elim
  | some cd =>
    obtain ⟨c, d⟩ := cd
    rw [e1] at h1
    cases d with
    | int i =>
      obtain ⟨hc, p, dx, gs, w, rfl, h, c1, c2, hu, ru⟩ := getC_rep k s1 r1 e1
      cases ru
      refine ⟨p, _, dx, gs, _, rfl, h, c1, c2, hu, ?_⟩
      have h1 : wpR (bindM (me env) (fun y => match y with
        | .d (.int j) => bindM (setF [c] f x (.int (g i j))) fun _ => okM (.nxt env)
        | _ => noM) M1) (PostS W ι H D) (PostX W ι H Wx) := h1
      rw [wpR_bind] at h1
      refine b2 Wx σ H1 ι1 M1 env _ s1 (re.mono n1) (wpR_mono h1 (fun y M2 h2 w ι2 H2 n2 s2 r2 => ?_) fun _ _ _ h => PostX.next n1 h)
      split at h2
      · rename_i j
        cases r2
        refine ⟨i, j, rfl, rfl, ?_⟩
        rw [wpR_bind] at h2
        have k' : FldOk W [c] f := ⟨fun c' hc' => by have : c' = c := by simpa using hc'
                                                     rw [this]; exact k.ok c hc⟩
        obtain ⟨c', hc', p', dx', gs', m', e', h', c1', c2', hl, hq, nx, s3⟩ := setF_rep (u := .int (g i j)) k' s2 (r1.mono n2) (.int _) h2
        cases e'
        have n03 := (n1.trans n2).trans nx
        have hcc : c' = c := by simpa using hc'
        subst hcc
        exact ⟨dx', gs', h', hl, hq σ ι2 _ n03 s3 (re.mono n03)⟩
      · exact h2.elim
    | _ => exact h1.elim
theorem i_add (X : Cx) : InOp X .Add (fun x y H Q => ∃ i j, x = .int i ∧ y = .int j ∧ Q (.int (i + j)) H) := in_add
theorem i_sub (X : Cx) : InOp X .Sub (fun x y H Q => ∃ i j, x = .int i ∧ y = .int j ∧ Q (.int (i - j)) H) := in_sub
/-- x += e, of whole numbers -/
def augS (g : Int → Int → Int) (i : Nat) (e : EM) : SMs := fun env => match env[i]? with
  | some (some (.int a)) => bindM (e env) fun y => match y with
    | .d (.int b) => okM (.nxt (env.set i (some (.int (g a b)))))
    | _ => noM
  | _ => noM
theorem ss_aug {g : Int → Int → Int} {op : Operator} {x : Str} {e : Expr} {me : EM} {pos pos' : Pos} (i : Nat) (hop : ∀ X, PIp X op (ipI g)) (he : SE W S e me) (hN : S.N[i]? = some x := by rfl) (hv : Loc S.sc x := by first | exact Or.inl rfl | exact Or.inr rfl)
    (hf : S.fn x = true ∨ S.sc.names.lookup x = some .local := by first | exact Or.inl rfl | exact Or.inr rfl) : SS W S (.AugAssign (.Name x pos') op e pos) (augS g i me) := by
  obtain ⟨u, a2, b2⟩ := he.ex
  refine ⟨fun Wx => tAug i (u Wx) (ipI g), fun X Wx x => ps_aug x.nd (by rw [x.N]; exact hN) (by rw [x.sc]; exact hv) (a2 X Wx x.toAt) (hop X) (by rw [x.fn, x.sc]; exact hf), fun Wx σ H ι M env D s re q => ?_⟩
  unfold augS at q
  cases ea : env[i]? with
  | none => rw [ea] at q; exact q.elim
  | some o =>
    rw [ea] at q
    cases o with
    | none => exact q.elim
    | some d =>
      cases d with
      | int a =>
        have q : wpR (bindM (me env) (fun y => match y with
          | .d (.int b) => okM (.nxt (env.set i (some (.int (g a b)))))
          | _ => noM) M) (PostS W ι H D) (PostX W ι H Wx) := q
        obtain ⟨v, hv, rv⟩ := re.get ea
        cases rv
        rw [wpR_bind] at q
        refine ⟨_, hv, b2 Wx σ H ι M env _ s re (wpR_mono q (fun y M1 h1 w ι1 H1 n1 s1 r1 => ?_) fun _ _ _ h => h)⟩
        split at h1
        · cases r1
          exact ⟨_, _, rfl, rfl, h1 _ ι1 H1 n1 s1 ((re.mono n1).set (.int _) i)⟩
        · exact h1.elim
      | _ => exact q.elim
/-- a statement that is never reached -/
def neverS : SMs := fun _ => noM
theorem ss_never {st : Stmt} : SS W S st neverS := ⟨fun _ => tNever, fun _ _ _ => ps_never, fun _ _ _ _ _ _ _ _ _ h => h.elim⟩

/-! ### own methods -/
def tMethS (C : Addr) (m : Str) (sp : Sp) (E : L2.St → XK) (ta : TE) (t : TA) : TE := fun σ H Q => ta σ H fun x H1 => ∃ a dx fs, x = .ref a ∧ H1 a = some (.ins C dx fs) ∧ fs.lookup m = none ∧ t σ H1 fun vs H2 => sp (x :: vs) H2 Q (E σ)
theorem pe_methS {X : Cx} {CX : CXT} {k : Nat} {f C : Addr} {fd : FuncData} {ps : List Str} {sp : Sp} {E : L2.St → XK} {m : Str} {pos apos : Pos} {e o : Expr} {es : List Expr} {ta : TE} {t : TA} {pl : Sem Bool} (he : PE X o ta) (c : Cls X.K C) (hm : Meth X.K C m f) (F : FnOk X.prog X.w X.K X.mg X.base CX k f fd ps sp) (hr : Room k X.A) (hb : Binds X.K fd ps []) (hx : ∀ σ, PassesAt CX X σ (E σ)) (ha : PA X (e :: es) t)
    (hst : starEach (e :: es) X.env = (false, eval e X.env) :: starEach es X.env) (hpl : (backTo pos (starEach es X.env)).any (·.1) = false)
    (ht : eval (.Call (.Attribute o m apos) (e :: es) [] pos) X.env = (do
      let ov ← eval o X.env
      standAt apos.atName
      let (f, first) ← holding [ov] (getMethod ov m pl)
      callWith pos f first (backTo pos (starEach (e :: es) X.env)) (backToKw pos (keywordEach [] X.env)))) : PE X (.Call (.Attribute o m apos) (e :: es) [] pos) (tMethS C m sp E ta t) := by
  refine ⟨fun pins s σ H Q I h => ?_⟩
  refine PySem.W.methodCall_KW (pl := pl) (thn (he.run pins s σ H _ I h) fun u s1 ⟨x, H1, I1, rx, a, dx, fs, ex, ea, l, q⟩ => ?_) ht
  subst ex
  obtain rfl : u = Value.ref a := rx
  refine getmeth_ok I1 ea c hm l ?_
  refine PySem.W.callWith_K (first := [.ref a]) (h₀ := X.base) I.ok.mod.kin hm.kp (thn (ha.run pos pins s1 σ H1 _ I1 q) fun us s2 ⟨vs, H2, I2, r, q2⟩ => ⟨I2.kIn, ?_⟩) hst hpl
  exact run_fnS (us := .ref a :: us) (vs := .ref a :: vs) F hr hb (hx σ) I2 (.cons rfl r) q2
theorem pe_methS0 {X : Cx} {CX : CXT} {k : Nat} {f C : Addr} {fd : FuncData} {ps : List Str} {sp : Sp} {E : L2.St → XK} {m : Str} {pos apos : Pos} {o : Expr} {ta : TE} {pl : Sem Bool} (he : PE X o ta) (c : Cls X.K C) (hm : Meth X.K C m f) (F : FnOk X.prog X.w X.K X.mg X.base CX k f fd ps sp) (hr : Room k X.A) (hb : Binds X.K fd ps []) (hx : ∀ σ, PassesAt CX X σ (E σ))
    (ht : eval (.Call (.Attribute o m apos) [] [] pos) X.env = (do
      let ov ← eval o X.env
      standAt apos.atName
      let (f, first) ← holding [ov] (getMethod ov m pl)
      callWith pos f first (backTo pos (starEach [] X.env)) (backToKw pos (keywordEach [] X.env)))) : PE X (.Call (.Attribute o m apos) [] [] pos) (tMethS C m sp E ta tNil) := by
  refine ⟨fun pins s σ H Q I h => ?_⟩
  refine PySem.W.methodCall_KW (pl := pl) (thn (he.run pins s σ H _ I h) fun u s1 ⟨x, H1, I1, rx, a, dx, fs, ex, ea, l, q⟩ => ?_) ht
  subst ex
  obtain rfl : u = Value.ref a := rx
  refine getmeth_ok I1 ea c hm l ?_
  exact PySem.W.callWith_K0 (first := [.ref a]) I1.kIn hm.kp (run_fnS (us := [.ref a]) (vs := [.ref a]) F hr hb (hx σ) I1 (.cons rfl .nil) q)
/-- a method of the class -/
structure MethFn (W : Wd) (c : Nat) (m : Str) (k np : Nat) (F : FnSem) : Prop where
  ex : ∃ (f : Addr) (fd : FuncData) (ps : List Str), Cls W.K (W.cA c) ∧ Meth W.K (W.cA c) m f ∧ Binds W.K fd ps [] ∧ ps.length = np ∧ FnOk W.P W.w W.K W.mg W.base (L2.CX W.P W.w) k f fd ps (spOf W np F)
def getM (c : Nat) (name : Str) (x : TV) (m : Mem) : Option D := match x with
  | .d (.ref n) => match m[n]? with
    | some (.ins c' fs) => if c' = c ∧ fs.lookup name = none then some (.ref n) else none
    | _ => none
  | _ => none
theorem getM_rep {c : Nat} {name : Str} {H0 H : Hp} {ι : List Addr} {m : Mem} {x : TV} {v : V} {d : D} (s : Sim W ι m H) (r : RepT W H0 H ι x v) (e : getM c name x m = some d) : ∃ a dx gs, v = .ref a ∧ H a = some (.ins (W.cA c) dx gs) ∧ gs.lookup name = none ∧ Rep W H ι d v := by
  unfold getM at e
  split at e
  · split at e
    · split at e
      · rename_i hm hc
        cases e
        obtain ⟨rfl, hc⟩ := hc
        cases r with
        | ref hi =>
          obtain ⟨dx, gs, h, r⟩ := s.obj _ _ _ hm hi
          exact ⟨_, dx, gs, rfl, h, (RepF.get (k := name) r).2 hc, .ref hi⟩
      · cases e
    · cases e
  · cases e
def lift (r : M D) (env : Env) : M TV := fun m => match r m with
  | .ok d m' => .ok (.d d) m'
  | .exc x _ m' => .exc x env m'
  | .no => .no
def methE (c : Nat) (name : Str) (F : FnSem) (o : EM) (a : Env → M (List D)) : EM := fun env => bindM (o env) fun x m => match getM c name x m with
  | some d => bindM (a env) (fun ds => lift (F (d :: ds)) env) m
  | none => .no
theorem simE_meth {c np : Nat} {name : Str} {F : FnSem} {ta : TE} {t : TA} {mo : EM} {a : Env → M (List D)} (hn : ∀ env M ds M', a env M = .ok ds M' → ds.length + 1 = np) (ho : SimE W ta Wx mo) (h : SimA W t Wx a) : SimE W (tMethS (W.cA c) name (spOf W np F) (WE Wx) ta t) Wx (methE c name F mo a) := by
  intro σ H ι M env Q s re q
  unfold methE at q
  rw [wpR_bind] at q
  refine ho σ H ι M env _ s re (wpR_mono q (fun x M1 h1 v ι1 H1 n1 s1 r1 => ?_) fun _ _ _ h => h)
  cases e : getM c name x M1 with
  | none => rw [e] at h1; exact h1.elim
  | some d =>
    rw [e] at h1
    obtain ⟨p, dx, gs, rfl, hp, hl, rd⟩ := getM_rep s1 r1 e
    refine ⟨p, dx, gs, rfl, hp, hl, ?_⟩
    have h1 : wpR (bindM (a env) (fun ds => lift (F (d :: ds)) env) M1) (PostE W ι H Q) (PostX W ι H Wx) := h1
    rw [wpR_bind] at h1
    refine h σ H1 ι1 M1 env _ s1 (re.mono n1) (wpR_mono (wpR_and h1) (fun ds M2 ⟨e2, h2⟩ vs ι2 H2 n2 s2 r2 => ?_) fun _ _ _ h => PostX.next n1 h)
    have n02 := n1.trans n2
    refine ⟨by rw [List.length_cons, ← r2.length]; exact hn _ _ _ _ e2, ι2, M2, d :: ds, s2, .cons (rd.mono n2) r2, ?_⟩
    unfold lift at h2
    cases ef : F (d :: ds) M2 with
    | ok d' m' => rw [ef] at h2; exact fun v ι' H' n' s' r' => h2 v ι' H' (n02.trans n') s' r'
    | exc x e m' => rw [ef] at h2; exact fun cls d ι' H' n' s' rx => h2 cls d σ ι' H' (n02.trans n') s' (re.mono (n02.trans n')) rx
    | no => rw [ef] at h2; exact h2
theorem se_meth {c k np : Nat} {m : Str} {F : FnSem} {o e : Expr} {es : List Expr} {mo : EM} {a : Env → M (List D)} {pos apos : Pos} {pl : PySem.Env → Sem Bool} (f : MethFn W c m k np F) (ho : SE W S o mo) (ha : SA W S (e :: es) a) (hk : k ≤ S.k := by decide) (hl : (e :: es).length + 1 = np := by rfl)
    (hst : ∀ env, starEach (e :: es) env = (false, eval e env) :: starEach es env := by intro _; rfl) (hpl : ∀ env, (backTo pos (starEach es env)).any (·.1) = false := by intro _; rfl)
    (ht : ∀ env, eval (.Call (.Attribute o m apos) (e :: es) [] pos) env = (do
      let ov ← eval o env
      standAt apos.atName
      let (f, first) ← holding [ov] (getMethod ov m (pl env))
      callWith pos f first (backTo pos (starEach (e :: es) env)) (backToKw pos (keywordEach [] env))) := by intro _; rfl) (hh0 : S.hot = false := by rfl) : SE W S (.Call (.Attribute o m apos) (e :: es) [] pos) (methE c m F mo a) := by
  obtain ⟨fa, fd, ps, hc, hm, bd, hps, ok⟩ := f.ex
  obtain ⟨to, a0, b0⟩ := ho.ex
  obtain ⟨t, a1, b1⟩ := ha.ex
  refine ⟨fun Wx => tMethS (W.cA c) m (spOf W np F) (WE Wx) (to Wx) (t Wx), fun X Wx y => ?_, fun Wx => simE_meth (fun env M ds M' e => by rw [ha.len env M ds M' e]; exact hl) (b0 Wx) (b1 Wx)⟩
  refine pe_methS (CX := L2.CX X.prog X.w) (ps := ps) (fd := fd) (k := k) (f := fa) (pl := pl X.env) (a0 X Wx y) (by rw [y.K]; exact hc) (by rw [y.K]; exact hm) ?_ ((y.room hh0).mono hk) (by rw [y.K]; exact bd) (fun σ => passAt y.tk σ) (a1 X Wx y) (hst _) (hpl _) (ht _)
  rw [y.prog, y.w, y.K, y.mg, y.base]
  exact ok
theorem se_meth0 {c k np : Nat} {m : Str} {F : FnSem} {o : Expr} {mo : EM} {pos apos : Pos} {pl : PySem.Env → Sem Bool} (f : MethFn W c m k np F) (ho : SE W S o mo) (hk : k ≤ S.k := by decide) (hl : 1 = np := by rfl)
    (ht : ∀ env, eval (.Call (.Attribute o m apos) [] [] pos) env = (do
      let ov ← eval o env
      standAt apos.atName
      let (f, first) ← holding [ov] (getMethod ov m (pl env))
      callWith pos f first (backTo pos (starEach [] env)) (backToKw pos (keywordEach [] env))) := by intro _; rfl) (hh0 : S.hot = false := by rfl) : SE W S (.Call (.Attribute o m apos) [] [] pos) (methE c m F mo nilA) := by
  obtain ⟨fa, fd, ps, hc, hm, bd, hps, ok⟩ := f.ex
  obtain ⟨to, a0, b0⟩ := ho.ex
  refine ⟨fun Wx => tMethS (W.cA c) m (spOf W np F) (WE Wx) (to Wx) tNil, fun X Wx y => ?_, fun Wx => simE_meth (t := tNil) (fun env M ds M' e => by cases e; exact hl) (b0 Wx) (fun σ H ι M env Q s r h => h [] ι H Nxt.refl s .nil)⟩
  refine pe_methS0 (CX := L2.CX X.prog X.w) (ps := ps) (fd := fd) (k := k) (f := fa) (pl := pl X.env) (a0 X Wx y) (by rw [y.K]; exact hc) (by rw [y.K]; exact hm) ?_ ((y.room hh0).mono hk) (by rw [y.K]; exact bd) (fun σ => passAt y.tk σ) (ht _)
  rw [y.prog, y.w, y.K, y.mg, y.base]
  exact ok
end
end Mir

set_option maxHeartbeats 4000000
namespace Mir
open PySem L2 PySem.Spec PyProof.Rows
section
variable {W : Wd} {S : SCx} {Wx : WX}

/-! ### a new instance -/
def tMakeS (C : Addr) (sp : Sp) (E : L2.St → XK) (t : TA) : TE := fun σ H Q => t σ H fun vs H1 => ∀ x dx, H1 x = none → H1 dx = none → dx ≠ x →
  sp (.ref x :: vs) (upd (upd H1 dx (.own x)) x (.ins C dx [])) (fun v H2 => v = .non ∧ Q (.ref x) H2) (E σ)
theorem run_makeS {X : Cx} {CX : CXT} {k : Nat} {f C : Addr} {fd : FuncData} {ps : List Str} {sp : Sp} {E : L2.St → XK} {pins : List (Addr × Obj)} {σ : L2.St} {H : Hp} {s : Shared} {Q : VK} {us : List Value} {vs : List V} (M : Mk X.K C f) (F : FnOk X.prog X.w X.K X.mg X.base CX k f fd ps sp) (hr : Room (k + 1) X.A) (hb : Binds X.K fd ps [])
    (hx : PassesAt CX X σ (E σ)) (I : Inv X pins σ H s) (r : Vals vs us)
    (h : ∀ x dx, H x = none → H dx = none → dx ≠ x → sp (.ref x :: vs) (upd (upd H dx (.own x)) x (.ins C dx [])) (fun v H2 => v = .non ∧ Q (.ref x) H2) (E σ)) :
    wpAny (model X.prog X.w) X.A (call (.ref C) us) (EP X pins σ Q) X.xe s := by
  have hq := h (s.heap.objs.size + 1) s.heap.objs.size (I.hok.fresh (Nat.le_succ _)) (I.hok.fresh (Nat.le_refl _)) (Nat.ne_of_lt (Nat.lt_succ_self _))
  have I2 := Inv.made (C := C) I
  have r2 : Vals (V.ref (s.heap.objs.size + 1) :: vs) (Value.ref (s.heap.objs.size + 1) :: us) := .cons rfl r
  have hl : (Value.ref (s.heap.objs.size + 1) :: us).length = ps.length := by
    have e := r2.length
    rw [F.len _ _ _ _ hq] at e
    exact e.symm
  have bd := hb _ (Value.ref (s.heap.objs.size + 1) :: us) I2.kIn (by rw [List.append_nil]; exact hl)
  rw [List.append_nil] at bd
  refine wpAny_call (make_map (f := f) I.kIn M.makes M.init (beq_iff_eq.mp M.fn) (codeAny_mono (F.run _ X.stack _ _ ⟨Value.ref (s.heap.objs.size + 1) :: us, []⟩ (Value.ref (s.heap.objs.size + 1) :: us) _ _ (E σ) (hr.make C us [])
    (I2.env0.make C us []) bd r2 hq) fun r s' hq' => ?_))
  cases r with
  | error e => exact hx pins _ _ e s' I2 hq'
  | ok fl =>
    cases fl with
    | ret u =>
      obtain ⟨v, H', I3, rv, ev, q3⟩ := I2.after hq'
      subst ev
      exact ⟨rv, ⟨V.ref (s.heap.objs.size + 1), H', I3, rfl, q3⟩⟩
    | next => exact False.elim hq'
    | brk => exact False.elim hq'
    | cont => exact False.elim hq'
theorem pe_makeS {X : Cx} {CX : CXT} {k : Nat} {f C : Addr} {fd : FuncData} {ps : List Str} {sp : Sp} {E : L2.St → XK} {x : Str} {p pos : Pos} {e : Expr} {es : List Expr} {t : TA} (M : Mk X.K C f) (F : FnOk X.prog X.w X.K X.mg X.base CX k f fd ps sp) (hr : Room (k + 1) X.A) (hg : Gl X x) (hm : X.mg x = some (.ref C)) (hb : Binds X.K fd ps []) (hx : ∀ σ, PassesAt CX X σ (E σ))
    (ha : PA X (e :: es) t) (hdb : (x == ("__debug__" : Str)) = false) (he : starEach (e :: es) X.env = (false, eval e X.env) :: starEach es X.env) (hpl : (backTo pos (starEach es X.env)).any (·.1) = false) :
    PE X (.Call (.Name x p) (e :: es) [] pos) (tMakeS C sp E t) := by
  refine ⟨fun pins s σ H Q I h => ?_⟩
  refine wpAny_Call_Name_kw (ld_glob I hg hm ?_ hdb)
  refine PySem.W.callWith_K (h₀ := X.base) I.ok.mod.kin M.kp (thn (ha.run pos pins s σ H _ I h) fun us s1 ⟨vs, H1, I1, r, q⟩ => ⟨I1.kIn, ?_⟩) he hpl
  exact run_makeS M F hr hb (hx σ) I1 r q
theorem pe_makeS0 {X : Cx} {CX : CXT} {k : Nat} {f C : Addr} {fd : FuncData} {ps : List Str} {sp : Sp} {E : L2.St → XK} {x : Str} {p pos : Pos} (M : Mk X.K C f) (F : FnOk X.prog X.w X.K X.mg X.base CX k f fd ps sp) (hr : Room (k + 1) X.A) (hg : Gl X x) (hm : X.mg x = some (.ref C)) (hb : Binds X.K fd ps []) (hx : ∀ σ, PassesAt CX X σ (E σ))
    (hdb : (x == ("__debug__" : Str)) = false) : PE X (.Call (.Name x p) [] [] pos) (tMakeS C sp E tNil) := by
  refine ⟨fun pins s σ H Q I h => ?_⟩
  refine wpAny_Call_Name_kw (ld_glob I hg hm ?_ hdb)
  exact PySem.W.callWith_K0 I.kIn M.kp (run_makeS (us := []) M F hr hb (hx σ) I .nil h)
/-- a class that may be called -/
structure MakeFn (W : Wd) (x : Str) (c k np : Nat) (F : FnSem) : Prop where
  ex : ∃ (f : Addr) (fd : FuncData) (ps : List Str), W.mg x = some (.ref (W.cA c)) ∧ Mk W.K (W.cA c) f ∧ Binds W.K fd ps [] ∧ ps.length = np ∧ FnOk W.P W.w W.K W.mg W.base (L2.CX W.P W.w) k f fd ps (spOf W np F)
def makeE (c : Nat) (F : FnSem) (a : Env → M (List D)) : EM := fun env => bindM (a env) fun ds m => match F (.ref m.length :: ds) (m ++ [.ins c []]) with
  | .ok .non m' => .ok (.d (.ref m.length)) m'
  | .ok _ _ => .no
  | .exc x _ m' => .exc x env m'
  | .no => .no
theorem simE_make {c np : Nat} {F : FnSem} {t : TA} {a : Env → M (List D)} (hn : ∀ env M ds M', a env M = .ok ds M' → ds.length + 1 = np) (h : SimA W t Wx a) : SimE W (tMakeS (W.cA c) (spOf W np F) (WE Wx) t) Wx (makeE c F a) := by
  intro σ H ι M env Q s re q
  unfold makeE at q
  rw [wpR_bind] at q
  refine h σ H ι M env _ s re (wpR_mono (wpR_and q) (fun ds M1 ⟨e2, h1⟩ vs ι1 H1 n1 s1 r1 => ?_) fun _ _ _ h => h)
  intro x dx hx hdx ne
  have na := Nxt.new (ι := ι1) (o := .own x) hdx
  have hx' : upd H1 dx (.own x) x = none := by rw [upd_ne (Ne.symm ne)]; exact hx
  have nb := Nxt.add (ι := ι1) (o := .ins (W.cA c) dx []) hx'
  have sa := s1.new (u := .own x) hdx
  have sb := sa.add (u := .ins (W.cA c) dx []) (o := .ins c []) hx' ⟨dx, [], upd_same, .nil⟩
  have n02 := (n1.trans na).trans nb
  refine ⟨by rw [List.length_cons, ← r1.length]; exact hn _ _ _ _ e2, _, _, .ref M1.length :: ds, sb, .cons (.ref ?_) (r1.mono (na.trans nb)), ?_⟩
  · rw [← s1.len, List.getElem?_append_right (Nat.le_refl _)]; simp
  cases ef : F (.ref M1.length :: ds) (M1 ++ [.ins c []]) with
  | ok d' m' =>
    rw [ef] at h1
    cases d' with
    | non =>
      refine fun v ι' H' n' s' r' => ?_
      cases r'
      refine ⟨rfl, h1 _ ι' H' (n02.trans n') s' (Rep.ref (n'.get ?_))⟩
      rw [← s1.len, List.getElem?_append_right (Nat.le_refl _)]; simp
    | _ => exact h1.elim
  | exc x e m' => rw [ef] at h1; exact fun cls d ι' H' n' s' rx => h1 cls d σ ι' H' (n02.trans n') s' (re.mono (n02.trans n')) rx
  | no => rw [ef] at h1; exact h1
theorem se_make {x : Str} {c k np : Nat} {F : FnSem} {e : Expr} {es : List Expr} {a : Env → M (List D)} {p pos : Pos} (f : MakeFn W x c k np F) (ha : SA W S (e :: es) a) (hk : k + 1 ≤ S.k := by decide) (hl : (e :: es).length + 1 = np := by rfl) (hg : S.sc.names.lookup x = some .globalImplicit := by rfl) (hdb : (x == ("__debug__" : Str)) = false := by decide)
    (he : ∀ env, starEach (e :: es) env = (false, eval e env) :: starEach es env := by intro _; rfl) (hpl : ∀ env, (backTo pos (starEach es env)).any (·.1) = false := by intro _; rfl) (hc : S.hot = false := by rfl) : SE W S (.Call (.Name x p) (e :: es) [] pos) (makeE c F a) := by
  obtain ⟨fa, fd, ps, hm, mk, bd, hps, ok⟩ := f.ex
  obtain ⟨t, a1, b1⟩ := ha.ex
  refine ⟨fun Wx => tMakeS (W.cA c) (spOf W np F) (WE Wx) (t Wx), fun X Wx y => ?_, fun Wx => simE_make (fun env M ds M' e => by rw [ha.len env M ds M' e]; exact hl) (b1 Wx)⟩
  refine pe_makeS (CX := L2.CX X.prog X.w) (ps := ps) (fd := fd) (k := k) (f := fa) (by rw [y.K]; exact mk) ?_ ((y.room hc).mono hk) (y.gl hg) (by rw [y.mg]; exact hm) (by rw [y.K]; exact bd) (fun σ => passAt y.tk σ) (a1 X Wx y) hdb (he _) (hpl _)
  rw [y.prog, y.w, y.K, y.mg, y.base]
  exact ok
theorem se_make0 {x : Str} {c k np : Nat} {F : FnSem} {p pos : Pos} (f : MakeFn W x c k np F) (hk : k + 1 ≤ S.k := by decide) (hl : 1 = np := by rfl) (hg : S.sc.names.lookup x = some .globalImplicit := by rfl) (hdb : (x == ("__debug__" : Str)) = false := by decide) (hc : S.hot = false := by rfl) : SE W S (.Call (.Name x p) [] [] pos) (makeE c F nilA) := by
  obtain ⟨fa, fd, ps, hm, mk, bd, hps, ok⟩ := f.ex
  refine ⟨fun Wx => tMakeS (W.cA c) (spOf W np F) (WE Wx) tNil, fun X Wx y => ?_, fun Wx => simE_make (t := tNil) (fun env M ds M' e => by cases e; exact hl) (fun σ H ι M env Q s r h => h [] ι H Nxt.refl s .nil)⟩
  refine pe_makeS0 (CX := L2.CX X.prog X.w) (ps := ps) (fd := fd) (k := k) (f := fa) (by rw [y.K]; exact mk) ?_ ((y.room hc).mono hk) (y.gl hg) (by rw [y.mg]; exact hm) (by rw [y.K]; exact bd) (fun σ => passAt y.tk σ) hdb
  rw [y.prog, y.w, y.K, y.mg, y.base]
  exact ok

/-! ### dicts -/
def getK {κ : Type} [DecidableEq κ] (kvs : List (κ × D)) (k : κ) : Option D := (kvs.find? fun kv => decide (kv.1 = k)).map (·.2)
def setK {κ : Type} [DecidableEq κ] (kvs : List (κ × D)) (k : κ) (v : D) : List (κ × D) := if (kvs.any fun kv => decide (kv.1 = k)) = true then kvs.map (fun kv => if kv.1 = k then (kv.1, v) else kv) else kvs ++ [(k, v)]
def delK {κ : Type} [DecidableEq κ] (kvs : List (κ × D)) (k : κ) : List (κ × D) := kvs.filter fun kv => decide (kv.1 ≠ k)
theorem RepF.getK {κ : Type} [DecidableEq κ] {H : Hp} {ι : List Addr} {k : κ} {fs : List (κ × D)} {gs : List (κ × V)} (r : RepF W H ι fs gs) : (∀ d, Mir.getK fs k = some d → ∃ v, valV gs k = some v ∧ Rep W H ι d v) ∧ (Mir.getK fs k = none → valV gs k = none) := by
  unfold RepF at r
  induction r with
  | nil => exact ⟨fun d e => by simp [Mir.getK] at e, fun _ => rfl⟩
  | @cons p q fs gs h t ih =>
    obtain ⟨h1, h2⟩ := h
    by_cases e : p.1 = k
    · have e' : q.1 = k := h1 ▸ e
      rw [valV_pos e']
      have e0 : Mir.getK (p :: fs) k = some p.2 := by simp [Mir.getK, List.find?_cons, e]
      rw [e0]
      exact ⟨fun d z => ⟨q.2, rfl, by cases z; exact h2⟩, fun z => by cases z⟩
    · have e' : ¬ q.1 = k := fun z => e (h1.trans z)
      rw [valV_neg e']
      have e0 : Mir.getK (p :: fs) k = Mir.getK fs k := by simp [Mir.getK, List.find?_cons, e]
      rw [e0]
      exact ih
theorem RepF.keys {κ : Type} {H : Hp} {ι : List Addr} {fs : List (κ × D)} {gs : List (κ × V)} (r : RepF W H ι fs gs) : fs.map (·.1) = gs.map (·.1) := by
  unfold RepF at r
  induction r with
  | nil => rfl
  | cons h t ih => simp [h.1, ih]
theorem RepF.append {κ : Type} {H : Hp} {ι : List Addr} {fs fs' : List (κ × D)} {gs gs' : List (κ × V)} (r : RepF W H ι fs gs) (r' : RepF W H ι fs' gs') : RepF W H ι (fs ++ fs') (gs ++ gs') := by
  unfold RepF at *
  induction r with
  | nil => exact r'
  | cons h t ih => exact .cons h ih
theorem RepF.setK {κ : Type} [DecidableEq κ] {H : Hp} {ι : List Addr} {k : κ} {d : D} {v : V} {fs : List (κ × D)} {gs : List (κ × V)} (rv : Rep W H ι d v) (r : RepF W H ι fs gs) : RepF W H ι (Mir.setK fs k d) (putK gs k v) := by
  have ea : (fs.any fun kv => decide (kv.1 = k)) = (gs.any fun kv => decide (kv.1 = k)) := by
    unfold RepF at r
    induction r with
    | nil => rfl
    | cons h t ih => simp only [List.any_cons, ih, h.1]
  unfold Mir.setK putK
  rw [ea]
  split
  · unfold RepF at *
    clear ea
    rename_i hh
    clear hh
    induction r with
    | nil => exact .nil
    | @cons p q fs gs h t ih =>
      refine .cons ?_ ih
      by_cases e : p.1 = k
      · have e' : q.1 = k := h.1 ▸ e
        simp only [e, e', if_true]
        exact ⟨trivial, rv⟩
      · have e' : ¬ q.1 = k := fun z => e (h.1.trans z)
        simp only [e, e', if_false]
        exact h
  · exact r.append (.cons ⟨rfl, rv⟩ .nil)
theorem RepF.delK {κ : Type} [DecidableEq κ] {H : Hp} {ι : List Addr} {k : κ} {fs : List (κ × D)} {gs : List (κ × V)} (r : RepF W H ι fs gs) : RepF W H ι (Mir.delK fs k) (dropK gs k) := by
  unfold Mir.delK dropK RepF at *
  induction r with
  | nil => exact .nil
  | @cons p q fs gs h t ih =>
    simp only [List.filter_cons, h.1]
    split
    · exact .cons h ih
    · exact ih
def keyD : D → Option Key
  | .int i => some (.inl i)
  | .str x => some (.inr x)
  | _ => none
theorem keyD_rep {H : Hp} {ι : List Addr} {d : D} {v : V} {k : Key} (r : Rep W H ι d v) (e : keyD d = some k) : v = kV k := by
  unfold keyD at e
  split at e
  · cases e; cases r; rfl
  · cases e; cases r; rfl
  · cases e
theorem keysD_rep {H : Hp} {ι : List Addr} : ∀ {ds : List D} {vs : List V} {k : List Key}, Reps W H ι ds vs → ds.mapM keyD = some k → vs = k.map kV
  | [], _, k, r, e => by cases r; simp at e; subst e; rfl
  | d :: ds, _, k, r, e => by
    cases r with
    | cons r1 r2 =>
      rw [List.mapM_cons] at e
      cases e1 : keyD d with
      | none => rw [e1] at e; cases e
      | some p =>
        cases e2 : ds.mapM keyD with
        | none => rw [e1, e2] at e; cases e
        | some qs =>
          rw [e1, e2] at e
          have e' : p :: qs = k := Option.some.inj e
          subst e'
          rw [keysD_rep r2 e2, keyD_rep r1 e1]; rfl
/-- what the dict x has under y: told twice over (is it a dict with such keys, and then) -/
def dget (m : Mem) (x y : TV) : Option (Option D) := match x, y with
  | .d (.ref n), .d y => match m[n]? with
    | some (.dic kvs) => (keyD y).map fun k => getK kvs k
    | some (.fdic kvs) => (keyD y).map fun k => getK kvs k
    | some (.dit kvs) => match y with
      | .tup ks => (ks.mapM keyD).map fun k => getK kvs k
      | _ => none
    | some (.fdit kvs) => match y with
      | .tup ks => (ks.mapM keyD).map fun k => getK kvs k
      | _ => none
    | _ => none
  | _, _ => none
theorem dget_rep {H0 H : Hp} {ι : List Addr} {m : Mem} {x y : TV} {vx vy : V} {o : Option D} (s : Sim W ι m H) (rx : RepT W H0 H ι x vx) (ry : RepT W H0 H ι y vy) (e : dget m x y = some o) :
    ∃ a ov, vx = .ref a ∧ DGet H a vy ov ∧ (∀ d, o = some d → ∃ v, ov = some v ∧ Rep W H ι d v) ∧ (o = none → ov = none) := by
  unfold dget at e
  split at e
  · rename_i n y
    cases rx with
    | ref hi =>
      split at e
      · rename_i kvs hm
        obtain ⟨ks, h, r⟩ := s.obj _ _ _ hm hi
        simp only [Option.map_eq_some_iff] at e
        obtain ⟨k, ek, rfl⟩ := e
        exact ⟨_, _, rfl, .inl ⟨ks, k, .inl h, keyD_rep ry ek, rfl⟩, (r.getK (k := k)).1, (r.getK (k := k)).2⟩
      · rename_i kvs hm
        obtain ⟨ob, ks, h, r⟩ := s.obj _ _ _ hm hi
        simp only [Option.map_eq_some_iff] at e
        obtain ⟨k, ek, rfl⟩ := e
        exact ⟨_, _, rfl, .inl ⟨ks, k, .inr ⟨ob, h⟩, keyD_rep ry ek, rfl⟩, (r.getK (k := k)).1, (r.getK (k := k)).2⟩
      · rename_i kvs hm
        obtain ⟨ks, h, r⟩ := s.obj _ _ _ hm hi
        split at e
        · simp only [Option.map_eq_some_iff] at e
          obtain ⟨k, ek, rfl⟩ := e
          cases ry with
          | tup hp rr => exact ⟨_, _, rfl, .inr ⟨ks, k, _, .inl h, rfl, by rw [hp, keysD_rep rr ek], rfl⟩, (r.getK (k := k)).1, (r.getK (k := k)).2⟩
        · cases e
      · rename_i kvs hm
        obtain ⟨ob, ks, h, r⟩ := s.obj _ _ _ hm hi
        split at e
        · simp only [Option.map_eq_some_iff] at e
          obtain ⟨k, ek, rfl⟩ := e
          cases ry with
          | tup hp rr => exact ⟨_, _, rfl, .inr ⟨ks, k, _, .inr ⟨ob, h⟩, rfl, by rw [hp, keysD_rep rr ek], rfl⟩, (r.getK (k := k)).1, (r.getK (k := k)).2⟩
        · cases e
      · cases e
  · cases e
def dicE : EM := fun _ m => .ok (.d (.ref m.length)) (m ++ [.dic []])
def ditE : EM := fun _ m => .ok (.d (.ref m.length)) (m ++ [.dit []])
theorem se_dic {pos : Pos} : SE W S (.Dict [] [] pos) dicE := by
  refine ⟨fun _ => tDNewK, fun X Wx x => pe_dnewK, fun Wx σ H ι M env Q s r h => fun p hp => ?_⟩
  exact h _ _ _ (Nxt.add hp) (s.add hp ⟨[], upd_same, .nil⟩) (.ref (by rw [← s.len, List.getElem?_append_right (Nat.le_refl _)]; simp))
theorem se_dit {pos : Pos} : SE W S (.Dict [] [] pos) ditE := by
  refine ⟨fun _ => tDNewT, fun X Wx x => pe_dnewT, fun Wx σ H ι M env Q s r h => fun p hp => ?_⟩
  exact h _ _ _ (Nxt.add hp) (s.add hp ⟨[], upd_same, .nil⟩) (.ref (by rw [← s.len, List.getElem?_append_right (Nat.le_refl _)]; simp))
def idxD (x y : TV) : M TV := fun m => match dget m x y with
  | some (some d) => .ok (.d d) m
  | _ => .no
theorem se_dget {a b : Expr} {ma mb : EM} {pos : Pos} (ha : SE W S a ma) (hb : SE W S b mb) (hs : NoSl b := by intro _ _; rfl) : SE W S (.Subscript a b pos) (binE idxD ma mb) := by
  obtain ⟨ta, a1, a2⟩ := ha.ex
  obtain ⟨tb, b1, b2⟩ := hb.ex
  refine ⟨fun Wx => tDGet (ta Wx) (tb Wx), fun X Wx x => pe_dget (by have := x.units; omega) (a1 X Wx x) (b1 X Wx x) hs, fun Wx => ?_⟩
  refine simE_op (r := fun x y H2 Q => ∃ a v, x = .ref a ∧ DGet H2 a y (some v) ∧ Q v H2) (a2 Wx) (b2 Wx) (fun H0 H ι m x y vx vy Q s rx ry k h => ?_) (fun x y m e v m' z => by unfold idxD at z; split at z <;> cases z)
  unfold idxD at h
  split at h
  · rename_i d e
    obtain ⟨p, ov, rfl, g, h1, _⟩ := dget_rep s rx ry e
    obtain ⟨v, rfl, rv⟩ := h1 d rfl
    exact ⟨p, v, rfl, g, h v ι H Nxt.refl s rv⟩
  · exact h.elim
/-- a subscript of a list, a tuple, a text or a dict -/
def opSubs (x y : TV) : M TV := fun m => match dget m x y with
  | some o => idxD x y m
  | none => opIdx x y m
theorem se_sub {a b : Expr} {ma mb : EM} {pos : Pos} (ha : SE W S a ma) (hb : SE W S b mb) (hs : NoSl b := by intro _ _; rfl) (hp : PlainIx b := by intro _ _; rfl) : SE W S (.Subscript a b pos) (binE opSubs ma mb) := by
  refine SE.or (se_dget ha hb hs) (se_ix x_seq ha hb hp) (fun env M => binE_or (fun x y m => ?_) env M)
  unfold opSubs
  split
  · exact .inl rfl
  · exact .inr rfl
/-! in -/
theorem op_inDict {X : Cx} (hu : X.A.units + 1 < cLine) : OpR X (compareOp .In) (fun y x H Q => ∃ a o, x = .ref a ∧ DGet H a y o ∧ Q (.bl o.isSome) H) := by
  intro pins s σ H y x u v Q I ry rx h
  obtain ⟨a, o, rfl, g, q⟩ := h
  cases rx
  exact d_in hu I g ry fun s' I' => ⟨.bl o.isSome, H, I', rfl, q⟩
theorem op_notInDict {X : Cx} (hu : X.A.units + 1 < cLine) : OpR X (compareOp .NotIn) (fun y x H Q => ∃ a o, x = .ref a ∧ DGet H a y o ∧ Q (.bl (!o.isSome)) H) := by
  intro pins s σ H y x u v Q I ry rx h
  obtain ⟨a, o, rfl, g, q⟩ := h
  cases rx
  exact d_notIn hu I g ry fun s' I' => ⟨.bl (!o.isSome), H, I', rfl, q⟩
def inD (m : Mem) (y x : TV) : Option Bool := (dget m x y).map Option.isSome
/-- y is an item of the list or tuple x -/
def inS (m : Mem) (y x : TV) : Option Bool := match seqOf m x with
  | some ds => match toPyT m y, ds.mapM (toPy m 7) with
    | some p, some ps => if SeqAt.shaped p = true ∧ SeqAt.shaped (.list ps) = true then some (ps.any fun z => PyData.eqv z p) else none
    | _, _ => none
  | none => none
end
end Mir

set_option maxHeartbeats 4000000
namespace Mir
open PySem L2
section
variable {W : Wd} {S : SCx} {Wx : WX}

/-! ### in -/
def flatD : D → Bool
  | .non => true | .bl _ => true | .int _ => true | .str _ => true | _ => false
def flV : D → V
  | .bl b => .bl b | .int i => .int i | .str x => .str x | _ => .non
theorem flV_rep {H : Hp} {ι : List Addr} {d : D} {v : V} (r : Rep W H ι d v) (h : flatD d = true) : v = flV d ∧ flatV v = true := by
  cases r <;> first | exact ⟨rfl, rfl⟩ | cases h
theorem flVs_rep {H : Hp} {ι : List Addr} : ∀ {ds : List D} {vs : List V}, Reps W H ι ds vs → ds.all flatD = true → vs = ds.map flV ∧ vs.all flatV = true
  | [], _, r, _ => by cases r; exact ⟨rfl, rfl⟩
  | d :: ds, _, r, h => by
    cases r with
    | cons r1 r2 =>
      rw [List.all_cons, Bool.and_eq_true] at h
      obtain ⟨h1, h2⟩ := flV_rep r1 h.1
      obtain ⟨h3, h4⟩ := flVs_rep r2 h.2
      exact ⟨by rw [h1, h3]; rfl, by rw [List.all_cons, h2, h4]; rfl⟩
/-- y in a list or tuple of flat items -/
def inFl (m : Mem) (y x : TV) : Option Bool := match seqOf m x, y with
  | some ds, .d y => if flatD y = true ∧ ds.all flatD = true then some (inV (flV y) (ds.map flV)) else none
  | _, _ => none
theorem inFl_rep {H0 H : Hp} {ι : List Addr} {m : Mem} {x y : TV} {vx vy : V} {b : Bool} (s : Sim W ι m H) (rx : RepT W H0 H ι x vx) (ry : RepT W H0 H ι y vy) (e : inFl m y x = some b) :
    ∃ p xs, vx = .ref p ∧ (SqL W.K H p xs ∨ SqT W.K H p xs) ∧ flatV vy = true ∧ xs.all flatV = true ∧ b = inV vy xs := by
  unfold inFl at e
  split at e
  · rename_i ds y hx
    split at e
    · rename_i hf
      cases e
      obtain ⟨p, vs, rfl, hp, r⟩ := seqOf_rep s rx hx
      obtain ⟨h1, h2⟩ := flV_rep ry hf.1
      obtain ⟨h3, h4⟩ := flVs_rep r hf.2
      exact ⟨p, vs, rfl, hp, h2, h4, by rw [h1, h3]⟩
    · cases e
  · cases e
/-- y in a list of any data -/
def inDp (m : Mem) (y x : TV) : Option Bool := match toPyT m x, toPyT m y with
  | some (.list ds), some d => if SeqAt.shaped d = true ∧ SeqAt.shaped (.list ds) = true then some (ds.any fun z => PyData.eqv z d) else none
  | _, _ => none
/-- one sign in a text -/
def inSg (y x : TV) : Option Bool := match y, x with
  | .d (.str a), .d (.str z) => match a.cps.toList with
    | [c] => some (decide (c ∈ z.cps.toList))
    | _ => none
  | _, _ => none
def inM (m : Mem) (y x : TV) : Option Bool := match dget m x y with
  | some o => some o.isSome
  | none => match inSg y x with
    | some b => some b
    | none => match inFl m y x with
      | some b => some b
      | none => inDp m y x
def opIn (y x : TV) : M TV := fun m => match inM m y x with
  | some b => .ok (.d (.bl b)) m
  | none => .no
def opNotIn (y x : TV) : M TV := fun m => match inM m y x with
  | some b => .ok (.d (.bl (!b))) m
  | none => .no
/-- what «in» comes to -/
def InR (W : Wd) (neg : Bool) : R2 := fun y x H Q => (∃ a o, x = .ref a ∧ DGet H a y o ∧ Q (.bl (if neg then !o.isSome else o.isSome)) H) ∨ (∃ (c : Nat) (z : Str), y = .str ⟨#[c]⟩ ∧ x = .str z ∧ Q (.bl (if neg then !decide (c ∈ z.cps.toList) else decide (c ∈ z.cps.toList))) H) ∨
  (∃ p xs, x = .ref p ∧ (SqL W.K H p xs ∨ SqT W.K H p xs) ∧ flatV y = true ∧ xs.all flatV = true ∧ Q (.bl (if neg then !inV y xs else inV y xs)) H) ∨
  ∃ d ds, Dp W.K H y d ∧ Dp W.K H x (.list ds) ∧ SeqAt.shaped d = true ∧ SeqAt.shaped (.list ds) = true ∧ Q (.bl (if neg then !ds.any (fun z => PyData.eqv z d) else ds.any fun z => PyData.eqv z d)) H
theorem inR_rep {neg : Bool} {H0 H : Hp} {ι : List Addr} {m : Mem} {x y : TV} {vx vy : V} {b : Bool} {Q : VK} (s : Sim W ι m H) (rx : RepT W H0 H ι x vx) (ry : RepT W H0 H ι y vy) (e : inM m y x = some b) (q : Q (.bl (if neg then !b else b)) H) : InR W neg vy vx H Q := by
  unfold inM at e
  split at e
  · rename_i o eo
    cases e
    obtain ⟨a, ov, rfl, g, h1, h2⟩ := dget_rep s rx ry eo
    refine .inl ⟨a, ov, rfl, g, ?_⟩
    have : ov.isSome = o.isSome := by
      cases o with
      | none => rw [h2 rfl]; rfl
      | some d => obtain ⟨v, e, _⟩ := h1 d rfl; rw [e]; rfl
    rw [this]; exact q
  · split at e
    · rename_i b' eb
      cases e
      unfold inSg at eb
      split at eb
      · split at eb
        · rename_i a z _ _ c hc
          cases eb; cases rx; cases ry
          have : a = ⟨#[c]⟩ := by
            obtain ⟨cs⟩ := a
            have : cs = #[c] := by apply Array.ext'; simpa using hc
            rw [this]
          exact .inr (.inl ⟨c, z, by rw [this], rfl, q⟩)
        · cases eb
      · cases eb
    · split at e
      · rename_i b' eb
        cases e
        obtain ⟨p, xs, rfl, h1, h2, h3, rfl⟩ := inFl_rep s rx ry eb
        exact .inr (.inr (.inl ⟨p, xs, rfl, h1, h2, h3, q⟩))
      · unfold inDp at e
        split at e
        · rename_i ds d hx hy
          split at e
          · rename_i hs
            cases e
            exact .inr (.inr (.inr ⟨d, ds, toPyT_dp s ry hy, toPyT_dp s rx hx, hs.1, hs.2, q⟩))
          · cases e
        · cases e
theorem o_in : OpS W S (compareOp .In) opIn := by
  refine ⟨⟨InR W false, fun X _ a pins s σ H y x u v Q I ry rx h => ?_, fun H0 H ι m y x vy vx Q s ry rx k h => ?_⟩, fun x y m e v m' z => ?_⟩
  · have hu := a.units
    rcases h with h | ⟨c, z, rfl, rfl, q⟩ | h | h
    · exact op_inDict (by omega) pins s σ H y x u v Q I ry rx h
    · exact op_in_sign pins s σ H _ _ u v Q I ry rx ⟨c, z, rfl, rfl, q⟩
    · rw [← a.K] at h; exact op_in_seq pins s σ H y x u v Q I ry rx h
    · rw [← a.K] at h; exact op_inD (by have := a.units; omega) pins s σ H y x u v Q I ry rx h
  · unfold opIn at h
    split at h
    · rename_i b e
      exact inR_rep (neg := false) s rx ry e (h _ ι H Nxt.refl s (Rep.bl b))
    · exact h.elim
  · unfold opIn at z
    split at z <;> cases z
theorem o_notin : OpS W S (compareOp .NotIn) opNotIn := by
  refine ⟨⟨InR W true, fun X _ a pins s σ H y x u v Q I ry rx h => ?_, fun H0 H ι m y x vy vx Q s ry rx k h => ?_⟩, fun x y m e v m' z => ?_⟩
  · have hu := a.units
    rcases h with h | ⟨c, z, rfl, rfl, q⟩ | h | h
    · exact op_notInDict (by omega) pins s σ H y x u v Q I ry rx h
    · exact op_notIn_sign pins s σ H _ _ u v Q I ry rx ⟨c, z, rfl, rfl, q⟩
    · rw [← a.K] at h; exact op_notIn_seq pins s σ H y x u v Q I ry rx h
    · rw [← a.K] at h; exact op_notInD (by have := a.units; omega) pins s σ H y x u v Q I ry rx h
  · unfold opNotIn at h
    split at h
    · rename_i b e
      exact inR_rep (neg := true) s rx ry e (h _ ι H Nxt.refl s (Rep.bl (!b)))
    · exact h.elim
  · unfold opNotIn at z
    split at z <;> cases z

/-! ### stores by place or key -/
theorem SS.or {st : Stmt} {m m1 m2 : SMs} (h1 : SS W S st m1) (h2 : SS W S st m2) (h : ∀ env M, m env M = m1 env M ∨ m env M = m2 env M) : SS W S st m := by
  obtain ⟨t1, a1, b1⟩ := h1.ex
  obtain ⟨t2, a2, b2⟩ := h2.ex
  refine ⟨fun Wx D σ H => t1 Wx D σ H ∨ t2 Wx D σ H, fun X Wx x => ⟨fun pins s σ H D I h => h.elim ((a1 X Wx x).run pins s σ H D I) ((a2 X Wx x).run pins s σ H D I)⟩, fun Wx σ H ι M env D s r q => ?_⟩
  rcases h env M with e | e
  · rw [e] at q; exact .inl (b1 Wx σ H ι M env D s r q)
  · rw [e] at q; exact .inr (b2 Wx σ H ι M env D s r q)
def dput (x y : TV) (d : D) : M Unit := fun m => match x, y with
  | .d (.ref n), .d y => match m[n]? with
    | some (.dic kvs) => match keyD y with
      | some k => if kvs.length < sizeLine then .ok () (m.set n (.dic (setK kvs k d))) else .no
      | none => .no
    | some (.dit kvs) => match y with
      | .tup ks => match ks.mapM keyD with
        | some k => if kvs.length < sizeLine then .ok () (m.set n (.dit (setK kvs k d))) else .no
        | none => .no
      | _ => .no
    | _ => .no
  | _, _ => .no
theorem dput_rep {H0 H : Hp} {ι : List Addr} {m : Mem} {x y : TV} {vx vy u : V} {d : D} {q : Unit → Mem → Prop} {xx : Ex → Env → Mem → Prop} (s : Sim W ι m H) (rx : RepT W H0 H ι x vx) (ry : RepT W H0 H ι y vy) (rd : Rep W H ι d u) (e : wpR (dput x y d m) q xx) :
    ∃ a H' m', vx = .ref a ∧ DPut H a vy u H' ∧ q () m' ∧ Nxt ι H ι H' ∧ Sim W ι m' H' := by
  unfold dput at e
  split at e
  · rename_i n y
    cases rx with
    | ref hi =>
      split at e
      · rename_i kvs hm
        obtain ⟨ks, h, r⟩ := s.obj _ _ _ hm hi
        split at e
        · rename_i k hk
          split at e
          · rename_i hz
            have nx := Nxt.put (o := .dK (putK ks k u)) (List.mem_of_getElem? hi) h (fun _ z => nomatch z) (fun _ _ z => nomatch z)
            refine ⟨_, _, _, rfl, .inl ⟨ks, k, h, keyD_rep ry hk, by rw [← r.length]; exact hz, rfl⟩, e, nx, s.put hi h (fun _ z => nomatch z) (fun _ _ z => nomatch z) ⟨_, upd_same, (r.setK rd).mono nx⟩⟩
          · exact e.elim
        · exact e.elim
      · rename_i kvs hm
        obtain ⟨ks, h, r⟩ := s.obj _ _ _ hm hi
        split at e
        · split at e
          · rename_i ds _ k hk
            split at e
            · rename_i hz
              cases ry with
              | tup hp rr =>
                have nx := Nxt.put (o := .dT (putK ks k u)) (List.mem_of_getElem? hi) h (fun _ z => nomatch z) (fun _ _ z => nomatch z)
                refine ⟨_, _, _, rfl, .inr ⟨ks, k, _, h, rfl, by rw [hp, keysD_rep rr hk], by rw [← r.length]; exact hz, rfl⟩, e, nx, s.put hi h (fun _ z => nomatch z) (fun _ _ z => nomatch z) ⟨_, upd_same, (r.setK rd).mono nx⟩⟩
            · exact e.elim
          · exact e.elim
        · exact e.elim
      · exact e.elim
  · exact e.elim
def dputS (o i : EM) (e : Env → M D) : SMs := fun env => bindM (e env) fun d => bindM (o env) fun x => bindM (i env) fun y => bindM (dput x y d) fun _ => okM (.nxt env)
theorem ss_dput {o i e : Expr} {mo mi : EM} {me : Env → M D} {pos pos' : Pos} (ho : SE W S o mo) (hi : SE W S i mi) (he : SD W S e me) (hs : ∀ env, swapsWith e (some (.Subscript o i pos')) pos.line env = pure false := by intro _; rfl) : SS W S (.Assign [.Subscript o i pos'] e pos) (dputS mo mi me) := by
  obtain ⟨t, a, b⟩ := ho.ex
  obtain ⟨t1, a1, b1⟩ := hi.ex
  obtain ⟨u, a2, b2⟩ := he.ex
  refine ⟨fun Wx => sDPut (t Wx) (t1 Wx) (u Wx), fun X Wx x => ps_dput (by have := x.units; omega) (a X Wx x.toAt) (a1 X Wx x.toAt) (a2 X Wx x.toAt) (hs _), fun Wx σ H ι M env D s re q => ?_⟩
  unfold dputS at q
  rw [wpR_bind] at q
  refine b2 Wx σ H ι M env _ s re (wpR_mono q (fun d M1 h1 v ι1 H1 n1 s1 r1 => ?_) fun _ _ _ h => h)
  rw [wpR_bind] at h1
  refine b Wx σ H1 ι1 M1 env _ s1 (re.mono n1) (wpR_mono h1 (fun x M2 h2 w ι2 H2 n2 s2 r2 => ?_) fun _ _ _ h => PostX.next n1 h)
  rw [wpR_bind] at h2
  have n12 := n1.trans n2
  refine b1 Wx σ H2 ι2 M2 env _ s2 (re.mono n12) (wpR_mono h2 (fun y M3 h3 w3 ι3 H3 n3 s3 r3 => ?_) fun _ _ _ h => PostX.next n12 h)
  rw [wpR_bind] at h3
  obtain ⟨p, H', m', rfl, g, hq, nx, s4⟩ := dput_rep s3 (r2.mono n3) (r3.back n2) (r1.mono (n2.trans n3)) h3
  have n04 := (n12.trans n3).trans nx
  exact ⟨p, H', rfl, g, hq σ ι3 _ n04 s4 (re.mono n04)⟩
/-- xs[i] = e -/
def lput (x y : TV) (d : D) : M Unit := fun m => match x, y with
  | .d (.ref n), .d (.int i) => match m[n]? with
    | some (.lst ds) => match ixN ds.length i with
      | some j => .ok () (m.set n (.lst (ds.set j d)))
      | none => .no
    | _ => .no
  | _, _ => .no
def lputS (o i : EM) (e : Env → M D) : SMs := fun env => bindM (e env) fun d => bindM (o env) fun x => bindM (i env) fun y => bindM (lput x y d) fun _ => okM (.nxt env)
theorem ss_lput {o i e : Expr} {mo mi : EM} {me : Env → M D} {pos pos' : Pos} (ho : SE W S o mo) (hi : SE W S i mi) (he : SD W S e me) (hs : ∀ env, swapsWithSole [.Subscript o i pos'] e pos.line env = pure false := by intro _; rfl) (hw : ∀ env, swappedStores [.Subscript o i pos'] e env = pure none := by intro _; rfl)
    (h1 : ∀ env, (assignEach [.Subscript o i pos'] env).map (·.2) = [assign (.Subscript o i pos') env] := by intro _; rfl)
    (ha : ∀ env v, assign (.Subscript o i pos') env v = (do
      let ov ← holding [v] (eval o env)
      let iv ← holding [v, ov] (eval i env)
      standAt pos'
      holding [v, ov, iv] (setItem ov iv v)
      release [v, ov, iv] []) := by intro _ _; rfl) : SS W S (.Assign [.Subscript o i pos'] e pos) (lputS mo mi me) := by
  obtain ⟨t, a, b⟩ := ho.ex
  obtain ⟨t1, a1, b1⟩ := hi.ex
  obtain ⟨u, a2, b2⟩ := he.ex
  refine ⟨fun Wx => tAsg (u Wx) (gSub (t Wx) (t1 Wx) rSetL), fun X Wx x => ps_asg (a2 X Wx x.toAt) (pg_sub (a X Wx x.toAt) (a1 X Wx x.toAt) set_list (ha _)) (hs _) (hw _) (h1 _), fun Wx σ H ι M env D s re q => ?_⟩
  unfold lputS at q
  rw [wpR_bind] at q
  refine b2 Wx σ H ι M env _ s re (wpR_mono q (fun d M1 h1 v ι1 H1 n1 s1 r1 => ?_) fun _ _ _ h => h)
  rw [wpR_bind] at h1
  refine b Wx σ H1 ι1 M1 env _ s1 (re.mono n1) (wpR_mono h1 (fun x M2 h2 w ι2 H2 n2 s2 r2 => ?_) fun _ _ _ h => PostX.next n1 h)
  rw [wpR_bind] at h2
  have n12 := n1.trans n2
  refine b1 Wx σ H2 ι2 M2 env _ s2 (re.mono n12) (wpR_mono h2 (fun y M3 h3 w3 ι3 H3 n3 s3 r3 => ?_) fun _ _ _ h => PostX.next n12 h)
  rw [wpR_bind] at h3
  unfold lput at h3
  split at h3
  · split at h3
    · split at h3
      · rename_i n i _ ds hm _ j hj
        have r2' := r2.mono n3
        cases r2' with
        | ref hi =>
          cases r3
          obtain ⟨ws, hp, rw'⟩ := s3.obj _ _ _ hm hi
          obtain ⟨nx, s4⟩ := put_list (vs := ws.set j v) s3 hi hp (rw'.set (r1.mono (n2.trans n3)) j)
          have n04 := (n12.trans n3).trans nx
          exact ⟨_, ws, i, j, rfl, rfl, hp, by rw [← rw'.length]; exact hj, h3 σ ι3 _ n04 s4 (re.mono n04)⟩
      · exact h3.elim
    · exact h3.elim
  · exact h3.elim
/-- a list, or a dict -/
def isLst (m : Mem) : TV → Bool
  | .d (.ref n) => match m[n]? with
    | some (.lst _) => true
    | _ => false
  | _ => false
def subPut (x y : TV) (d : D) : M Unit := fun m => if isLst m x = true then lput x y d m else dput x y d m
def subS (o i : EM) (e : Env → M D) : SMs := fun env => bindM (e env) fun d => bindM (o env) fun x => bindM (i env) fun y => bindM (subPut x y d) fun _ => okM (.nxt env)
theorem ss_sub {o i e : Expr} {mo mi : EM} {me : Env → M D} {pos pos' : Pos} (ho : SE W S o mo) (hi : SE W S i mi) (he : SD W S e me) (hs0 : ∀ env, swapsWith e (some (.Subscript o i pos')) pos.line env = pure false := by intro _; rfl) (hs : ∀ env, swapsWithSole [.Subscript o i pos'] e pos.line env = pure false := by intro _; rfl) (hw : ∀ env, swappedStores [.Subscript o i pos'] e env = pure none := by intro _; rfl)
    (h1 : ∀ env, (assignEach [.Subscript o i pos'] env).map (·.2) = [assign (.Subscript o i pos') env] := by intro _; rfl)
    (ha : ∀ env v, assign (.Subscript o i pos') env v = (do
      let ov ← holding [v] (eval o env)
      let iv ← holding [v, ov] (eval i env)
      standAt pos'
      holding [v, ov, iv] (setItem ov iv v)
      release [v, ov, iv] []) := by intro _ _; rfl) : SS W S (.Assign [.Subscript o i pos'] e pos) (subS mo mi me) := by
  refine SS.or (ss_lput ho hi he hs hw h1 ha) (ss_dput ho hi he hs0) (fun env M => ?_)
  unfold subS lputS dputS bindM
  cases me env M with
  | ok d M1 =>
    dsimp only
    cases mo env M1 with
    | ok x M2 =>
      dsimp only
      cases mi env M2 with
      | ok y M3 =>
        by_cases h : isLst M3 x = true
        · exact .inl (by simp only [subPut, h, if_true])
        · exact .inr (by simp only [subPut, h, if_false, Bool.false_eq_true])
      | exc _ _ _ => exact .inl rfl
      | no => exact .inl rfl
    | exc _ _ _ => exact .inl rfl
    | no => exact .inl rfl
  | exc _ _ _ => exact .inl rfl
  | no => exact .inl rfl

/-! ### methods of dicts -/
def isDic (m : Mem) (x : TV) : Bool := chk "dict" m x
theorem isDic_rep {H0 H : Hp} {ι : List Addr} {m : Mem} {x : TV} {v : V} (s : Sim W ι m H) (r : RepT W H0 H ι x v) (e : isDic m x = true) : ∃ a, v = .ref a ∧ IsD H a := by
  have h := chk_rep s r e
  have hne : ∀ z, z ≠ "dict" → ¬ (z = "dict") := fun _ h => h
  cases v with
  | ref p =>
    rcases h with ⟨h, _⟩ | ⟨h, _⟩ | ⟨_, h⟩ | ⟨h, _⟩
    · exact absurd h (by decide)
    · exact absurd h (by decide)
    · refine ⟨p, rfl, ?_⟩
      rcases h with ⟨kvs, h⟩ | ⟨kvs, h⟩
      · exact .inl ⟨kvs, .inl h⟩
      · exact .inr ⟨kvs, .inl h⟩
    · exact absurd h (by decide)
  | str z => exact absurd (show "dict" = "str" from h) (by decide)
  | int z => exact absurd (show "dict" = "int" from h) (by decide)
  | _ => exact h.elim
def dgetE (o k : EM) : EM := fun env => bindM (o env) fun x m => if isDic m x = true then bindM (k env) (fun y m' => match dget m' x y with
  | some (some d) => .ok (.d d) m'
  | some none => .ok (.d .non) m'
  | none => .no) m else .no
theorem se_get1 {o e : Expr} {mo me : EM} {apos cpos : Pos} (ho : SE W S o mo) (he : SE W S e me) (hb : ∀ env, attributeBase o "get" env (eval o env) = eval o env := by intro _; rfl)
    (hf : ∀ env, ((backTo cpos (starEach [e] env)).all (fun x => !x.1) && (backToKw cpos (keywordEach [] env)).all (fun x => x.1.isSome) && decide (([e] : List Expr).length + ([] : List Keyword).length + (if ([] : List Keyword).isEmpty then 0 else 1) < 30)) = true := by intro _; rfl)
    (hl : (apos.endLine == cpos.line) = true := by rfl) (ht : ∀ env, backTo cpos (starEach [e] env) = [(false, eval e env)] := by intro _; rfl) : SE W S (.Call (.Attribute o "get" apos) [e] [] cpos) (dgetE mo me) := by
  obtain ⟨t, a, b⟩ := ho.ex
  obtain ⟨u, a2, b2⟩ := he.ex
  refine ⟨fun Wx => tDGet1 (t Wx) (u Wx), fun X Wx x => pe_dget1 (by have := x.units; omega) (a X Wx x) (a2 X Wx x) ⟨hb _, hf _, hl, ht _⟩, fun Wx σ H ι M env Q s re q => ?_⟩
  unfold dgetE at q
  rw [wpR_bind] at q
  refine b Wx σ H ι M env _ s re (wpR_mono q (fun x M1 h1 v ι1 H1 n1 s1 r1 => ?_) fun _ _ _ h => h)
  by_cases hc : isDic M1 x = true
  · rw [if_pos hc] at h1
    obtain ⟨p, rfl, hd⟩ := isDic_rep s1 r1 hc
    refine ⟨p, rfl, hd, ?_⟩
    rw [wpR_bind] at h1
    refine b2 Wx σ H1 ι1 M1 env _ s1 (re.mono n1) (wpR_mono h1 (fun y M2 h2 w ι2 H2 n2 s2 r2 => ?_) fun _ _ _ h => PostX.next n1 h)
    have n12 := n1.trans n2
    cases e : dget M2 x y with
    | none => rw [e] at h2; exact h2.elim
    | some o' =>
      obtain ⟨p', ov, ep, g, g1, g2⟩ := dget_rep s2 (r1.mono n2) (r2.back n1) e
      cases ep
      rw [e] at h2
      refine ⟨ov, g, ?_⟩
      cases o' with
      | none => rw [g2 rfl]; exact h2 _ ι2 H2 n12 s2 Rep.non
      | some d => obtain ⟨v', rfl, rv⟩ := g1 d rfl; exact h2 _ ι2 H2 n12 s2 rv
  · rw [if_neg hc] at h1; exact h1.elim
end
end Mir

set_option maxHeartbeats 4000000
namespace Mir
open PySem L2
section
variable {W : Wd} {S : SCx} {Wx : WX}
/-! ### arguments made whole, for methods -/
def tvs (a : Env → M (List D)) : Env → M (List TV) := fun env => bindM (a env) fun ds => okM (ds.map .d)
theorem RepTs.of {H0 H : Hp} {ι : List Addr} : ∀ {ds : List D} {vs : List V}, Reps W H ι ds vs → RepTs W H0 H ι (ds.map .d) vs
  | [], _, r => by cases r; exact .nil
  | d :: ds, _, r => by
    cases r with
    | cons r1 r2 => exact .cons r1 (RepTs.of r2)
theorem sat_sa {es : List Expr} {a : Env → M (List D)} (h : SA W S es a) : SAT W S es (tvs a) := by
  obtain ⟨t, h1, h2⟩ := h.ex
  refine ⟨t, h1, fun Wx σ H ι M env Q s r q => ?_⟩
  unfold tvs at q
  rw [wpR_bind] at q
  exact h2 Wx σ H ι M env Q s r (wpR_mono q (fun ds M1 h vs ι' H' n s r => h vs ι' H' n s (RepTs.of r)) fun _ _ _ h => h)
end
end Mir

set_option maxHeartbeats 4000000
namespace Mir
open PySem L2
section
variable {W : Wd} {S : SCx} {Wx : WX}
/-! ### {k: v, ..} -/
inductive RPs (W : Wd) (H : Hp) (ι : List Addr) : List (D × D) → List (V × V) → Prop
  | nil : RPs W H ι [] []
  | cons {k d : D} {x v : V} {ks : List (D × D)} {vs : List (V × V)} : Rep W H ι k x → Rep W H ι d v → RPs W H ι ks vs → RPs W H ι ((k, d) :: ks) ((x, v) :: vs)
structure SPs (W : Wd) (S : SCx) (keys : List (Option Expr)) (values : List Expr) (m : Env → M (List (D × D))) : Prop where
  ex : ∃ t : WX → List (TE × TE), (∀ X Wx pos, At W S X Wx → PPs X pos keys values (t Wx)) ∧ ∀ Wx (σ : L2.St) (H : Hp) (ι : List Addr) (M : Mem) (env : Env) (Q : List (V × V) → Hp → Prop), Sim W ι M H → REnv W H ι env σ →
    wpR (m env M) (fun kvs M' => ∀ ps ι' H', Nxt ι H ι' H' → Sim W ι' M' H' → RPs W H' ι' kvs ps → Q ps H') (PostX W ι H Wx) → tPairs (t Wx) σ H Q
def nilPs : Env → M (List (D × D)) := fun _ => okM []
def consPs (k e : Env → M D) (r : Env → M (List (D × D))) : Env → M (List (D × D)) := fun env => bindM (k env) fun x => bindM (e env) fun d => bindM (r env) fun l => okM ((x, d) :: l)
theorem sps_nil : SPs W S [] [] nilPs := ⟨fun _ => [], fun _ _ _ _ => pps_nil, fun Wx σ H ι M env Q s r h => h [] ι H Nxt.refl s .nil⟩
theorem sps_cons {k e : Expr} {ks : List (Option Expr)} {es : List Expr} {mk me : Env → M D} {r : Env → M (List (D × D))} (hk : SD W S k mk) (he : SD W S e me) (hr : SPs W S ks es r) : SPs W S (some k :: ks) (e :: es) (consPs mk me r) := by
  obtain ⟨t, a, b⟩ := hk.ex
  obtain ⟨t1, a1, b1⟩ := he.ex
  obtain ⟨t2, a2, b2⟩ := hr.ex
  refine ⟨fun Wx => (t Wx, t1 Wx) :: t2 Wx, fun X Wx pos x => pps_cons (a X Wx x) (a1 X Wx x) (a2 X Wx pos x), fun Wx σ H ι M env Q s re q => ?_⟩
  unfold consPs at q
  rw [wpR_bind] at q
  refine b Wx σ H ι M env _ s re (wpR_mono q (fun x M1 h1 v ι1 H1 n1 s1 r1 => ?_) fun _ _ _ h => h)
  rw [wpR_bind] at h1
  refine b1 Wx σ H1 ι1 M1 env _ s1 (re.mono n1) (wpR_mono h1 (fun d M2 h2 w ι2 H2 n2 s2 r2 => ?_) fun _ _ _ h => PostX.next n1 h)
  rw [wpR_bind] at h2
  have n12 := n1.trans n2
  refine b2 Wx σ H2 ι2 M2 env _ s2 (re.mono n12) (wpR_mono h2 (fun l M3 h3 ps ι3 H3 n3 s3 r3 => ?_) fun _ _ _ h => PostX.next n12 h)
  exact h3 _ ι3 H3 (n12.trans n3) s3 (.cons (r1.mono (n2.trans n3)) (r2.mono n3) r3)
def mergeD (kvs more : List (Key × D)) : List (Key × D) := more.foldl (fun acc kv => setK acc kv.1 kv.2) kvs
theorem RepF.merge {H : Hp} {ι : List Addr} {more : List (Key × D)} {mo : List (Key × V)} (r2 : RepF W H ι more mo) : ∀ {kvs : List (Key × D)} {vs : List (Key × V)}, RepF W H ι kvs vs → RepF W H ι (mergeD kvs more) (mergeK vs mo) := by
  unfold RepF at r2
  induction r2 with
  | nil => intro kvs vs r; exact r
  | @cons p q ps qs h t ih =>
    intro kvs vs r
    obtain ⟨pk, pd⟩ := p
    obtain ⟨qk, qv⟩ := q
    obtain ⟨h1, h2⟩ := h
    have h1 : pk = qk := h1
    subst h1
    exact ih (RepF.setK (k := pk) h2 r)
def keyed : List (D × D) → Option (List (Key × D))
  | [] => some []
  | (k, d) :: r => match keyD k, keyed r with
    | some k, some l => some ((k, d) :: l)
    | _, _ => none
theorem keyed_rep {H : Hp} {ι : List Addr} : ∀ {kvs : List (D × D)} {ps : List (V × V)} {l : List (Key × D)}, RPs W H ι kvs ps → keyed kvs = some l → ∃ ls : List (Key × V), ps = ls.map (fun kv => (kV kv.1, kv.2)) ∧ RepF W H ι l ls
  | _, _, l, .nil, e => by cases e; exact ⟨[], rfl, .nil⟩
  | _, _, l, .cons (k := k) h1 h2 h3, e => by
    simp only [keyed] at e
    split at e
    · rename_i key l' ek el
      cases e
      obtain ⟨ls, rfl, r⟩ := keyed_rep h3 el
      exact ⟨(key, _) :: ls, by rw [keyD_rep h1 ek]; rfl, .cons ⟨rfl, h2⟩ r⟩
    · cases e
def isNil : Option O → Bool
  | some (.dic []) => true
  | _ => false
def dispE (a : Env → M (List (D × D))) : EM := fun env m => bindM (a env) (fun kvs m' => match keyed kvs with
  | some l => if l.length ≤ 15 ∧ isNil m'[m.length]? = true then .ok (.d (.ref m.length)) (m'.set m.length (.dic (mergeD [] l))) else .no
  | none => .no) (m ++ [.dic []])
theorem se_disp {keys : List (Option Expr)} {values : List Expr} {a : Env → M (List (D × D))} {pos : Pos} (h : SPs W S keys values a) (hall : keys.all (·.isSome) = true := by rfl) (hl : keys.length = values.length := by rfl) (h0 : keys ≠ [] := by simp) (h15 : keys.length ≤ 15 := by decide) : SE W S (.Dict keys values pos) (dispE a) := by
  obtain ⟨t, a1, b1⟩ := h.ex
  refine ⟨fun Wx => tDisp (t Wx), fun X Wx x => pe_disp (a1 X Wx pos x) hall hl h0 h15, fun Wx σ H ι M env Q s re q => ?_⟩
  intro p hp
  have n0 := Nxt.add (ι := ι) (o := .dK []) hp
  have s0 := s.add (u := .dK []) (o := .dic []) hp ⟨[], upd_same, .nil⟩
  have hi0 : (ι ++ [p])[M.length]? = some p := by rw [← s.len, List.getElem?_append_right (Nat.le_refl _)]; simp
  unfold dispE at q
  rw [wpR_bind] at q
  refine b1 Wx σ _ _ _ env _ s0 (re.mono n0) (wpR_mono q (fun kvs M1 h1 ps ι1 H1 n1 s1 r1 => ?_) fun _ _ _ h => PostX.next n0 h)
  split at h1
  · rename_i l el
    split at h1
    · rename_i hc
      have hm : M1[M.length]? = some (.dic []) := by
        have := hc.2
        unfold isNil at this
        split at this
        · rename_i e; exact e
        · cases this
      have hi := n1.get hi0
      obtain ⟨ks, e, r⟩ := s1.obj _ _ _ hm hi
      cases r
      obtain ⟨ls, rfl, rl⟩ := keyed_rep r1 el
      refine ⟨e, ls, rfl, by rw [← rl.length]; exact hc.1, ?_⟩
      have nx := Nxt.put (o := .dK (mergeK [] ls)) (List.mem_of_getElem? hi) e (fun _ z => nomatch z) (fun _ _ z => nomatch z)
      exact h1 _ ι1 _ ((n0.trans n1).trans nx) (s1.put hi e (fun _ z => nomatch z) (fun _ _ z => nomatch z) ⟨_, upd_same, (RepF.merge rl .nil).mono nx⟩) (.ref hi)
    · exact h1.elim
  · exact h1.elim
/-! ### is of truths -/
def opIsB (x y : TV) : M TV := match x, y with
  | .d (.bl a), .d (.bl b) => okM (.d (.bl (decide (a = b))))
  | _, _ => noM
def opIsNotB (x y : TV) : M TV := match x, y with
  | .d (.bl a), .d (.bl b) => okM (.d (.bl (!decide (a = b))))
  | _, _ => noM
theorem o_isB : OpS W S (compareOp .Is) opIsB := by
  refine ⟨⟨_, fun X _ a => op_isBl, fun H0 H ι m x y vx vy Q s rx ry k h => ?_⟩, fun x y m e v m' z => ?_⟩
  · unfold opIsB at h
    split at h
    · cases rx; cases ry
      exact ⟨_, _, rfl, rfl, h _ ι H Nxt.refl s (.bl _)⟩
    · exact h.elim
  · unfold opIsB at z
    split at z <;> cases z
theorem o_isnotB : OpS W S (compareOp .IsNot) opIsNotB := by
  refine ⟨⟨_, fun X _ a => op_notBl, fun H0 H ι m x y vx vy Q s rx ry k h => ?_⟩, fun x y m e v m' z => ?_⟩
  · unfold opIsNotB at h
    split at h
    · cases rx; cases ry
      exact ⟨_, _, rfl, rfl, h _ ι H Nxt.refl s (.bl _)⟩
    · exact h.elim
  · unfold opIsNotB at z
    split at z <;> cases z
end
end Mir

set_option maxHeartbeats 4000000
namespace Mir
open PySem L2
section
variable {W : Wd} {S : SCx}
/-- the first way, else the second one -/
def altE (a b : EM) : EM := fun env M => match a env M with
  | .no => b env M
  | r => r
theorem se_alt {e : Expr} {a b : EM} (h1 : SE W S e a) (h2 : SE W S e b) : SE W S e (altE a b) := SE.or h1 h2 fun env M => by
  unfold altE
  cases a env M <;> first | exact .inl rfl | exact .inr rfl
end
end Mir

set_option maxHeartbeats 4000000
namespace Mir
open PySem L2
section
variable {W : Wd} {S : SCx} {Wx : WX}
/-- d.get(k, x): x is made whole -/
def dget2E (o k : EM) (z : Env → M D) : EM := fun env => bindM (o env) fun x m => if isDic m x = true then bindM (k env) (fun y => bindM (z env) fun dz m' => match dget m' x y with
  | some (some d) => .ok (.d d) m'
  | some none => .ok (.d dz) m'
  | none => .no) m else .no
theorem se_get2 {o e f : Expr} {mo me : EM} {mz : Env → M D} {apos cpos : Pos} (ho : SE W S o mo) (he : SE W S e me) (hz : SD W S f mz) (hb : ∀ env, attributeBase o "get" env (eval o env) = eval o env := by intro _; rfl)
    (hf : ∀ env, ((backTo cpos (starEach [e, f] env)).all (fun x => !x.1) && (backToKw cpos (keywordEach [] env)).all (fun x => x.1.isSome) && decide (([e, f] : List Expr).length + ([] : List Keyword).length + (if ([] : List Keyword).isEmpty then 0 else 1) < 30)) = true := by intro _; rfl)
    (hl : (apos.endLine == cpos.line) = true := by rfl) (ht : ∀ env, backTo cpos (starEach [e, f] env) = [(false, eval e env), (false, eval f env)] := by intro _; rfl) : SE W S (.Call (.Attribute o "get" apos) [e, f] [] cpos) (dget2E mo me mz) := by
  obtain ⟨t, a, b⟩ := ho.ex
  obtain ⟨u, a2, b2⟩ := he.ex
  obtain ⟨uz, a3, b3⟩ := hz.ex
  refine ⟨fun Wx => tDGet2 (t Wx) (u Wx) (uz Wx), fun X Wx x => pe_dget2 (by have := x.units; omega) (a X Wx x) (a2 X Wx x) (a3 X Wx x) ⟨hb _, hf _, hl, ht _⟩, fun Wx σ H ι M env Q s re q => ?_⟩
  unfold dget2E at q
  rw [wpR_bind] at q
  refine b Wx σ H ι M env _ s re (wpR_mono q (fun x M1 h1 v ι1 H1 n1 s1 r1 => ?_) fun _ _ _ h => h)
  by_cases hc : isDic M1 x = true
  · rw [if_pos hc] at h1
    obtain ⟨p, rfl, hd⟩ := isDic_rep s1 r1 hc
    refine ⟨p, rfl, hd, ?_⟩
    rw [wpR_bind] at h1
    refine b2 Wx σ H1 ι1 M1 env _ s1 (re.mono n1) (wpR_mono h1 (fun y M2 h2 w ι2 H2 n2 s2 r2 => ?_) fun _ _ _ h => PostX.next n1 h)
    have n12 := n1.trans n2
    rw [wpR_bind] at h2
    refine b3 Wx σ H2 ι2 M2 env _ s2 (re.mono n12) (wpR_mono h2 (fun dz M3 h3 w3 ι3 H3 n3 s3 r3 => ?_) fun _ _ _ h => PostX.next n12 h)
    have n13 := n12.trans n3
    cases e : dget M3 x y with
    | none => rw [e] at h3; exact h3.elim
    | some o' =>
      obtain ⟨p', ov, ep, g, g1, g2⟩ := dget_rep s3 ((r1.mono n2).mono n3) ((r2.back n1).mono n3) e
      cases ep
      rw [e] at h3
      refine ⟨ov, g, ?_⟩
      cases o' with
      | none => rw [g2 rfl]; exact h3 _ ι3 H3 n13 s3 r3
      | some d => obtain ⟨v', rfl, rv⟩ := g1 d rfl; exact h3 _ ι3 H3 n13 s3 rv
  · rw [if_neg hc] at h1; exact h1.elim
/-- d.pop(k), k there -/
def dpopE (o k : EM) : EM := fun env => bindM (o env) fun x m => if isDic m x = true then bindM (k env) (fun y m' => match x, y with
  | .d (.ref n), .d y => match m'[n]? with
    | some (.dic kvs) => match keyD y with
      | some key => match getK kvs key with
        | some d => .ok (.d d) (m'.set n (.dic (delK kvs key)))
        | none => .no
      | none => .no
    | _ => .no
  | _, _ => .no) m else .no
theorem se_dpop {o e : Expr} {mo me : EM} {apos cpos : Pos} (ho : SE W S o mo) (he : SE W S e me) (hb : ∀ env, attributeBase o "pop" env (eval o env) = eval o env := by intro _; rfl)
    (hf : ∀ env, ((backTo cpos (starEach [e] env)).all (fun x => !x.1) && (backToKw cpos (keywordEach [] env)).all (fun x => x.1.isSome) && decide (([e] : List Expr).length + ([] : List Keyword).length + (if ([] : List Keyword).isEmpty then 0 else 1) < 30)) = true := by intro _; rfl)
    (hl : (apos.endLine == cpos.line) = true := by rfl) (ht : ∀ env, backTo cpos (starEach [e] env) = [(false, eval e env)] := by intro _; rfl) : SE W S (.Call (.Attribute o "pop" apos) [e] [] cpos) (dpopE mo me) := by
  obtain ⟨t, a, b⟩ := ho.ex
  obtain ⟨u, a2, b2⟩ := he.ex
  refine ⟨fun Wx => tDPop1 (t Wx) (u Wx), fun X Wx x => pe_dpop1 (a X Wx x) (a2 X Wx x) ⟨hb _, hf _, hl, ht _⟩, fun Wx σ H ι M env Q s re q => ?_⟩
  unfold dpopE at q
  rw [wpR_bind] at q
  refine b Wx σ H ι M env _ s re (wpR_mono q (fun x M1 h1 v ι1 H1 n1 s1 r1 => ?_) fun _ _ _ h => h)
  by_cases hc : isDic M1 x = true
  · rw [if_pos hc] at h1
    obtain ⟨p, rfl, hd⟩ := isDic_rep s1 r1 hc
    refine ⟨p, rfl, hd, ?_⟩
    rw [wpR_bind] at h1
    refine b2 Wx σ H1 ι1 M1 env _ s1 (re.mono n1) (wpR_mono h1 (fun y M2 h2 w ι2 H2 n2 s2 r2 => ?_) fun _ _ _ h => PostX.next n1 h)
    have n12 := n1.trans n2
    split at h2
    · rename_i n y
      split at h2
      · rename_i kvs hm
        split at h2
        · rename_i key hk
          split at h2
          · rename_i d hd'
            have r1' := r1.mono n2
            cases r1' with
            | ref hi =>
              obtain ⟨ks, hp, r⟩ := s2.obj _ _ _ hm hi
              obtain ⟨v, hv, rv⟩ := (r.getK (k := key)).1 d hd'
              have nx := Nxt.put (o := .dK (dropK ks key)) (List.mem_of_getElem? hi) hp (fun _ z => nomatch z) (fun _ _ z => nomatch z)
              exact ⟨ks, key, v, hp, keyD_rep (r2.back n1) hk, hv, h2 v ι2 _ (n12.trans nx) (s2.put hi hp (fun _ z => nomatch z) (fun _ _ z => nomatch z) ⟨_, upd_same, r.delK.mono nx⟩) (rv.mono nx)⟩
          · exact h2.elim
        · exact h2.elim
      · exact h2.elim
    · exact h2.elim
  · rw [if_neg hc] at h1; exact h1.elim
end
end Mir

set_option maxHeartbeats 4000000
namespace Mir
open PySem L2
section
variable {W : Wd} {S : SCx}
def altC (f g : List TV → M TV) : List TV → M TV := fun xs m => match f xs m with
  | .no => g xs m
  | r => r
theorem CallS.alt {u : Value} {f g : List TV → M TV} (h1 : CallS W S u f) (h2 : CallS W S u g) : CallS W S u (altC f g) := CallS.or h1 h2 fun xs m => by
  unfold altC
  cases f xs m <;> first | exact .inl rfl | exact .inr rfl
/-! len and list of a dict -/
def bLenD := on1 fun x m => match x with
  | .d (.ref n) => match m[n]? with
    | some (.dic kvs) => .ok (.d (.int kvs.length)) m
    | _ => .no
  | _ => .no
theorem b_lenD : CallS W S (.builtin "len") bLenD := by
  refine call1 (r := fun x H Q => ∃ a kvs, x = V.ref a ∧ H a = some (.dK kvs) ∧ Q (.int kvs.length) H) (fun _ _ => rfl) (fun x m e v m' z => by split at z <;> (try split at z) <;> cases z) (fun X _ a pins s σ H xs us Q I r h => ?_) fun H0 H ι m x v Q s r k h => ?_
  · obtain ⟨x, rfl, p, kvs, rfl, h, q⟩ := h
    exact call_lenD pins s σ H _ us Q I r ⟨p, kvs, rfl, h, q⟩
  · split at h
    · split at h
      · rename_i n _ kvs hm
        cases r with
        | ref hi =>
          obtain ⟨ks, hp, r⟩ := s.obj _ _ _ hm hi
          refine ⟨_, ks, rfl, hp, ?_⟩
          rw [← r.length]
          exact h _ ι H Nxt.refl s (Rep.int _)
      · exact h.elim
    · exact h.elim
def bLen2 := altC bLen bLenD
theorem b_len2 : CallS W S (.builtin "len") bLen2 := CallS.alt b_len b_lenD
def keyOf : Key → D
  | .inl i => .int i
  | .inr x => .str x
theorem rep_keys {H : Hp} {ι : List Addr} : ∀ {kvs : List (Key × D)} {ks : List (Key × V)}, kvs.map (·.1) = ks.map (·.1) → Reps W H ι (kvs.map fun kv => keyOf kv.1) (ks.map fun kv => kV kv.1)
  | [], [], _ => .nil
  | [], _ :: _, h => by simp at h
  | _ :: _, [], h => by simp at h
  | a :: as, b :: bs, h => by
    simp only [List.map_cons, List.cons.injEq] at h
    refine .cons ?_ (rep_keys h.2)
    obtain ⟨a1, a2⟩ := a
    obtain ⟨b1, b2⟩ := b
    have e : a1 = b1 := h.1
    subst e
    cases a1 with
    | inl i => exact Rep.int i
    | inr x => exact Rep.str x
def bListD := on1 fun x m => match x with
  | .d (.ref n) => match m[n]? with
    | some (.dic kvs) => .ok (.l (kvs.map fun kv => keyOf kv.1)) m
    | _ => .no
  | _ => .no
theorem b_listD (hc : S.hot = false := by rfl) : CallS W S (.type "list") bListD := by
  refine call1 (r := fun x H Q => ∃ a kvs, x = V.ref a ∧ H a = some (.dK kvs) ∧ ∀ q, H q = none → Q (.ref q) (upd H q (.lst (kvs.map fun kv => kV kv.1)))) (fun _ _ => rfl) (fun x m e v m' z => by split at z <;> (try split at z) <;> cases z) (fun X _ a pins s σ H xs us Q I r h => ?_) fun H0 H ι m x v Q s r k h => ?_
  · obtain ⟨x, rfl, p, kvs, rfl, h, q⟩ := h
    exact call_list_dK (a.calm hc) pins s σ H _ us Q I r ⟨p, kvs, rfl, h, q⟩
  · split at h
    · split at h
      · rename_i n _ kvs hm
        cases r with
        | ref hi =>
          obtain ⟨ks, hp, r⟩ := s.obj _ _ _ hm hi
          refine ⟨_, ks, rfl, hp, fun l hl => ?_⟩
          have n := Nxt.new (ι := ι) (o := .lst (ks.map fun kv => kV kv.1)) hl
          exact h _ ι _ n (s.new hl) ⟨l, _, rfl, upd_same, s.out hl, hl, rep_keys r.keys⟩
      · exact h.elim
    · exact h.elim
def bList2 := altC bList bListD
theorem b_list2 (hc : S.hot = false := by rfl) : CallS W S (.type "list") bList2 := CallS.alt b_list (b_listD hc)
end
end Mir

set_option maxHeartbeats 4000000
/-! str(x), sorted whole numbers, greatest and least of a list, things times a number, list(range(..)) -/
namespace Mir
open PySem L2
theorem line_eq' : sizeLine = 16777216 := sizeLine_eq
section
variable {W : Wd} {S : SCx} {Wx : WX}
/-! ### str(x) -/
def strOf : TV → Option D
  | .d (.int i) => if i.natAbs.log2 < 1920 then some (.str (toString i)) else none
  | .d (.bl k) => some (.str (if k then "True" else "False"))
  | .d (.str x) => some (.str x)
  | .d .non => some (.str "None")
  | _ => none
def bStr := on1 fun x => retI (strOf x)
theorem b_str : CallS W S (.type "str") bStr := by
  refine call1 (r := fun x H Q => (∃ i, x = .int i ∧ i.natAbs.log2 < 1920 ∧ Q (.str (toString i)) H) ∨ (∃ k, x = .bl k ∧ Q (.str (if k then "True" else "False")) H) ∨ (∃ z, x = .str z ∧ Q (.str z) H) ∨ (x = .non ∧ Q (.str "None") H)) (fun _ _ => rfl) (fun _ _ _ _ _ => retI_nx) (fun X _ a pins s σ H xs us Q I r h => ?_) fun H0 H ι m x v Q s r k h => ?_
  · obtain ⟨x, rfl, h⟩ := h
    rcases h with ⟨i, rfl, hz, q⟩ | ⟨k, rfl, q⟩ | ⟨z, rfl, q⟩ | ⟨rfl, q⟩
    · exact call_str_int pins s σ H _ us Q I r ⟨i, rfl, hz, q⟩
    · obtain ⟨u, rfl, r1⟩ := vals1 r
      cases r1
      exact PySem.P.str_of_bool ⟨.str _, H, I.tok _, ⟨_, rfl⟩, q⟩
    · obtain ⟨u, rfl, t, rfl⟩ := vals1 r
      exact PySem.P.str_of_str ⟨.str z, H, I, ⟨t, rfl⟩, q⟩
    · obtain ⟨u, rfl, r1⟩ := vals1 r
      cases r1
      exact PySem.P.str_of_none ⟨.str _, H, I.tok _, ⟨_, rfl⟩, q⟩
  · obtain ⟨d, e, q⟩ := retI_wp h
    unfold strOf at e
    split at e
    · split at e
      · rename_i hz
        cases e; cases r
        exact .inl ⟨_, rfl, hz, q _ ι H Nxt.refl s (Rep.str _)⟩
      · cases e
    · cases e; cases r
      exact .inr (.inl ⟨_, rfl, q _ ι H Nxt.refl s (Rep.str _)⟩)
    · cases e; cases r
      exact .inr (.inr (.inl ⟨_, rfl, q _ ι H Nxt.refl s (Rep.str _)⟩))
    · cases e; cases r
      exact .inr (.inr (.inr ⟨rfl, q _ ι H Nxt.refl s (Rep.str _)⟩))
    · cases e
/-! ### sorted(ints) -/
def insI (a : Int) : List Int → List Int
  | [] => [a]
  | b :: l => if a ≤ b then a :: b :: l else b :: insI a l
def sortI : List Int → List Int
  | [] => []
  | a :: l => insI a (sortI l)
theorem insI_perm (a : Int) : ∀ l : List Int, (insI a l).Perm (a :: l)
  | [] => List.Perm.refl _
  | b :: l => by
    unfold insI
    split
    · exact List.Perm.refl _
    · exact (List.Perm.cons b (insI_perm a l)).trans (List.Perm.swap a b l)
theorem sortI_perm : ∀ l : List Int, (sortI l).Perm l
  | [] => List.Perm.refl _
  | a :: l => (insI_perm a (sortI l)).trans (List.Perm.cons a (sortI_perm l))
theorem insI_sorted (a : Int) : ∀ l : List Int, l.Pairwise (· ≤ ·) → (insI a l).Pairwise (· ≤ ·)
  | [], _ => by simp [insI]
  | b :: l, h => by
    unfold insI
    rw [List.pairwise_cons] at h
    split
    · rename_i hab
      rw [List.pairwise_cons]
      refine ⟨fun x hx => ?_, List.pairwise_cons.2 h⟩
      rcases List.mem_cons.1 hx with rfl | hx
      · exact hab
      · exact Int.le_trans hab (h.1 x hx)
    · rename_i hab
      rw [List.pairwise_cons]
      refine ⟨fun x hx => ?_, insI_sorted a l h.2⟩
      rcases List.mem_cons.1 ((insI_perm a l).mem_iff.1 hx) with rfl | hx
      · omega
      · exact h.1 x hx
theorem sortI_sorted : ∀ l : List Int, (sortI l).Pairwise (· ≤ ·)
  | [] => List.Pairwise.nil
  | a :: l => insI_sorted a _ (sortI_sorted l)
def bSortI := on1 fun x m => match itsOf m x with
  | some ns => .ok (.l ((sortI ns).map D.int)) m
  | none => .no
theorem b_sortI : CallS W S (.builtin "sorted") bSortI := by
  refine call1 (r := fun x H Q => rSortedI W.K [x] H Q) (fun _ _ => rfl) (fun x m e v m' z => by split at z <;> cases z) (fun X _ a pins s σ H xs us Q I r h => ?_) fun H0 H ι m x v Q s r k h => ?_
  · obtain ⟨x, rfl, h⟩ := h
    rw [← a.K] at h
    exact cr_sortedI pins s σ H _ us Q I r h
  · split at h
    · rename_i ns e
      simp only [itsOf, Option.bind_eq_some_iff] at e
      obtain ⟨ds, e1, e2⟩ := e
      obtain ⟨p, vs, rfl, hp, r⟩ := listOf_rep s r e1
      rw [its_rep r e2] at hp
      refine ⟨p, ns, rfl, hp, fun ns' q hperm hsort hq => ?_⟩
      have e : ns' = sortI ns := PySem.W.ksm_same (hperm.trans (sortI_perm ns).symm) hsort (sortI_sorted ns)
      subst e
      have n := Nxt.new (ι := ι) (o := .lst ((sortI ns).map V.int)) hq
      exact h _ ι _ n (s.new hq) ⟨q, _, rfl, upd_same, s.out hq, hq, Reps.ints' _⟩
    · exact h.elim
/-! ### max, min of a list -/
def maxI : List Int → Option Int
  | [] => none
  | a :: l => some (l.foldl (fun x y => if x < y then y else x) a)
def minI : List Int → Option Int
  | [] => none
  | a :: l => some (l.foldl (fun x y => if y < x then y else x) a)
theorem foldMax (l : List Int) : ∀ a : Int, (l.foldl (fun x y => if x < y then y else x) a ∈ a :: l) ∧ ∀ y ∈ a :: l, y ≤ l.foldl (fun x y => if x < y then y else x) a := by
  induction l with
  | nil => intro a; simp
  | cons b l ih =>
    intro a
    have ⟨h1, h2⟩ := ih (if a < b then b else a)
    rw [List.foldl_cons]
    refine ⟨?_, fun y hy => ?_⟩
    · rcases List.mem_cons.1 h1 with h | h
      · rw [h]; split <;> simp
      · simp [h]
    · have h0 := h2 _ (List.mem_cons_self ..)
      rcases List.mem_cons.1 hy with rfl | hy
      · refine Int.le_trans ?_ h0; split <;> omega
      · rcases List.mem_cons.1 hy with rfl | hy
        · refine Int.le_trans ?_ h0; split <;> omega
        · exact h2 y (List.mem_cons_of_mem _ hy)
theorem foldMin (l : List Int) : ∀ a : Int, (l.foldl (fun x y => if y < x then y else x) a ∈ a :: l) ∧ ∀ y ∈ a :: l, l.foldl (fun x y => if y < x then y else x) a ≤ y := by
  induction l with
  | nil => intro a; simp
  | cons b l ih =>
    intro a
    have ⟨h1, h2⟩ := ih (if b < a then b else a)
    rw [List.foldl_cons]
    refine ⟨?_, fun y hy => ?_⟩
    · rcases List.mem_cons.1 h1 with h | h
      · rw [h]; split <;> simp
      · simp [h]
    · have h0 := h2 _ (List.mem_cons_self ..)
      rcases List.mem_cons.1 hy with rfl | hy
      · refine Int.le_trans h0 ?_; split <;> omega
      · rcases List.mem_cons.1 hy with rfl | hy
        · refine Int.le_trans h0 ?_; split <;> omega
        · exact h2 y (List.mem_cons_of_mem _ hy)
def bMaxL := on1 fun x m => retI (((itsOf m x).bind maxI).map .int) m
def bMinL := on1 fun x m => retI (((itsOf m x).bind minI).map .int) m
theorem b_maxL (hc : S.hot = false := by rfl) : CallS W S (.builtin "max") bMaxL := by
  refine call1 (r := fun x H Q => rMax W.K [x] H Q) (fun _ _ => rfl) (fun _ _ _ _ _ => retI_nx) (fun X _ a pins s σ H xs us Q I r h => ?_) fun H0 H ι m x v Q s r k h => ?_
  · obtain ⟨x, rfl, h⟩ := h
    rw [← a.K] at h
    exact cr_max (a.calm hc) pins s σ H _ us Q I r h
  · obtain ⟨d, e, q⟩ := retI_wp h
    simp only [Option.map_eq_some_iff, itsOf, Option.bind_eq_some_iff] at e
    obtain ⟨z, ⟨ns, ⟨ds, e1, e2⟩, e3⟩, rfl⟩ := e
    obtain ⟨p, vs, rfl, hp, r⟩ := listOf_rep s r e1
    rw [its_rep r e2] at hp
    cases ns with
    | nil => cases e3
    | cons a l =>
      cases e3
      obtain ⟨h1, h2⟩ := foldMax l a
      refine ⟨p, a :: l, rfl, hp, by simp, fun y hy hmax => ?_⟩
      have e : y = l.foldl (fun x y => if x < y then y else x) a := Int.le_antisymm (h2 y hy) (hmax _ h1)
      rw [e]
      exact q _ ι H Nxt.refl s (Rep.int _)
theorem b_minL (hc : S.hot = false := by rfl) : CallS W S (.builtin "min") bMinL := by
  refine call1 (r := fun x H Q => rMin W.K [x] H Q) (fun _ _ => rfl) (fun _ _ _ _ _ => retI_nx) (fun X _ a pins s σ H xs us Q I r h => ?_) fun H0 H ι m x v Q s r k h => ?_
  · obtain ⟨x, rfl, h⟩ := h
    rw [← a.K] at h
    exact cr_min (a.calm hc) pins s σ H _ us Q I r h
  · obtain ⟨d, e, q⟩ := retI_wp h
    simp only [Option.map_eq_some_iff, itsOf, Option.bind_eq_some_iff] at e
    obtain ⟨z, ⟨ns, ⟨ds, e1, e2⟩, e3⟩, rfl⟩ := e
    obtain ⟨p, vs, rfl, hp, r⟩ := listOf_rep s r e1
    rw [its_rep r e2] at hp
    cases ns with
    | nil => cases e3
    | cons a l =>
      cases e3
      obtain ⟨h1, h2⟩ := foldMin l a
      refine ⟨p, a :: l, rfl, hp, by simp, fun y hy hmin => ?_⟩
      have e : y = l.foldl (fun x y => if y < x then y else x) a := Int.le_antisymm (hmin _ h1) (h2 y hy)
      rw [e]
      exact q _ ι H Nxt.refl s (Rep.int _)
/-! ### x * n -/
def opRep (x y : TV) : M TV := fun m => match listOfM m x, y with
  | some xs, .d (.int k) => if -(2 ^ 63) ≤ k ∧ k < 2 ^ 63 ∧ xs.length * k.toNat ≤ sizeLine then .ok (.l (List.replicate k.toNat xs).flatten) m else .no
  | _, _ => .no
theorem Reps.flat {H : Hp} {ι : List Addr} {ds : List D} {vs : List V} (r : Reps W H ι ds vs) : ∀ n : Nat, Reps W H ι (List.replicate n ds).flatten (List.replicate n vs).flatten
  | 0 => .nil
  | n + 1 => by
    rw [List.replicate_succ, List.replicate_succ, List.flatten_cons, List.flatten_cons]
    exact r.append (Reps.flat r n)
theorem o_rep : OpS W S (binaryOp .Mult) opRep := by
  refine ⟨⟨rRep, fun X _ _ => op_rep, fun H0 H ι m x y vx vy Q s rx ry k h => ?_⟩, fun x y m e v m' z => ?_⟩
  · unfold opRep at h
    split at h
    · rename_i xs i hx
      split at h
      · rename_i hz
        obtain ⟨p, vs, rfl, hp, r1⟩ := listOfM_rep s rx hx
        cases ry
        refine ⟨p, i, vs, rfl, rfl, hp, hz.1, hz.2.1, by rw [← r1.length]; exact hz.2.2, fun a ha => ?_⟩
        have n := Nxt.new (ι := ι) (o := .lst (List.replicate i.toNat vs).flatten) ha
        exact h _ ι _ n (s.new ha) ⟨a, _, rfl, upd_same, s.out ha, ha, (r1.flat _).mono n⟩
      · exact h.elim
    · exact h.elim
  · unfold opRep at z
    split at z
    · split at z <;> cases z
    · cases z
def opRepS : TV → TV → M TV
  | .d (.str x), .d (.int k) => if 0 ≤ k ∧ k ≤ 1000 ∧ x.length ≤ 1000 then okM (.d (.str (Txt.mul x k))) else noM
  | _, _ => noM
theorem mulOk_small {x : Str} {k : Int} (h1 : 0 ≤ k) (h2 : k ≤ 1000) (h3 : x.length ≤ 1000) : MulOk x k := by
  refine ⟨by simp; omega, fun hk1 _ z => ?_, fun _ _ => ?_⟩
  · have hk : (9223372036854775807 : Int) / k ≥ 9223372036854775 := by
      refine Int.le_ediv_of_mul_le (by omega) ?_
      have : (9223372036854775 : Int) * k ≤ 9223372036854775 * 1000 := Int.mul_le_mul_of_nonneg_left h2 (by omega)
      omega
    have e : ((2 ^ 63 - 1 : Int)) = 9223372036854775807 := by decide
    rw [e] at z
    omega
  · have hm : x.length * k.toNat ≤ 1000 * 1000 := Nat.mul_le_mul h3 (by omega)
    unfold Builtin.Str.tooLong
    simp only [decide_eq_false_iff_not, line_eq']
    omega
theorem o_repS : OpS W S (binaryOp .Mult) opRepS := by
  refine ⟨⟨fun x y H Q => ∃ (z : Str) (k : Int), x = .str z ∧ y = .int k ∧ MulOk z k ∧ Q (.str (Txt.mul z k)) H, fun X _ a pins s σ H x y u v Q I rx ry h => ?_, fun H0 H ι m x y vx vy Q s rx ry k h => ?_⟩, fun x y m e v m' z => ?_⟩
  · obtain ⟨z, k, rfl, rfl, ok, q⟩ := h
    obtain ⟨t, rfl⟩ := rx
    obtain ⟨t2, rfl⟩ := ry
    exact PySem.SB.mul ok fun t' k' => ⟨.str _, H, I.tok _, ⟨_, rfl⟩, q⟩
  · unfold opRepS at h
    split at h
    · rename_i a k
      split at h
      · rename_i hz
        cases rx; cases ry
        exact ⟨_, _, rfl, rfl, mulOk_small hz.1 hz.2.1 hz.2.2, h _ ι H Nxt.refl s (Rep.str _)⟩
      · exact h.elim
    · exact h.elim
  · unfold opRepS at z
    split at z
    · split at z <;> cases z
    · cases z
def opMulX : TV → TV → M TV
  | .d (.int i), y => opMul (.d (.int i)) y
  | .d (.str x), y => opRepS (.d (.str x)) y
  | x, y => opRep x y
theorem o_mulX : OpS W S (binaryOp .Mult) opMulX := by
  refine OpS.or o_mul (OpS.or o_repS o_rep (f := fun x y m => match x with | .d (.str a) => opRepS (.d (.str a)) y m | x => opRep x y m) ?_) ?_
  · intro x y m; split
    · exact .inl rfl
    · exact .inr rfl
  · intro x y m
    unfold opMulX
    split
    · exact .inl rfl
    · exact .inr rfl
    · rename_i h1 h2
      refine .inr ?_
      split
      · exact absurd rfl (h2 _)
      · rfl
end
end Mir

set_option maxHeartbeats 4000000
/-! an exception that was caught, told as an object of the abstract heap; try with one clause that names it -/
namespace Mir
open PySem L2
def ExT (cls : Value) (d : Option Addr) (a : Addr) : HO := .ext fun h => ∃ (oe : Obj) (vs : Array Value), h.get? a = some oe ∧ Zc cls d oe ∧ oe.data = .fields vs
theorem exT_ok {P : Program} {w : World} {H : Hp} {h : Heap} {a : Addr} {cls : Value} {d : Option Addr} {oe : Obj} {vs : Array Value} (e : h.get? a = some oe) (z : Zc cls d oe) (f : oe.data = .fields vs) : ObjOk P w H h a (ExT cls d a) := by
  refine ⟨⟨oe, vs, e, z, f⟩, ⟨oe, e⟩, ?_⟩
  rintro _ _ ⟨o, v, q, r⟩ k
  exact ⟨o, v, k o q, r⟩
theorem exT_at {P : Program} {w : World} {H : Hp} {h : Heap} {a : Addr} {cls : Value} {d : Option Addr} (hok : HOk P w H h) (e : H a = some (ExT cls d a)) : ∃ (oe : Obj) (vs : Array Value), h.get? a = some oe ∧ Zc cls d oe ∧ oe.data = .fields vs := by
  have x : ObjOk P w H h a (ExT cls d a) := hok a _ e
  exact x.1
theorem kept_app {H : Hp} {a : Addr} {o : HO} (ha : H a = none) {b : Addr} {u : HO} (e : H b = some u) : upd H a o b = some u := by
  rw [upd_ne (ne_of_none e ha)]; exact e
section
variable {X : Cx} {pins : List (Addr × Obj)} {σ : L2.St} {H : Hp} {s sI : Shared}
/-- an object that came since the entry is told from now on -/
theorem track {a : Addr} {o : HO} (I : Inv X pins σ H s) (J : Inv X pins σ H sI) (ga : sI.heap.get? a = none) (ha : H a = none) (nL : a ≠ X.env.locals) (hx : X.ex = []) (new : ObjOk X.prog X.w (upd H a o) s.heap a o) : Inv X pins σ (upd H a o) s := by
  have n0 : X.s_0.heap.get? a = none := by
    cases e : X.s_0.heap.get? a with
    | none => rfl
    | some u =>
      obtain ⟨u', z⟩ := J.base.there a u e (by rw [hx]; exact fun z => nomatch z)
      rw [ga] at z; cases z
  have n1 : ∀ b u, X.s_0.heap.get? b = some u → b ≠ a := fun b u e z => by rw [z, n0] at e; cases e
  refine ⟨I.ok, I.os, I.bare, ⟨I.base.keep, I.base.slot, ?_, I.base.there, ?_, ?_, ?_⟩, I.loc, I.cell, ?_, ?_, ?_, ?_, I.len⟩
  · intro b u e n q
    rw [upd_ne (n1 b u e)]
    exact I.base.free b u e n q
  · exact fun b xs e => kept_app ha (I.base.tups b xs e)
  · exact fun b u v e => kept_app ha (I.base.frzs b u v e)
  · intro b ps e
    obtain ⟨more, z⟩ := I.base.tbls b ps e
    exact ⟨more, kept_app ha z⟩
  · rw [upd_ne (Ne.symm nL)]; exact I.free
  · intro x c e
    have hc : c ≠ a := by
      obtain ⟨v, oc, z, _⟩ := J.cell x c e
      rintro rfl
      rw [ga] at z; cases z
    rw [upd_ne hc]; exact I.freeC x c e
  · intro p hp
    obtain ⟨z1, z2, z3⟩ := I.pin p hp
    obtain ⟨y1, _⟩ := J.pin p hp
    refine ⟨z1, ?_, z3⟩
    rw [upd_ne (fun z => by rw [z, ga] at y1; cases y1)]
    exact z2
  · intro b u e
    by_cases hb : b = a
    · subst hb
      rw [upd_same] at e
      cases e
      exact new
    · rw [upd_ne hb] at e
      exact (I.hok b u e).stay (fun _ _ _ q => q) (fun _ q => kept_app ha q) fun _ _ q => kept_app ha q
/-- into an except suite, nothing pinned for it -/
theorem into_suite (I : Inv X pins σ H s) (a : Addr) : Inv (X.suite a (X.pn ++ pins)) [] σ H s :=
  ⟨I.ok.suite _ _, I.os, I.bare, I.base, I.loc, I.cell, I.free, I.freeC, fun p hp => I.pin p (by rwa [List.append_nil] at hp), I.hok, I.len⟩
theorem from_suite {a : Addr} {pn' : List (Addr × Obj)} (I : Inv (X.suite a (X.pn ++ pins)) pn' σ H s) (ok : X.Ok) : Inv X pins σ H s :=
  ⟨ok, I.os, I.bare, I.base, I.loc, I.cell, I.free, I.freeC, fun p hp => I.pin p (List.mem_append_left _ hp), I.hok, I.len⟩
end
/-- what the clause wishes of an exception: in the suite the slot i holds it, told -/
def wAsT (K : PySem.W.Frag) (c : Value) (i : Nat) (ts : TS) (Wout : WX) (D : Ends) : WX := fun cls d σ H => ∃ b, PySem.W.exmOne K cls c = some b ∧
  (b = true → ∀ a, H a = none → ts ⟨fun σ' H' => D.nx (σ'.set i none) H', D.rt, fun σ' H' => D.bk (σ'.set i none) H', fun σ' H' => D.ct (σ'.set i none) H'⟩ (σ.set i (some (.ref a))) (upd H a (ExT cls d a))) ∧ (b = false → Wout cls d σ H)
section
variable {X : Cx} {x n : Str} {c : Value} {i : Nat} {body suite : List Stmt} {b0 : Stmt} {np pos pos' : Pos} {tb : WX → TS} {ts : TS} {Wout : WX}
theorem ps_tryT (hex : X.ex = []) (hs : X.stack = X.env :: X.outer) (hf : X.env.frame = some X.env.locals) (hN : X.N.Nodup) (hi : X.N[i]? = some n) (hl : X.env.kindOf n = some .local) (hc : Names X x c) (tk : Takes X Wout)
    (hb : ∀ (W : WX) (pn : List (Addr × Obj)) (xe : Value → Shared → Prop), Takes (X.tr pn xe) W → PassesOwn (model X.prog X.w) X.A X.env xe → PSs (X.tr pn xe) body (tb W))
    (hsu : ∀ (a : Addr) (pn : List (Addr × Obj)), PSs (X.suite a pn) (b0 :: suite) ts) :
    PS X (.Try body [.ExceptHandler (some (.Name x np)) (some n) (b0 :: suite) pos'] [] [] pos) (fun D σ H => tb (wAsT X.K c i ts Wout D) D σ H) := by
  constructor
  intro pins s σ H D I h
  have ok := I.ok
  have hfr : X.A.frames = some (X.env :: X.outer) := by rw [ok.frames, hs]
  refine wpAny_Try_except (wpAny_mono ((hb (wAsT X.K c i ts Wout D) (X.pn ++ pins) _ ?_ PassesOwn.looking).run [] s σ H D (I.toTry _) h) ?_ fun _ _ z => z)
  · rintro u s' ⟨a, B, sI, pins', σ', H', cls, d, rfl, J', nb, up, sky, na, os, ag, b, hb1, yes, no⟩
    have J : Inv X pins σ' H' sI := J'.ofTry ok
    rw [show (X.tr (X.pn ++ pins) _).stack = X.env :: X.outer from hs] at sky
    refine Sky.land Zc.steady hfr hf sky ?_
    intro h3 fl3 up3
    have up03 := up.trans up3
    have J3 : Inv X pins σ' H' { s' with heap := h3 } := J.landed nb fl3.1 up03 os ag
    obtain ⟨oe3, vs3, he3, hz3, hd3⟩ := fl3.there
    have nfr : a ∉ frs (X.env :: X.outer) := by
      intro hm
      obtain ⟨_, o', e', hnf⟩ := fl3.2.2.1.mem hm
      rw [he3] at e'; cases e'
      exact hnf _ hd3
    have gB : B.get? a = none := fl3.2.1
    have gI : sI.heap.get? a = none := by
      cases e : sI.heap.get? a with
      | none => rfl
      | some o =>
        have := nb a o e (by rw [show (X.tr (X.pn ++ pins) _).stack = X.env :: X.outer from hs]; exact nfr)
        rw [gB] at this; cases this
    have nL : a ≠ X.env.locals := fun z => nfr (List.mem_filterMap.mpr ⟨X.env, List.mem_cons_self, by rw [hf, z]⟩)
    have nF : a ∉ X.fs := fun hm => by
      obtain ⟨e, he, q⟩ := List.mem_filterMap.mp hm
      exact nfr (List.mem_filterMap.mpr ⟨e, List.mem_cons_of_mem _ he, q⟩)
    have S3 := into_suite J3 a
    refine wpAny_handleBy_cons (codeAny_handlers_test ?_) (by intro q; cases q)
    have LT : PySem.W.Looks (model X.prog X.w) h3 (typeOf (.ref a)) cls := fun A Q E s k q => wpAny_typeOf_ref (k _ _ he3) (by rw [hz3.1]; exact q)
    have LM := PySem.W.exm_one (M := model X.prog X.w) J3.kIn LT hb1
    have named : ∀ {Q E : Value → Shared → Prop}, Q c { s' with heap := h3 } → wpAny (model X.prog X.w) (X.A.mark (some (.ref a))) (eval (.Name x np) X.env) Q E { s' with heap := h3 } := by
      intro Q E q
      obtain ⟨hg, hdb, hm | ⟨hm, hv, hnn⟩⟩ := hc
      · exact ld_glob (X := X.suite a (X.pn ++ pins)) S3 hg hm q hdb
      · exact ld_blt (X := X.suite a (X.pn ++ pins)) S3 hg hm hv q hnn hdb
    refine named (LM.here ?_)
    cases b with
    | false =>
      show wpAny _ X.A (handleBy (.ref a) X.env []) _ _ _
      refine wpAny_handleBy_nil ?_
      obtain ⟨_, _, _, oe, vs, T, oT, ts', he, hz, hd, h1, hr⟩ := id fl3
      unfold PySem.passOn
      refine wpAny_bind (wpAny_field he hd h1 ?_)
      rw [if_neg (by simp)]
      have fin : wpAny (model X.prog X.w) X.A (setFlight (.ref a) X.env.frame) (fun _ s4 => wpAny (model X.prog X.w) X.A (throw (.ref a) : Sem Flow) (SP X pins D) X.xe s4) X.xe { s' with heap := h3 } := by
        rw [hf]
        refine HandSPX.setFlight_upZ fl3 fun h4 hh4 up4 => wpAny_throw (tk _ _ ?_)
        refine ⟨a, B, sI, pins, σ', H', cls, d, rfl, J, nb, up03.trans up4, .inr (.inr ?_), na, os, ag, no rfl⟩
        rw [hs]; exact hh4
      first
      | exact wpAny_bind (wpAny_pure (wpAny_bind fin))
      | exact wpAny_bind fin
    | true =>
      refine codeAny_handlers_suite_as (HandSPX.lands_againZ fl3 ?_)
      intro h4 fl4 up4
      have J4 : Inv X pins σ' H' { s' with heap := h4 } := J.landed nb fl4.1 (up03.trans up4) os ag
      obtain ⟨oe4, vs4, he4, hz4, hd4⟩ := fl4.there
      have T4 : Inv X pins σ' (upd H' a (ExT cls d a)) { s' with heap := h4 } := track J4 J gI na nL hex (exT_ok he4 hz4 hd4)
      refine store_ok (X := X.suite a (X.pn ++ pins)) (v := .ref a) (into_suite T4 a) hN hi (.inl hl) rfl ?_ (.inr hl)
      intro s5 S5
      refine wpAny_mono ((hsu a (X.pn ++ pins)).run [] s5 _ _ _ S5 (yes rfl a na)) ?_ fun _ _ z => z.elim
      intro f s6 hsp
      have gone : ∀ {σ6 : L2.St} {H6 : Hp} {Q : Shared → Prop}, Inv (X.suite a (X.pn ++ pins)) [] σ6 H6 s6 → (∀ s7, Inv X pins (σ6.set i none) H6 s7 → Q s7) →
          wpAny (model X.prog X.w) X.A (do bindName X.env n .none; unbindBehindTheSuite X.env n pos') (fun _ s7 => Q s7) X.xe s6 := fun S6 hq => gone_ok (from_suite S6 ok) hN hi hl hq
      cases f with
      | next =>
        obtain ⟨σ6, H6, S6, q6⟩ := hsp
        exact gone S6 fun s7 J7 => ⟨_, _, J7, q6⟩
      | brk =>
        obtain ⟨σ6, H6, S6, q6⟩ := hsp
        exact gone S6 fun s7 J7 => ⟨_, _, J7, q6⟩
      | cont =>
        obtain ⟨σ6, H6, S6, q6⟩ := hsp
        exact gone S6 fun s7 J7 => ⟨_, _, J7, q6⟩
      | ret u =>
        obtain ⟨v6, σ6, H6, S6, r6, q6⟩ := hsp
        exact gone S6 fun s7 J7 => ⟨_, _, _, J7, r6, q6⟩
  · intro f s1 hsp
    cases f with
    | next =>
      obtain ⟨σ', H', J', q⟩ := hsp
      exact wpAny_execs_nil ⟨σ', H', J'.ofTry ok, q⟩
    | brk =>
      obtain ⟨σ', H', J', q⟩ := hsp
      exact ⟨σ', H', J'.ofTry ok, q⟩
    | cont =>
      obtain ⟨σ', H', J', q⟩ := hsp
      exact ⟨σ', H', J'.ofTry ok, q⟩
    | ret u =>
      obtain ⟨v, σ', H', J', r, q⟩ := hsp
      exact ⟨v, σ', H', J'.ofTry ok, r, q⟩
end
end Mir

set_option maxHeartbeats 4000000
/-! exceptions: try, raise, isinstance of one that was caught, its field -/
namespace Mir
open PySem L2
def opX (cA : Nat → Addr) (c : Nat) (a : Addr) (o : HO) (L : List (Addr × HO)) (gs : List (Str × V)) : Prop := ∃ d, o = ExT (.ref (cA c)) d a ∧ ((gs = [] ∧ d = none ∧ L = []) ∨ ∃ p, d = some p ∧ L = [(p, .xd gs)])
theorem sat_ext (cls : Value) (d : Option Addr) (a : Addr) : Sat (ExT cls d a) := fun z => by
  obtain ⟨b, hb⟩ := z
  let oe : Obj := { cls := cls, dict := d, data := .fields #[] }
  have key : ∀ c o, (Heap.get? ⟨Array.replicate (a + 1) oe, default⟩ c) = some o → o = oe := fun c o e => by
    unfold Heap.get? at e
    cases hq : (Array.replicate (a + 1) oe)[c]? with
    | none => rw [hq] at e; cases e
    | some q =>
      have hq' : q = oe := by
        rw [Array.getElem?_replicate] at hq
        split at hq
        · exact (Option.some.inj hq).symm
        · cases hq
      rw [hq, hq'] at e
      exact (Option.some.inj e).symm
  have at_ : Heap.get? ⟨Array.replicate (a + 1) oe, default⟩ a = some oe := by
    unfold Heap.get?
    rw [Array.getElem?_replicate, if_pos (by omega)]
  obtain ⟨o, es, ep, h1, h2⟩ := hb _ ⟨oe, #[], at_, ⟨rfl, rfl⟩, rfl⟩
  rw [key b o h1] at h2
  cases h2
theorem sat_xd (gs : List (Str × V)) : Sat (.xd gs) := trivial
def XOp (W : Wd) : Prop := ∀ c a o L gs, c < 1000 → (W.op c a o L gs ↔ opX W.cA c a o L gs)
section
variable {W : Wd} {S : SCx} {Wx : WX}
theorem Sim.caught {ι : List Addr} {m : Mem} {H : Hp} {x : Ex} {cls : Value} {d : Option Addr} {a : Addr} (xo : XOp W) (hc : x.c < 1000) (s : Sim W ι m H) (ha : H a = none) (r : RepX W H ι x cls d) :
    Sim W (ι ++ [a]) (m ++ [.opq x.c x.fs]) (upd H a (ExT cls d a)) := by
  obtain ⟨rfl, r⟩ := r
  refine s.add ha ?_
  have n := Nxt.add (ι := ι) (o := ExT (.ref (W.cA x.c)) d a) ha
  rcases r with ⟨e1, e2⟩ | ⟨p, gs, e, hp, rf⟩
  · refine ⟨ExT (.ref (W.cA x.c)) d a, [], [], upd_same, sat_ext _ _ _, (fun q hq => by cases hq), (xo _ _ _ _ _ hc).2 ⟨d, rfl, .inl ⟨rfl, e2, rfl⟩⟩, ?_⟩
    rw [e1]; exact .nil
  · refine ⟨ExT (.ref (W.cA x.c)) d a, [(p, .xd gs)], gs, upd_same, sat_ext _ _ _, fun q hq => ?_, (xo _ _ _ _ _ hc).2 ⟨d, rfl, .inr ⟨p, e, rfl⟩⟩, rf.mono n⟩
    rw [List.mem_singleton] at hq
    subst hq
    exact ⟨sat_xd _, n.sats _ _ (sat_xd _) hp⟩
theorem mem_lookup {tab : List (Nat × Bool)} {c : Nat} {b : Bool} (h : tab.lookup c = some b) : (c, b) ∈ tab := by
  induction tab with
  | nil => cases h
  | cons q l ih =>
    obtain ⟨k, v⟩ := q
    rw [List.lookup_cons] at h
    cases e : c == k with
    | true =>
      rw [e] at h
      cases h
      have : c = k := by simpa using e
      rw [this]
      exact List.mem_cons_self ..
    | false =>
      rw [e] at h
      exact List.mem_cons_of_mem _ (ih h)
/-! ### try -/
def goneF (i : Nat) : Fl → Fl
  | .nxt e => .nxt (e.set i none)
  | .brk e => .brk (e.set i none)
  | .cnt e => .cnt (e.set i none)
  | .ret d => .ret d
def tryS (tab : List (Nat × Bool)) (i : Nat) (b h : SMs) : SMs := fun env m => match b env m with
  | .exc x e m' => (match tab.lookup x.c with
    | some true => (match h (e.set i (some (.ref m'.length))) (m' ++ [.opq x.c x.fs]) with
      | .ok fl m2 => .ok (goneF i fl) m2
      | _ => .no)
    | some false => .exc x e m'
    | none => .no)
  | r => r
/-- a class by its name: of the module, or built in -/
def ClsOk (W : Wd) (x : Str) (c : Value) : Prop := W.mg x = some c ∨ (W.mg x = none ∧ bootBuiltins x = some c ∧ x ≠ "__name__")
def ExmOk (W : Wd) (cv : Value) (tab : List (Nat × Bool)) : Prop := ∀ q ∈ tab, q.1 < 1000 ∧ PySem.W.exmOne W.K (.ref (W.cA q.1)) cv = some q.2
theorem ss_try {x n : Str} {cv : Value} {tab : List (Nat × Bool)} {body suite : List Stmt} {b0 : Stmt} {mb mh : SMs} {np pos pos' : Pos} (i : Nat) (xo : XOp W) (co : ClsOk W x cv) (eo : ExmOk W cv tab) (hb : SB W S body mb) (hh : SB W ⟨S.N, S.sc, S.fn, S.k, true⟩ (b0 :: suite) mh)
    (hN : S.N[i]? = some n := by rfl) (hl : S.sc.names.lookup n = some .local := by rfl) (hg : S.sc.names.lookup x = some .globalImplicit := by rfl) (hdb : (x == ("__debug__" : Str)) = false := by decide +kernel) :
    SS W S (.Try body [.ExceptHandler (some (.Name x np)) (some n) (b0 :: suite) pos'] [] [] pos) (tryS tab i mb mh) := by
  obtain ⟨t, a1, b1⟩ := hb.ex
  obtain ⟨u, a2, b2⟩ := hh.ex
  refine ⟨fun Wx D σ H => t (wAsT W.K cv i (u (fun _ _ _ _ => False)) Wx D) D σ H, fun X Wx y => ?_, fun Wx σ H ι M env D s re h => ?_⟩
  · have nm : Names X x cv := by
      refine ⟨y.gl hg, hdb, ?_⟩
      rw [y.mg]; exact co
    have q := ps_tryT (X := X) (b0 := b0) (suite := suite) (body := body) (np := np) (pos := pos) (pos' := pos') (tb := t) (ts := u (fun _ _ _ _ => False)) (Wout := Wx) y.ex0 y.stk y.frm y.nd (by rw [y.N]; exact hN) (by show X.env.scope.names.lookup n = _; rw [y.sc]; exact hl) nm y.tk
      (fun W' pn xe tk own => a1 (X.tr pn xe) W' ⟨⟨y.prog, y.w, y.K, y.mg, y.base, y.N, y.sc, y.fn, y.nd, y.room, y.units, y.calm, tk⟩, own, y.ex0, y.stk, y.frm⟩)
      (fun a pn => a2 (X.suite a pn) _ ⟨⟨y.prog, y.w, y.K, y.mg, y.base, y.N, y.sc, y.fn, y.nd, (fun z => by cases z), y.units, (fun z => by cases z), takes0⟩, PassesOwn.never, y.ex0, y.stk, y.frm⟩)
    rw [y.K] at q
    exact q
  · unfold tryS at h
    cases e : mb env M with
    | ok fl m' =>
      rw [e] at h
      exact b1 _ σ H ι M env D s re (by rw [e]; exact h)
    | no => rw [e] at h; exact h.elim
    | exc x' e' m' =>
      rw [e] at h
      refine b1 _ σ H ι M env D s re ?_
      rw [e]
      intro cls d σ' ι' H' n' s' re' rx
      cases el : tab.lookup x'.c with
      | none => simp only [el] at h; exact h.elim
      | some b =>
        obtain ⟨hc, hm⟩ := eo _ (mem_lookup el)
        have ec := rx.1
        simp only [el] at h
        cases b with
        | false => exact ⟨false, by rw [ec]; exact hm, (fun z => by cases z), fun _ => h cls d σ' ι' H' n' s' re' rx⟩
        | true =>
          refine ⟨true, by rw [ec]; exact hm, fun _ a ha => ?_, (fun z => by cases z)⟩
          have n2 := Nxt.add (ι := ι') (o := ExT cls d a) ha
          have s2 := s'.caught xo hc ha rx
          have hlast : (ι' ++ [a])[m'.length]? = some a := by rw [← s'.len, List.getElem?_append_right (Nat.le_refl _)]; simp
          refine b2 (fun _ _ _ _ => False) _ _ (ι' ++ [a]) (m' ++ [.opq x'.c x'.fs]) (e'.set i (some (.ref m'.length))) _ s2 ((re'.mono n2).set (.ref hlast) i) ?_
          dsimp only at h
          cases eh : mh (e'.set i (some (.ref m'.length))) (m' ++ [.opq x'.c x'.fs]) with
          | exc _ _ _ => rw [eh] at h; exact h.elim
          | no => rw [eh] at h; exact h.elim
          | ok fl m2 =>
            rw [eh] at h
            have nn := n'.trans n2
            cases fl with
            | nxt e => exact fun σ3 ι3 H3 n3 s3 re3 => h _ ι3 H3 (nn.trans n3) s3 (re3.del i)
            | brk e => exact fun σ3 ι3 H3 n3 s3 re3 => h _ ι3 H3 (nn.trans n3) s3 (re3.del i)
            | cnt e => exact fun σ3 ι3 H3 n3 s3 re3 => h _ ι3 H3 (nn.trans n3) s3 (re3.del i)
            | ret v => exact fun v3 ι3 H3 n3 s3 r3 => h v3 ι3 H3 (nn.trans n3) s3 r3
/-! ### isinstance of one that was caught -/
def dictTold (H : Hp) (d : Option Addr) : Prop := d = none ∨ ∃ p gs, d = some p ∧ H p = some (.xd gs)
theorem kit_X {X : Cx} {pins : List (Addr × Obj)} {σ : L2.St} {H : Hp} {s : Shared} {a D : Addr} {d : Option Addr} (I : Inv X pins σ H s) (ha : H a = some (ExT (.ref D) d a)) (hd : dictTold H d) (C : L2.ExcC X.K D) : ∃ P : Heap → Prop, PySem.W.KitX X.K (.ref a) (.ref D) P ∧ P s.heap := by
  obtain ⟨oe, vs, he, hz, hf⟩ := exT_at I.hok ha
  have hcl : (PySem.W.clsIn X.K D).isSome = true := by
    obtain ⟨cd, hc, _⟩ := PySem.W.any_some C.hd
    rw [hc]; rfl
  obtain ⟨oc, od, oda, osl⟩ := oe
  obtain ⟨h1, h2⟩ := hz
  dsimp only at h1 h2 hf
  subst h1 h2 hf
  rcases hd with rfl | ⟨p, gs, rfl, hp⟩
  · exact ⟨_, PySem.W.kitx_exc (od := none) hcl C.hg C.hk C.hs C.ha C.hn C.ht C.hm, he, rfl, rfl, trivial⟩
  · have hx : ObjOk X.prog X.w H s.heap p (.xd gs) := I.hok p _ hp
    obtain ⟨mA, hns, hr⟩ := hx
    obtain ⟨od, ho, hl⟩ := lookIn_ns hns
    exact ⟨_, PySem.W.kitx_exc (od := some od) hcl C.hg C.hk C.hs C.ha C.hn C.ht C.hm, he, rfl, rfl, ho⟩
def rIsX (K : PySem.W.Frag) : List V → Hp → VK → Prop := fun xs H Q => ∃ (a D : Addr) (d : Option Addr) (c : V) (u : Value) (b : Bool), xs = [.ref a, c] ∧ ClsV c u ∧ H a = some (ExT (.ref D) d a) ∧ dictTold H d ∧ L2.ExcC K D ∧ PySem.W.kitOne K (.ref D) u = some b ∧ Q (.bl b) H
def rIsXT (K : PySem.W.Frag) : List V → Hp → VK → Prop := fun xs H Q => ∃ (a D tp : Addr) (d : Option Addr) (cs : List V) (us : List Value) (b : Bool), xs = [.ref a, .ref tp] ∧ H tp = some (.tup cs) ∧ Paired ClsV cs us ∧ H a = some (ExT (.ref D) d a) ∧ dictTold H d ∧ L2.ExcC K D ∧ PySem.W.kitAny K (.ref D) us = some b ∧ Q (.bl b) H
theorem call_isX {X : Cx} : CallR X (.builtin "isinstance") (rIsX X.K) := by
  intro pins s σ H xs us Q I r h
  obtain ⟨a, D, d, c, u, b, rfl, k, ha, hd, C, e, q⟩ := h
  obtain ⟨u1, u2, rfl, r1, r2⟩ := vals2 r
  have e2 := k.eq r2
  subst e2
  cases (show u1 = Value.ref a from r1)
  obtain ⟨P, Z, p⟩ := kit_X I ha hd C
  exact PySem.W.kia_one Z I.kIn p e (fun z => nomatch z) fun tk => ⟨.bl b, H, I.tok tk, rfl, q⟩
theorem call_isXT {X : Cx} : CallR X (.builtin "isinstance") (rIsXT X.K) := by
  intro pins s σ H xs us Q I r h
  obtain ⟨a, D, tp, d, cs, ws, b, rfl, hT, k, ha, hd, C, e, q⟩ := h
  obtain ⟨u1, u2, rfl, r1, r2⟩ := vals2 r
  cases (show u1 = Value.ref a from r1)
  cases (show u2 = Value.ref tp from r2)
  obtain ⟨P, Z, p⟩ := kit_X I ha hd C
  obtain ⟨_, its, rv, o, h1, h2, n, h3⟩ := (show ObjOk X.prog X.w H s.heap tp (.tup cs) from I.hok tp _ hT)
  have e3 := ClsV.all k rv
  subst e3
  obtain ⟨oc, od, dt, sl⟩ := o
  simp only at h2 h3
  subst h2 h3
  exact PySem.W.kia_tup Z I.kIn p h1 e (fun z => nomatch z) fun tk => ⟨.bl b, H, I.tok tk, rfl, q⟩
def isXM (tab : List (Nat × Bool)) (x : TV) : M TV := fun m => match x with
  | .d (.ref n) => (match m[n]? with
    | some (.opq c _) => (match tab.lookup c with
      | some b => .ok (.d (.bl b)) m
      | none => .no)
    | _ => .no)
  | _ => .no
def isXE (tab : List (Nat × Bool)) (a : EM) : EM := fun env => bindM (a env) (isXM tab)
theorem isXM_wp {tab : List (Nat × Bool)} {x : TV} {m : Mem} {q : TV → Mem → Prop} {xx : Ex → Env → Mem → Prop} (h : wpR (isXM tab x m) q xx) : ∃ n c fs b, x = .d (.ref n) ∧ m[n]? = some (.opq c fs) ∧ (c, b) ∈ tab ∧ q (.d (.bl b)) m := by
  unfold isXM at h
  split at h
  · split at h
    · split at h
      · rename_i n _ c fs hm _ b hb
        exact ⟨n, c, fs, b, rfl, hm, mem_lookup hb, h⟩
      · exact h.elim
    · exact h.elim
  · exact h.elim
theorem opq_told {H0 H : Hp} {ι : List Addr} {m : Mem} {n c : Nat} {fs : List (Str × D)} {v : V} (xo : XOp W) (hc : c < 1000) (s : Sim W ι m H) (hm : m[n]? = some (.opq c fs)) (r : RepT W H0 H ι (.d (.ref n)) v) :
    ∃ a d gs, v = .ref a ∧ H a = some (ExT (.ref (W.cA c)) d a) ∧ dictTold H d ∧ RepF W H ι fs gs ∧ ((gs = [] ∧ d = none) ∨ ∃ p, d = some p ∧ H p = some (.xd gs)) := by
  cases r with
  | ref hi =>
    obtain ⟨o, L, gs, ha, hs, hL, k, rf⟩ := s.obj _ _ _ hm hi
    obtain ⟨d, rfl, z⟩ := (xo _ _ _ _ _ hc).1 k
    rcases z with ⟨e1, e2, e3⟩ | ⟨p, e1, e2⟩
    · exact ⟨_, d, gs, rfl, ha, .inl e2, rf, .inl ⟨e1, e2⟩⟩
    · have hp := (hL (p, .xd gs) (by rw [e2]; simp)).2
      exact ⟨_, d, gs, rfl, ha, .inr ⟨p, gs, e1, hp⟩, rf, .inr ⟨p, e1, hp⟩⟩
def IsiOk (W : Wd) (cv : Value) (tab : List (Nat × Bool)) : Prop := ∀ q ∈ tab, q.1 < 1000 ∧ L2.ExcC W.K (W.cA q.1) ∧ PySem.W.kitOne W.K (.ref (W.cA q.1)) cv = some q.2
def IsiOkT (W : Wd) (us : List Value) (tab : List (Nat × Bool)) : Prop := ∀ q ∈ tab, q.1 < 1000 ∧ L2.ExcC W.K (W.cA q.1) ∧ PySem.W.kitAny W.K (.ref (W.cA q.1)) us = some q.2
/-- a class named in an argument -/
structure CN (W : Wd) (S : SCx) (e : Expr) (c : V) (u : Value) : Prop where
  pe : ∀ X Wx, At W S X Wx → PE X e (tC c)
  cv : ClsV c u
theorem cn_own {x : Str} {C : Addr} {pos : Pos} (hm : W.mg x = some (.ref C)) (hg : S.sc.names.lookup x = some .globalImplicit := by rfl) (hd : (x == ("__debug__" : Str)) = false := by decide +kernel) : CN W S (.Name x pos) (.ref C) (.ref C) :=
  ⟨fun X Wx a => pe_glob (a.gl hg) (by rw [a.mg]; exact hm) rfl hd, .own C⟩
theorem cn_bltn {x : Str} {T : String} {pos : Pos} (hm : W.mg x = none) (hv : bootBuiltins x = some (.type T)) (hg : S.sc.names.lookup x = some .globalImplicit := by rfl) (hn : x ≠ "__name__" := by decide +kernel) (hd : (x == ("__debug__" : Str)) = false := by decide +kernel) : CN W S (.Name x pos) (.ty T) (.type T) :=
  ⟨fun X Wx a => pe_bltn (a.gl hg) (by rw [a.mg]; exact hm) hv rfl hn hd, .ty T⟩
structure CNs (W : Wd) (S : SCx) (es : List Expr) (cs : List V) (us : List Value) : Prop where
  pa : ∃ t : TA, (∀ X Wx, At W S X Wx → PA X es t) ∧ ∀ (σ : L2.St) (H : Hp) (Q : List V → Hp → Prop), Q cs H → t σ H Q
  cv : Paired ClsV cs us
theorem cns_nil : CNs W S [] [] [] := ⟨⟨tNil, fun _ _ _ => pa_nil, fun _ _ _ h => h⟩, .nil⟩
theorem cns_cons {e : Expr} {es : List Expr} {c : V} {u : Value} {cs : List V} {us : List Value} (h : CN W S e c u) (hr : CNs W S es cs us) (hs : ∀ env, starEach (e :: es) env = (false, eval e env) :: starEach es env := by intro _; rfl) : CNs W S (e :: es) (c :: cs) (u :: us) := by
  obtain ⟨⟨t, a, b⟩, k⟩ := hr
  exact ⟨⟨tCons (tC c) t, fun X Wx x => pa_cons (h.pe X Wx x) (a X Wx x) (hs _), fun σ H Q q => b σ H _ q⟩, .cons h.cv k⟩
theorem se_isX {e e2 : Expr} {m : EM} {c : V} {u : Value} {tab : List (Nat × Bool)} {p pos : Pos} (hm : W.mg "isinstance" = none) (xo : XOp W) (io : IsiOk W u tab) (hc : CN W S e2 c u) (h : SE W S e m) (hg : S.sc.names.lookup ("isinstance" : Str) = some .globalImplicit := by rfl)
    (hs : ∀ env, starEach [e, e2] env = (false, eval e env) :: starEach [e2] env := by intro _; rfl) (hs2 : ∀ env, starEach [e2] env = (false, eval e2 env) :: starEach [] env := by intro _; rfl) (hpl : ∀ env pos, (backTo pos (starEach [e2] env)).any (·.1) = false := by intro _ _; rfl) :
    SE W S (.Call (.Name "isinstance" p) [e, e2] [] pos) (isXE tab m) := by
  obtain ⟨t, a, b⟩ := h.ex
  refine ⟨fun Wx => tCB (rIsX W.K) (tCons (t Wx) (tCons (tC c) tNil)), fun X Wx x => ?_, fun Wx σ H ι M env Q s r q => ?_⟩
  · rw [← x.K]
    exact pe_callB call_isX (x.gl hg) (by rw [x.mg]; exact hm) PyProof.Rows.boot_isinstance (pa_cons (a X Wx x) (pa_cons (hc.pe X Wx x) pa_nil (hs2 _)) (hs _)) (by decide) (by decide) (hs _) (hpl _ _)
  · unfold isXE at q
    rw [wpR_bind] at q
    refine b Wx σ H ι M env _ s r (wpR_mono q (fun x M1 h1 v ι1 H1 n1 s1 r1 => ?_) fun _ _ _ h => h)
    obtain ⟨n, c', fs, k, rfl, hm1, hk, q⟩ := isXM_wp h1
    obtain ⟨hc0, C, ek⟩ := io _ hk
    obtain ⟨a', d, gs, rfl, ha, hd, _, _⟩ := opq_told xo hc0 s1 hm1 r1
    exact ⟨a', _, d, c, u, k, rfl, hc.cv, ha, hd, C, ek, q _ ι1 H1 n1 s1 (Rep.bl _)⟩
theorem se_isXT {e : Expr} {es : List Expr} {m : EM} {cs : List V} {us : List Value} {tab : List (Nat × Bool)} {kk : Nat} {p pos p2 : Pos} (hm : W.mg "isinstance" = none) (xo : XOp W) (io : IsiOkT W us tab) (hc : CNs W S es cs us) (h : SE W S e m) (hz : cs.length ≤ 1000 := by simp) (hg : S.sc.names.lookup ("isinstance" : Str) = some .globalImplicit := by rfl)
    (hs : ∀ env, starEach [e, .Tuple es kk p2] env = (false, eval e env) :: starEach [.Tuple es kk p2] env := by intro _; rfl) :
    SE W S (.Call (.Name "isinstance" p) [e, .Tuple es kk p2] [] pos) (isXE tab m) := by
  obtain ⟨t, a, b⟩ := h.ex
  obtain ⟨⟨u, a1, b1⟩, k1⟩ := hc
  refine ⟨fun Wx => tCB (rIsXT W.K) (tCons (t Wx) (tCons (tTup u) tNil)), fun X Wx x => ?_, fun Wx σ H ι M env Q s r q => ?_⟩
  · rw [← x.K]
    exact pe_callB call_isXT (x.gl hg) (by rw [x.mg]; exact hm) PyProof.Rows.boot_isinstance (pa_cons (a X Wx x) (pa_cons (pe_tup (a1 X Wx x)) pa_nil) (hs _)) (by decide) (by decide) (hs _) rfl
  · unfold isXE at q
    rw [wpR_bind] at q
    refine b Wx σ H ι M env _ s r (wpR_mono q (fun x M1 h1 v ι1 H1 n1 s1 r1 => ?_) fun _ _ _ h => h)
    obtain ⟨n, c', fs, k, rfl, hm1, hk, q⟩ := isXM_wp h1
    obtain ⟨hc0, C, ek⟩ := io _ hk
    refine b1 σ H1 _ ⟨by rw [sizeLine_eq]; omega, fun tp htp => ?_⟩
    have n2 := Nxt.new (ι := ι1) (o := .tup cs) htp
    obtain ⟨a', d, gs, rfl, ha, hd, _, _⟩ := opq_told xo hc0 (s1.new (u := .tup cs) htp) hm1 (r1.mono n2)
    exact ⟨a', _, tp, d, cs, us, k, rfl, upd_same, k1, ha, hd, C, ek, q _ ι1 _ (n1.trans n2) (s1.new htp) (Rep.bl _)⟩
/-! ### its field -/
def XfOk (W : Wd) (cs : List Nat) (f : Str) : Prop := ∀ c ∈ cs, c < 1000 ∧ XfC W.K (W.cA c) ∧ PySem.W.findIn W.K (.ref (W.cA c)) f = some none
def xfM (cs : List Nat) (f : Str) (x : TV) : M TV := fun m => match x with
  | .d (.ref n) => (match m[n]? with
    | some (.opq c fs) => if c ∈ cs then (match fs.lookup f with | some d => .ok (.d d) m | none => .no) else .no
    | _ => .no)
  | _ => .no
def xfE (cs : List Nat) (f : Str) (o : EM) : EM := fun env => bindM (o env) (xfM cs f)
theorem pe_xT {X : Cx} {e : Expr} {te : TE} {n : Str} {pos : Pos} (he : PE X e te) (hb : attributeBase e n X.env (eval e X.env) = eval e X.env) :
    PE X (.Attribute e n pos) (fun σ H Q => te σ H fun x H1 => ∃ (a C p : Addr) (gs : List (Str × V)) (v : V), x = .ref a ∧ H1 a = some (ExT (.ref C) (some p) a) ∧ H1 p = some (.xd gs) ∧ XfC X.K C ∧ PySem.W.findIn X.K (.ref C) n = some none ∧ gs.lookup n = some v ∧ Q v H1) := by
  constructor
  intro pins s σ H Q I h
  refine attr_of hb (thn (he.run pins s σ H _ I h) ?_)
  rintro u s1 ⟨x, H1, I1, rx, a, C, p, gs, v, rfl, ha, hp, T, hno, l, q⟩
  cases (show u = Value.ref a from rx)
  obtain ⟨oe, vs, he', hz, hd⟩ := exT_at I1.hok ha
  have hx : ObjOk X.prog X.w H1 s1.heap p (.xd gs) := I1.hok p _ hp
  obtain ⟨mA, hns, hr⟩ := hx
  obtain ⟨od, ho, hl⟩ := lookIn_ns hns
  obtain ⟨w, hw, rw'⟩ := RelO.some_of (v := v) (o := mA n) (by rw [← l]; exact hr n)
  have J : PySem.W.InstAt s1.heap a oe C (some od) := ⟨he', hz.1, by unfold PySem.W.notCls; rw [hd], by rw [hz.2]; exact ho⟩
  exact HandSPX.exc_get I1.kIn J T.ga T.gg T.exC (PySem.W.findObj_own T.hdC hno rfl (by rw [hl, hw])) (handed_of rw') ⟨v, H1, I1.tok _, rw', q⟩
theorem se_xf {e : Expr} {m : EM} {f : Str} {cs : List Nat} {pos : Pos} (xo : XOp W) (fo : XfOk W cs f) (h : SE W S e m) (hb : ∀ env, attributeBase e f env (eval e env) = eval e env := by intro _; rfl) : SE W S (.Attribute e f pos) (xfE cs f m) := by
  obtain ⟨t, a, b⟩ := h.ex
  refine ⟨fun Wx σ H Q => t Wx σ H fun x H1 => ∃ (a C p : Addr) (gs : List (Str × V)) (v : V), x = .ref a ∧ H1 a = some (ExT (.ref C) (some p) a) ∧ H1 p = some (.xd gs) ∧ XfC W.K C ∧ PySem.W.findIn W.K (.ref C) f = some none ∧ gs.lookup f = some v ∧ Q v H1, fun X Wx x => ?_, fun Wx σ H ι M env Q s r q => ?_⟩
  · have z := pe_xT (pos := pos) (a X Wx x) (hb X.env)
    rw [x.K] at z
    exact z
  · unfold xfE at q
    rw [wpR_bind] at q
    refine b Wx σ H ι M env _ s r (wpR_mono q (fun x M1 h1 v ι1 H1 n1 s1 r1 => ?_) fun _ _ _ h => h)
    unfold xfM at h1
    split at h1
    · split at h1
      · split at h1
        · rename_i n _ c fs hm hc
          split at h1
          · rename_i d' hd'
            obtain ⟨hc0, T, hno⟩ := fo c hc
            obtain ⟨a', d, gs, rfl, ha, hd, rf, z⟩ := opq_told xo hc0 s1 hm r1
            obtain ⟨u, hu, ru⟩ := (RepF.get rf).1 d' hd'
            rcases z with ⟨z1, z2⟩ | ⟨p, rfl, hp⟩
            · subst z1; cases hu
            · exact ⟨a', _, p, gs, u, rfl, ha, hp, T, hno, hu, h1 u ι1 H1 n1 s1 ru⟩
          · exact h1.elim
        · exact h1.elim
      · exact h1.elim
    · exact h1.elim
end
end Mir

set_option maxHeartbeats 4000000
/-! raise: a class without own __init__ and a text; a class whose __init__ hands the words to its base and stores one field -/
namespace Mir
open PySem L2
section
variable {W : Wd} {S : SCx} {Wx : WX}
/-- a class that may be raised with a text -/
structure Exc0 (W : Wd) (x : Str) (c : Nat) : Prop where
  gC : W.mg x = some (.ref (W.cA c))
  ex : PySem.W.excIn W.K (W.cA c) [.type "ValueError", .type "Exception", .type "BaseException", .type "object"] "ValueError.__new__" = true
  kC : PySem.W.keepIn W.K (.ref (W.cA c)) = true
  sub : PySem.W.subIn W.K (.ref (W.cA c)) (.type "BaseException") = some true
  ty : PySem.W.typeIn W.K (.ref (W.cA c)) = some (.type "type")
def raiseS (c : Nat) : SMs := fun env m => .exc ⟨c, []⟩ env m
theorem ss_raise0 {x t : Str} {c j : Nat} {p p2 pos pos2 : Pos} (f : Exc0 W x c) (hg : S.sc.names.lookup x = some .globalImplicit := by rfl) (hot : S.hot = false := by rfl) (hdb : (x == ("__debug__" : Str)) = false := by decide +kernel) :
    SS W S (.Raise (some (.Call (.Name x p) [.Constant (.str t) j p2] [] pos)) none pos2) (raiseS c) := by
  refine ⟨fun Wx D σ H => Wx (.ref (W.cA c)) none σ H, fun X Wx y => ?_, fun Wx σ H ι M env D s re h => ?_⟩
  · have hs := f.sub
    have ht := f.ty
    exact ps_raise (W := Wx) (y.calm hot) y.tk (pmk_own F.excBase_ValueError (by rw [y.K]; exact f.ex) (by rw [y.mg]; exact f.gC) (by rw [y.K]; exact f.kC) (raises_own (by rw [y.K]; exact hs) (by rw [y.K]; exact ht)) (y.gl hg) hdb)
  · exact h (.ref (W.cA c)) none σ ι H Nxt.refl s re ⟨rfl, .inl ⟨rfl, rfl⟩⟩
/-! ### Base.__init__(self, words); self.f = x -/
theorem pe_reinit {X : Cx} {C : Addr} {x : Str} {e : Expr} {es : List Expr} {ta : TA} {p1 p2 pos : Pos} {pl : Sem Bool} (hg : Gl X x) (hm : X.mg x = some (.ref C)) (h1 : PySem.W.specialIn X.K (.ref C) "__getattribute__" = some (some (.builtin "type.__getattribute__")))
    (h2 : PySem.W.typeIn X.K (.ref C) = some (.type "type")) (h3 : PySem.W.readsIn X.K C (.type "type") = true) (h4 : PySem.W.findCls X.K (.ref C) (.type "type") "__init__" = some (.val (.builtin "ValueError.__init__"))) (ha : PA X (e :: es) ta) (hdb : (x == ("__debug__" : Str)) = false)
    (hc : eval (.Call (.Attribute (.Name x p1) "__init__" p2) (e :: es) [] pos) X.env = (do
      let ov ← eval (.Name x p1) X.env
      standAt p2.atName
      let (f, first) ← holding [ov] (getMethod ov "__init__" pl)
      callWith pos f first (backTo pos (starEach (e :: es) X.env)) (backToKw pos (keywordEach [] X.env))))
    (he : starEach (e :: es) X.env = (false, eval e X.env) :: starEach es X.env) (hpl : (backTo pos (starEach es X.env)).any (·.1) = false) :
    PE X (.Call (.Attribute (.Name x p1) "__init__" p2) (e :: es) [] pos) (tVeI X.K ta) := by
  constructor
  intro pins s σ H Q I h
  obtain ⟨m, fr⟩ := I.fr
  refine PySem.W.methodCall_KW (ld_glob I hg hm ?_ hdb) hc
  refine PySem.W.method_of_cls fr I.ok.mod.kin h1 (PySem.W.cls_val fr I.ok.mod.kin h2 h3 h4 (by decide +kernel) ?_)
  show wpAny _ _ (callWith pos (Value.builtin "ValueError.__init__") [] (backTo pos (starEach (e :: es) X.env)) []) _ _ _
  refine PyProof.Rows.callWith_method1 (thn (ha.run pos pins _ σ H _ (I.tok _) h) ?_) he hpl
  rintro us s1 ⟨vs, H1, I1, r1, a, C', ws, rfl, hl, T, ea, q⟩
  cases r1 with
  | cons ra rw' =>
    cases ra
    refine oinit_ok T I1 ea ?_ fun s' J => ⟨.non, H1, J, rfl, q⟩
    rw [← Paired.length rw', sizeLine_eq]
    omega
def spInit (K : PySem.W.Frag) (C : Addr) (f : Str) : Sp := fun vs H Q _ => ∃ (a : Addr) (t v : V), vs = [.ref a, t, v] ∧ H a = some (exo a C none) ∧ ∀ d, H d = none → d ≠ a → Q .non (upd (upd H d (exd d [(f, v)])) a (exo a C (some d)))
/-- the class's own words -/
structure ExcF (W : Wd) (x : Str) (c : Nat) (f : Str) : Prop where
  gC : W.mg x = some (.ref (W.cA c))
  T : OexC W.K (W.cA c)
  ex : ∃ (fI : Addr) (fd : FuncData) (ps : List Str), PySem.W.findIn W.K (.ref (W.cA c)) "__init__" = some (some (.ref fI)) ∧ PySem.W.typeIn W.K (.ref fI) = some (.type "function") ∧ Binds W.K fd ps [] ∧ FnOk W.P W.w W.K W.mg W.base (L2.CX W.P W.w) 1 fI fd ps (spInit W.K (W.cA c) f)
theorem init_ok {qual x : Str} {f wd sl : Str} {st : Stmt} {fa : Addr} {fd : FuncData} {c : Nat} {B : Addr} {p1 p2 p3 p4 p5 p6 p7 p8 p9 p10 : Pos} (F : Fun W.K "__init__" qual st fa fd) (C : FnScope [sl, wd, f] [sl, wd, f] (defScope st))
    (hb : defBody st = [.Expr (.Call (.Attribute (.Name x p1) "__init__" p2) [.Name sl p3, .Name wd p4] [] p5) p6, .Assign [.Attribute (.Name sl p7) f p8] (.Name f p9) p10])
    (v0 : Vis (defScope st) sl) (v1 : Vis (defScope st) wd) (v2 : Vis (defScope st) f) (hg : (defScope st).names.lookup x = some .globalImplicit) (hm : W.mg x = some (.ref B))
    (h1 : PySem.W.specialIn W.K (.ref B) "__getattribute__" = some (some (.builtin "type.__getattribute__"))) (h2 : PySem.W.typeIn W.K (.ref B) = some (.type "type")) (h3 : PySem.W.readsIn W.K B (.type "type") = true)
    (h4 : PySem.W.findCls W.K (.ref B) (.type "type") "__init__" = some (.val (.builtin "ValueError.__init__"))) (T : OexC W.K (W.cA c)) (hno : PySem.W.findIn W.K (.ref (W.cA c)) f = some none)
    (hdb : (x == ("__debug__" : Str)) = false := by decide +kernel) (d0 : (sl == ("__debug__" : Str)) = false := by decide +kernel) (d1 : (wd == ("__debug__" : Str)) = false := by decide +kernel) (d2 : (f == ("__debug__" : Str)) = false := by decide +kernel)
    (c0 : (sl == ("__classdict__" : Str)) = false := by decide +kernel) (c1 : (wd == ("__classdict__" : Str)) = false := by decide +kernel) (c2 : (f == ("__classdict__" : Str)) = false := by decide +kernel)
    (hsw : ∀ env, swapsWith (.Name f p9) (some (.Attribute (.Name sl p7) f p8)) p10.line env = pure false := by intro _; rfl)
    (hs1 : ∀ env, swapsWith (.Call (.Attribute (.Name x p1) "__init__" p2) [.Name sl p3, .Name wd p4] [] p5) none p6.line env = pure false := by intro _; rfl)
    {pl : PySem.Env → Sem Bool} (hcl : ∀ env, eval (.Call (.Attribute (.Name x p1) "__init__" p2) [.Name sl p3, .Name wd p4] [] p5) env = (do
      let ov ← eval (.Name x p1) env
      standAt p2.atName
      let (g, first) ← holding [ov] (getMethod ov "__init__" (pl env))
      callWith p5 g first (backTo p5 (starEach [.Name sl p3, .Name wd p4] env)) (backToKw p5 (keywordEach [] env))) := by intro _; rfl)
    (hst : ∀ env, starEach [.Name sl p3, .Name wd p4] env = (false, eval (.Name sl p3) env) :: starEach [.Name wd p4] env := by intro _; rfl) (hst2 : ∀ env, starEach [.Name wd p4] env = (false, eval (.Name wd p4) env) :: starEach [] env := by intro _; rfl) (hpl : ∀ env, (backTo p5 (starEach [.Name wd p4] env)).any (·.1) = false := by intro _; rfl) :
    FnOk W.P W.w W.K W.mg W.base (L2.CX W.P W.w) 1 fa fd [sl, wd, f] (spInit W.K (W.cA c) f) := by
  refine F.okX C (fun vs H Q E h => ?_) (fun cdv A outer s H vs Q E hr h => ?_)
  · obtain ⟨a, t, v, rfl, _⟩ := h; rfl
  obtain ⟨a, t, v, rfl, ha, q⟩ := h
  rw [hb]
  refine ⟨_, pss_cons (ps_expr (pe_reinit hg hm h1 h2 h3 h4 (pa_cons (pe_var (i := 0) rfl v0 d0 c0) (pa_cons (pe_var (i := 1) rfl v1 d1 c1) pa_nil (hst2 _)) (hst _)) hdb (hcl _) (hst _) (hpl _)) (hs1 _)) (pss_one (ps_ost (pe_var (i := 0) rfl v0 d0 c0) (pe_var (i := 2) rfl v2 d2 c2) (hsw _))), ?_⟩
  refine ⟨.ref a, rfl, t, rfl, a, W.cA c, [t], rfl, by simp, T, ha, ?_⟩
  refine ⟨v, rfl, .ref a, rfl, a, W.cA c, rfl, T, hno, .inl ⟨ha, fun dx n ne => q dx n ne⟩⟩
def raiseFS (c : Nat) (f : Str) (e : Env → M D) : SMs := fun env => bindM (e env) fun d m => .exc ⟨c, [(f, d)]⟩ env m
theorem ss_raiseF {x t f : Str} {c j : Nat} {e : Expr} {m : Env → M D} {p p2 pos pos2 : Pos} (E : ExcF W x c f) (h : SD W S e m) (hk : 2 ≤ S.k := by decide) (hg : S.sc.names.lookup x = some .globalImplicit := by rfl) (hot : S.hot = false := by rfl) (hdb : (x == ("__debug__" : Str)) = false := by decide +kernel)
    (hs : ∀ env, starEach [.Constant (.str t) j p2, e] env = (false, eval (.Constant (.str t) j p2) env) :: starEach [e] env := by intro _; rfl) (hs2 : ∀ env, starEach [e] env = (false, eval e env) :: starEach [] env := by intro _; rfl)
    (hpl : ∀ env, (backTo pos (starEach [e] env)).any (·.1) = false := by intro _; rfl) :
    SS W S (.Raise (some (.Call (.Name x p) [.Constant (.str t) j p2, e] [] pos)) none pos2) (raiseFS c f m) := by
  obtain ⟨fI, fd, ps, f1, f2, bd, ok⟩ := E.ex
  obtain ⟨te, a, b⟩ := h.ex
  refine ⟨fun Wx D σ H => tMkO (W.cA c) (spInit W.K (W.cA c) f) [] (tCons (tC (.str t)) (tCons (te Wx) tNil)) σ H fun cls d H' => Wx cls d σ H', fun X Wx y => ?_, fun Wx σ H ι M env D s re q => ?_⟩
  · refine ps_raise (W := Wx) (y.calm hot) y.tk (pmk_oex (CX := L2.CX X.prog X.w) (k := 1) (fI := fI) (fd := fd) (ps := ps) (by rw [y.K]; exact E.T) (by rw [y.K]; exact f1) (by rw [y.K]; exact f2) ?_ ((y.room hot).mono hk) (by rw [y.K]; exact bd) .nil ?_ (y.gl hg) (by rw [y.mg]; exact E.gC) (pa_cons pe_str (pa_cons (a X Wx y.toAt) pa_nil (hs2 _)) (hs _)) hdb (hs _) (hpl _))
    · rw [y.prog, y.w, y.K, y.mg, y.base]; exact ok
    · intro pins σ H s e s' I z
      obtain ⟨_, _, _, _, _, _, _, _, _, _, _, _, z⟩ := z
      exact z.elim
  · unfold raiseFS at q
    rw [wpR_bind] at q
    refine b Wx σ H ι M env _ s re (wpR_mono q (fun d M1 h1 v ι1 H1 n1 s1 r1 => ?_) fun _ _ _ h => h)
    refine ⟨by simp, fun a ha => ⟨a, .str t, v, by simp, upd_same, fun dx hdx ne => ⟨rfl, dx, [(f, v)], upd_same, ?_, ?_, ?_⟩⟩⟩
    · rw [upd_ne ne, upd_same]
    · rw [upd_ne ne] at hdx; exact hdx
    · have hd1 : H1 dx = none := by rw [upd_ne ne] at hdx; exact hdx
      have eH : upd (del (upd (upd (upd H1 a (exo a (W.cA c) none)) dx (exd dx [(f, v)])) a (exo a (W.cA c) (some dx))) a) dx (.xd [(f, v)]) = upd H1 dx (.xd [(f, v)]) := by
        funext b
        by_cases hb : b = dx
        · subst hb; rw [upd_same, upd_same]
        · rw [upd_ne hb, upd_ne hb]
          by_cases hb2 : b = a
          · subst hb2; rw [del_same, ha]
          · rw [del_ne hb2, upd_ne hb2, upd_ne hb, upd_ne hb2]
      rw [eH]
      have n2 := Nxt.new (ι := ι1) (o := .xd [(f, v)]) hd1
      exact h1 _ _ σ ι1 _ (n1.trans n2) (s1.new hd1) ((re.mono n1).mono n2) ⟨rfl, .inr ⟨dx, [(f, v)], rfl, upd_same, .cons ⟨rfl, r1.mono n2⟩ .nil⟩⟩
end
theorem cls_of_dict {K : PySem.W.Frag} {C : Addr} (h : PySem.W.hasDictIn K C = true) : (PySem.W.clsIn K C).isSome = true := by
  obtain ⟨cd, hc, _⟩ := PySem.W.any_some h
  rw [hc]; rfl
theorem kit_ref {K : PySem.W.Frag} {D C : Addr} {b : Bool} (hd : PySem.W.hasDictIn K C = true) (ht : PySem.W.typeIn K (.ref C) = some (.type "type")) (hr : PySem.W.subIn K (.ref C) (.ref C) = some true) (hs : PySem.W.subIn K (.ref D) (.ref C) = some b) : PySem.W.kitOne K (.ref D) (.ref C) = some b := by
  unfold PySem.W.kitOne
  by_cases e : (Value.ref D == Value.ref C) = true
  · rw [if_pos e]
    have e2 : D = C := Value.ref.inj (beq_iff_eq.mp e)
    subst e2
    rw [hr] at hs
    exact hs
  · rw [if_neg e]
    unfold PySem.W.kitCls
    dsimp only
    rw [cls_of_dict hd, ht]
    rw [if_pos (by simp)]
    exact hs
theorem kit_type {K : PySem.W.Frag} {D : Addr} {T : String} {b : Bool} (hm : PySem.W.kitMeta T = true) (hs : PySem.W.subIn K (.ref D) (.type T) = some b) : PySem.W.kitOne K (.ref D) (.type T) = some b := by
  unfold PySem.W.kitOne
  have e : ¬ (Value.ref D == Value.type T) = true := by
    intro z
    cases beq_iff_eq.mp z
  rw [if_neg e]
  unfold PySem.W.kitCls
  dsimp only
  rw [if_pos hm]
  exact hs
/-! ### the law's own promise -/
def spLaw (K : PySem.W.Frag) : Sp := fun vs H Q _ => ∃ (a : Addr) (ns : List Int), vs = [.ref a] ∧ Only H ∧ SqL K H a (ns.map V.int) ∧ ns.length ≤ 63 ∧ ∀ H', Q (.bl true) H'
theorem law_sp {W : Wd} {F : FnSem} (hlaw : ∀ ns : List Int, ns.length ≤ 63 → ∃ m', F [.clst (ns.map D.int)] [] = .ok (.bl true) m') (vs : List V) (H : Hp) (Q : VK) (E : XK) (h : spLaw W.K vs H Q E) (hT : W.T = [] := by rfl) : spOf W 1 F vs H Q E := by
  obtain ⟨a, ns, rfl, ho, hs, hl, q⟩ := h
  refine ⟨rfl, [], [], [.clst (ns.map D.int)], ⟨rfl, .nil, fun n o a h1 _ => by simp at h1, hT⟩, .cons (.clst ?_ (Reps.ints' ns)) .nil, ?_⟩
  · rcases hs with (hs | ⟨o, hs⟩) | hs
    · rcases ho a with z | ⟨_, _, z⟩ <;> rw [hs] at z <;> cases z
    · exact .inl ⟨o, hs⟩
    · exact .inr (.inr hs)
  · obtain ⟨m', e⟩ := hlaw ns hl
    rw [e]
    intro v ι' H' _ _ r
    cases r
    exact q H'
end Mir

set_option maxHeartbeats 4000000
/-! // of great numbers, order of texts, texts walked, list(range(..)), setdefault, enumerate -/
namespace Mir
open PySem L2
section
variable {W : Wd} {S : SCx} {Wx : WX}
instance (i j : Int) : Decidable (CDivW i j) := by unfold CDivW; infer_instance
def opDivW := intOp CDivW fun i j => .int (i / j)
theorem o_divW : OpS W S (binaryOp .FloorDiv) opDivW := ops_I (fun _ => op_fdivW) fun _ _ _ _ => .int _
/-! ### order of texts -/
def strOp (g : Str → Str → Bool) : TV → TV → M TV
  | .d (.str a), .d (.str b) => okM (.d (.bl (g a b)))
  | _, _ => noM
theorem ops_S {g : Str → Str → Bool} {sem : Value → Value → Sem Value} (ho : ∀ X, OpR X sem (fun x y H Q => ∃ i j, x = .str i ∧ y = .str j ∧ Q (.bl (g i j)) H)) : OpS W S sem (strOp g) := by
  refine ⟨⟨_, fun X _ _ => ho X, fun H0 H ι m x y vx vy Q s rx ry k h => ?_⟩, fun x y m e v m' z => ?_⟩
  · unfold strOp at h
    split at h
    · rename_i a b
      cases rx; cases ry
      exact ⟨a, b, rfl, rfl, h _ ι H Nxt.refl s (.bl _)⟩
    · exact h.elim
  · unfold strOp at z
    split at z <;> cases z
def leS (a b : Str) : Bool := !decide (b.cps.toList < a.cps.toList)
def ltS (a b : Str) : Bool := decide (a.cps.toList < b.cps.toList)
def opLeX : TV → TV → M TV
  | .d (.str a), y => strOp leS (.d (.str a)) y
  | x, y => opLe x y
def opLtX : TV → TV → M TV
  | .d (.str a), y => strOp ltS (.d (.str a)) y
  | x, y => opLt x y
theorem o_leX : OpS W S (compareOp .LtE) opLeX := by
  refine OpS.or (ops_S (g := leS) fun _ => op_le_str) o_le (fun x y m => ?_)
  unfold opLeX
  split
  · exact .inl rfl
  · exact .inr rfl
theorem o_ltX : OpS W S (compareOp .Lt) opLtX := by
  refine OpS.or (ops_S (g := ltS) fun _ => op_lt_str) o_lt (fun x y m => ?_)
  unfold opLtX
  split
  · exact .inl rfl
  · exact .inr rfl
/-! ### texts walked -/
def charsD (x : Str) : List D := x.cps.toList.map fun c => D.str ⟨#[c]⟩
def seqSrcX (x : TV) : M Src := match x with
  | .d (.str z) => fun m => .ok (Src.ofL (charsD z)) m
  | x => seqSrc x
def seqIX (a : EM) : Env → M Src := fun env => bindM (a env) seqSrcX
theorem isSrc_str {ι : List Addr} {H : Hp} (z : Str) : IsSrc W ι H (Its z) (Src.ofL (charsD z)).at_ := by
  intro ι' H' m' n s i
  show match (some (charsD z)[i]? : Option (Option D)) with
    | none => True
    | some none => _
    | some (some d) => _
  have e : (charsD z)[i]? = z.cps[i]?.map fun c => D.str ⟨#[c]⟩ := by
    unfold charsD
    rw [List.getElem?_map, Array.getElem?_toList]
  rw [e]
  cases ez : z.cps[i]? with
  | none => exact Array.getElem?_eq_none_iff.mp ez
  | some c =>
    refine ⟨(Array.getElem?_eq_some_iff.mp ez).1, fun x H'' y => ?_⟩
    obtain ⟨rfl, c', hc, rfl⟩ := y
    rw [ez] at hc
    cases hc
    exact ⟨Nxt.refl, s, .str _⟩
theorem si_any {tg e : Expr} {m : EM} (h : SE W S e m) : SI W S tg e (seqIX m) := by
  obtain ⟨t1, p1, s1⟩ := (si_seq (tg := tg) h).ex
  obtain ⟨t, a, b⟩ := h.ex
  refine ⟨fun Wx σ H Q => t1 Wx σ H Q ∨ iStr (t Wx) σ H Q, fun X Wx x => PI.or (p1 X Wx x) (pi_str (a X Wx x)), fun Wx σ H ι M env R s r q => ?_⟩
  unfold seqIX at q
  cases e1 : m env M with
  | no => rw [bindM, e1] at q; exact q.elim
  | exc x v m' =>
    refine .inl (s1 Wx σ H ι M env R s r ?_)
    simp only [seqI, bindM, e1] at q ⊢
    exact q
  | ok x M1 =>
    simp only [bindM, e1] at q
    by_cases hx : ∃ z, x = .d (.str z)
    · obtain ⟨z, rfl⟩ := hx
      refine .inr (b Wx σ H ι M env _ s r ?_)
      rw [e1]
      intro v ι1 H1 n1 s1 r1
      cases r1
      exact ⟨z, rfl, q _ ι1 H1 n1 s1 (isSrc_str z)⟩
    · refine .inl (s1 Wx σ H ι M env R s r ?_)
      simp only [seqI, bindM, e1]
      have e2 : seqSrcX x = seqSrc x := by
        unfold seqSrcX
        split
        · rename_i z; exact absurd ⟨z, rfl⟩ hx
        · rfl
      rw [e2] at q
      exact q
/-! ### list(range(..)) -/
instance (a b : Int) : Decidable (RgOk a b) := by unfold RgOk; infer_instance
def lrng (i j : Int) : M TV := if RgOk i j then okM (.l (rngL i (j - i).toNat)) else noM
def lr1 : TV → M TV
  | .d (.int j) => lrng 0 j
  | _ => noM
def lr2 : TV → TV → M TV
  | .d (.int i), .d (.int j) => lrng i j
  | _, _ => noM
def lrE1 (a : EM) : EM := fun env => bindM (a env) lr1
def lrE2 (a b : EM) : EM := fun env => bindM (a env) fun x => bindM (b env) fun y => lr2 x y
theorem reps_rng {H : Hp} {ι : List Addr} (i j : Int) : Reps W H ι (rngL i (j - i).toNat) (rgV i j) := by
  unfold rngL rgV
  have : ∀ l : List Nat, Reps W H ι (l.map fun (k : Nat) => D.int (i + (k : Int))) (l.map fun (k : Nat) => V.int (i + (k : Int))) := by
    intro l
    induction l with
    | nil => exact .nil
    | cons a l ih => exact .cons (.int _) ih
  exact this _
theorem lrng_wp {i j : Int} {H : Hp} {ι0 ι : List Addr} {H0 : Hp} {m : Mem} {Q : VK} {x : Ex → Env → Mem → Prop} (n : Nxt ι0 H0 ι H) (s : Sim W ι m H) (h : wpR (lrng i j m) (PostE W ι0 H0 Q) x) : RgOk i j ∧ ∀ q, H q = none → Q (.ref q) (upd H q (.lst (rgV i j))) := by
  unfold lrng at h
  by_cases hz : RgOk i j
  · rw [if_pos hz] at h
    refine ⟨hz, fun q hq => ?_⟩
    have nx := Nxt.new (ι := ι) (o := .lst (rgV i j)) hq
    exact h _ ι _ (n.trans nx) (s.new hq) ⟨q, _, rfl, upd_same, s.out hq, n.back hq, reps_rng i j⟩
  · rw [if_neg hz] at h; exact h.elim
theorem se_lr1 {a : Expr} {ma : EM} {p p2 pos pos2 : Pos} (hl : W.mg "list" = none) (hr : W.mg "range" = none) (ha : SE W S a ma) (hc : S.hot = false := by rfl) (hg : S.sc.names.lookup ("list" : Str) = some .globalImplicit := by rfl) (hg2 : S.sc.names.lookup ("range" : Str) = some .globalImplicit := by rfl)
    (hs : ∀ env, starEach [.Call (.Name "range" p2) [a] [] pos2] env = (false, eval (.Call (.Name "range" p2) [a] [] pos2) env) :: starEach [] env := by intro _; rfl) (hs2 : ∀ env, starEach [a] env = (false, eval a env) :: starEach [] env := by intro _; rfl) :
    SE W S (.Call (.Name "list" p) [.Call (.Name "range" p2) [a] [] pos2] [] pos) (lrE1 ma) := by
  obtain ⟨t, a1, b1⟩ := ha.ex
  refine ⟨fun Wx => tLstRg (tRg1 (t Wx)), fun X Wx x => pe_listRg (x.calm hc) (x.gl hg) (by rw [x.mg]; exact hl) (prg_1 (x.gl hg2) (by rw [x.mg]; exact hr) (a1 X Wx x) (hs2 _)) (hs _), fun Wx σ H ι M env Q s r q => ?_⟩
  unfold lrE1 at q
  rw [wpR_bind] at q
  refine b1 Wx σ H ι M env _ s r (wpR_mono q (fun x M1 h1 v ι1 H1 n1 s1 r1 => ?_) fun _ _ _ h => h)
  unfold lr1 at h1
  split at h1
  · cases r1
    exact ⟨_, rfl, lrng_wp n1 s1 h1⟩
  · exact h1.elim
theorem se_lr2 {a c : Expr} {ma mc : EM} {p p2 pos pos2 : Pos} (hl : W.mg "list" = none) (hr : W.mg "range" = none) (ha : SE W S a ma) (hb : SE W S c mc) (hc : S.hot = false := by rfl) (hg : S.sc.names.lookup ("list" : Str) = some .globalImplicit := by rfl) (hg2 : S.sc.names.lookup ("range" : Str) = some .globalImplicit := by rfl)
    (hs : ∀ env, starEach [.Call (.Name "range" p2) [a, c] [] pos2] env = (false, eval (.Call (.Name "range" p2) [a, c] [] pos2) env) :: starEach [] env := by intro _; rfl) (hs2 : ∀ env, starEach [a, c] env = (false, eval a env) :: starEach [c] env := by intro _; rfl) (hs3 : ∀ env, starEach [c] env = (false, eval c env) :: starEach [] env := by intro _; rfl) (hq : ∀ env, (backTo pos2 (starEach [c] env)).any (·.1) = false := by intro _; rfl) :
    SE W S (.Call (.Name "list" p) [.Call (.Name "range" p2) [a, c] [] pos2] [] pos) (lrE2 ma mc) := by
  obtain ⟨t, a1, b1⟩ := ha.ex
  obtain ⟨u, a2, b2⟩ := hb.ex
  refine ⟨fun Wx => tLstRg (tRg2 (t Wx) (u Wx)), fun X Wx x => pe_listRg (x.calm hc) (x.gl hg) (by rw [x.mg]; exact hl) (prg_2 (x.gl hg2) (by rw [x.mg]; exact hr) (a1 X Wx x) (a2 X Wx x) (hs2 _) (hs3 _) (hq _)) (hs _), fun Wx σ H ι M env Q s r q => ?_⟩
  unfold lrE2 at q
  rw [wpR_bind] at q
  refine b1 Wx σ H ι M env _ s r (wpR_mono q (fun x M1 h1 v ι1 H1 n1 s1 r1 => ?_) fun _ _ _ h => h)
  rw [wpR_bind] at h1
  refine b2 Wx σ H1 ι1 M1 env _ s1 (r.mono n1) (wpR_mono h1 (fun y M2 h2 w ι2 H2 n2 s2 r2 => ?_) fun _ _ _ h => PostX.next n1 h)
  unfold lr2 at h2
  split at h2
  · cases r1; cases r2
    exact ⟨_, _, rfl, rfl, lrng_wp (n1.trans n2) s2 h2⟩
  · exact h2.elim
/-! ### d.setdefault(k, x) -/
def dsetY (x y : TV) (dz : D) : M TV := fun m => match x, y with
  | .d (.ref n), .d y => (match m[n]? with
    | some (.dic kvs) => (match keyD y with
      | some k => if kvs.length < sizeLine then (match getK kvs k with
        | some d => .ok (.d d) m
        | none => .ok (.d dz) (m.set n (.dic (setK kvs k dz)))) else .no
      | none => .no)
    | _ => .no)
  | _, _ => .no
def dsetE (o k : EM) (z : Env → M D) : EM := fun env => bindM (o env) fun x m => if isDic m x = true then bindM (k env) (fun y => bindM (z env) fun dz => dsetY x y dz) m else .no
theorem keyD_kV {y : D} {k : Key} {v : V} {H : Hp} {ι : List Addr} (h : keyD y = some k) (r : Rep W H ι y v) : v = kV k := by
  unfold keyD at h
  split at h
  · cases h; cases r; rfl
  · cases h; cases r; rfl
  · cases h
theorem se_dset {o e f : Expr} {mo me : EM} {mz : Env → M D} {apos cpos : Pos} (ho : SE W S o mo) (he : SE W S e me) (hz : SD W S f mz) (hb : ∀ env, attributeBase o "setdefault" env (eval o env) = eval o env := by intro _; rfl)
    (hf : ∀ env, ((backTo cpos (starEach [e, f] env)).all (fun x => !x.1) && (backToKw cpos (keywordEach [] env)).all (fun x => x.1.isSome) && decide (([e, f] : List Expr).length + ([] : List Keyword).length + (if ([] : List Keyword).isEmpty then 0 else 1) < 30)) = true := by intro _; rfl)
    (hl : (apos.endLine == cpos.line) = true := by rfl) (ht : ∀ env, backTo cpos (starEach [e, f] env) = [(false, eval e env), (false, eval f env)] := by intro _; rfl) : SE W S (.Call (.Attribute o "setdefault" apos) [e, f] [] cpos) (dsetE mo me mz) := by
  obtain ⟨t, a, b⟩ := ho.ex
  obtain ⟨u, a2, b2⟩ := he.ex
  obtain ⟨uz, a3, b3⟩ := hz.ex
  refine ⟨fun Wx => tDSetd (t Wx) (u Wx) (uz Wx), fun X Wx x => pe_dsetd (a X Wx x) (a2 X Wx x) (a3 X Wx x) ⟨hb _, hf _, hl, ht _⟩, fun Wx σ H ι M env Q s re q => ?_⟩
  unfold dsetE at q
  rw [wpR_bind] at q
  refine b Wx σ H ι M env _ s re (wpR_mono q (fun x M1 h1 v ι1 H1 n1 s1 r1 => ?_) fun _ _ _ h => h)
  by_cases hc : isDic M1 x = true
  · rw [if_pos hc] at h1
    obtain ⟨p, rfl, hd⟩ := isDic_rep s1 r1 hc
    refine ⟨p, rfl, hd, ?_⟩
    rw [wpR_bind] at h1
    refine b2 Wx σ H1 ι1 M1 env _ s1 (re.mono n1) (wpR_mono h1 (fun y M2 h2 w ι2 H2 n2 s2 r2 => ?_) fun _ _ _ h => PostX.next n1 h)
    have n12 := n1.trans n2
    rw [wpR_bind] at h2
    refine b3 Wx σ H2 ι2 M2 env _ s2 (re.mono n12) (wpR_mono h2 (fun dz M3 h3 w3 ι3 H3 n3 s3 r3 => ?_) fun _ _ _ h => PostX.next n12 h)
    have n13 := n12.trans n3
    unfold dsetY at h3
    split at h3
    · rename_i n y'
      split at h3
      · rename_i kvs hm
        split at h3
        · rename_i k hk
          split at h3
          · rename_i hz
            have rx := (r1.mono n2).mono n3
            cases rx with
            | ref hi =>
              obtain ⟨ks, hp, rf⟩ := s3.obj _ _ _ hm hi
              obtain ⟨g1, g2⟩ := RepF.getK (k := k) rf
              refine ⟨ks, k, hp, keyD_kV hk (show Rep W H3 ι3 y' w from r2.mono n3), ?_, ?_, ?_⟩
              · have e := congrArg List.length rf.keys
                rw [List.length_map, List.length_map] at e
                rw [← e]; exact hz
              · intro v' hv'
                cases eg : Mir.getK kvs k with
                | none => rw [g2 eg] at hv'; cases hv'
                | some d =>
                  obtain ⟨v'', hv'', rv⟩ := g1 d eg
                  rw [hv'] at hv''
                  cases hv''
                  simp only [eg] at h3
                  exact h3 _ ι3 H3 n13 s3 rv
              · intro hv'
                cases eg : Mir.getK kvs k with
                | some d =>
                  obtain ⟨v'', hv'', rv⟩ := g1 d eg
                  rw [hv'] at hv''; cases hv''
                | none =>
                  simp only [eg] at h3
                  have nx := Nxt.put (o := .dK (putK ks k w3)) (List.mem_of_getElem? hi) hp (fun _ z => nomatch z) (fun _ _ z => nomatch z)
                  have s4 := s3.put (u := .dK (putK ks k w3)) (o := .dic (Mir.setK kvs k dz)) hi hp (fun _ z => nomatch z) (fun _ _ z => nomatch z) ⟨_, upd_same, (RepF.setK r3 rf).mono nx⟩
                  exact h3 _ ι3 _ (n13.trans nx) s4 (r3.mono nx)
          · exact h3.elim
        · exact h3.elim
      · exact h3.elim
    · exact h3.elim
  · rw [if_neg hc] at h1; exact h1.elim
end
end Mir

set_option maxHeartbeats 4000000
/-! a tuple or a list taken apart -/
namespace Mir
open PySem L2
section
variable {W : Wd} {S : SCx} {Wx : WX}
theorem PG.or2 {X : Cx} {e : Expr} {t1 t2 : TG} (h1 : PG X e t1) (h2 : PG X e t2) : PG X e (fun v σ H Q => t1 v σ H Q ∨ t2 v σ H Q) := by
  refine ⟨fun pins s σ H v u Q I r hw => ?_⟩
  rcases hw with hw | hw
  · exact h1.run pins s σ H v u Q I r hw
  · exact h2.run pins s σ H v u Q I r hw
def unpM (m : Mem) (d : D) : Option (List D) := match tupOf (.d d) with
  | some ds => some ds
  | none => listOf m (.d d)
def unpG (n : Nat) (g : List D → Env → M Env) : D → Env → M Env := fun d env m => match unpM m d with
  | some ds => if ds.length = n then g ds env m else .no
  | none => .no
theorem sg_unp {es : List Expr} {sl : List Nat} {g : List D → Env → M Env} {k n : Nat} {pos : Pos} (h : SGs W S es sl g) (hn : ∀ env, (assignEach es env).length = n := by intro _; rfl) (hst : ∀ env, (assignEach es env).findIdx? (·.1) = none := by intro _; rfl) (hc : S.hot = false := by rfl) : SG W S (.Tuple es k pos) sl (unpG n g) := by
  obtain ⟨⟨t, a1, b1⟩, n1⟩ := h
  refine ⟨⟨fun v σ H Q => gTup W.K n t v σ H Q ∨ gLst W.K n t v σ H Q, fun X Wx x => PG.or2 (by rw [← x.K]; exact pg_tup (x.calm hc) (a1 X Wx x) (hn _) (hst _)) (by rw [← x.K]; exact pg_lst (x.calm hc) (a1 X Wx x) (hn _) (hst _)), fun σ H ι M env d v Q s re rr h => ?_⟩, fun d env M e v m' z => ?_⟩
  · unfold unpG unpM at h
    cases e : tupOf (.d d) with
    | some ds =>
      rw [e] at h
      dsimp only at h
      by_cases hl : ds.length = n
      · rw [if_pos hl] at h
        obtain ⟨p, vs, rfl, hp, r⟩ := tupOf_rep (H0 := H) (x := .d d) rr e
        exact .inl ⟨p, vs, rfl, hp, by rw [← r.length]; exact hl, b1 σ H ι M env ds vs Q s re r h⟩
      · rw [if_neg hl] at h; exact h.elim
    | none =>
      rw [e] at h
      dsimp only at h
      cases e2 : listOf M (.d d) with
      | none => rw [e2] at h; exact h.elim
      | some ds =>
        rw [e2] at h
        dsimp only at h
        by_cases hl : ds.length = n
        · rw [if_pos hl] at h
          obtain ⟨p, vs, rfl, hp, r⟩ := listOf_rep (H0 := H) (x := .d d) s rr e2
          exact .inr ⟨p, vs, rfl, hp, by rw [← r.length]; exact hl, b1 σ H ι M env ds vs Q s re r h⟩
        · rw [if_neg hl] at h; exact h.elim
  · unfold unpG at z
    cases e : unpM M d with
    | none => rw [e] at z; cases z
    | some ds =>
      rw [e] at z
      dsimp only at z
      by_cases hl : ds.length = n
      · rw [if_pos hl] at z; exact n1 _ _ _ _ _ _ z
      · rw [if_neg hl] at z; cases z
theorem unpG_tup (n : Nat) (g : List D → Env → M Env) (ds : List D) (env : Env) : unpG n g (.tup ds) env = if ds.length = n then g ds env else noM := by
  funext m
  show (if ds.length = n then g ds env m else .no) = _
  split <;> rfl
theorem unpG_ref (n : Nat) (g : List D → Env → M Env) (k : Nat) (env : Env) (m : Mem) : unpG n g (.ref k) env m = match m[k]? with
    | some (.lst ds) => if ds.length = n then g ds env m else .no
    | _ => .no := by
  simp only [unpG, unpM, tupOf, listOf]
  cases m[k]? with
  | none => rfl
  | some o => cases o <;> rfl
end
end Mir

set_option maxHeartbeats 4000000
/-! enumerate and zip of lists -/
namespace Mir
open PySem L2
section
variable {W : Wd} {S : SCx} {Wx : WX}
def lstSrc (x : TV) : M Src := fun m => match x with
    | .d (.ref k) => match m[k]? with
      | some (.lst ds) => .ok (Src.ofR k ds.length) m
      | _ => .no
    | .l ds => .ok (Src.ofL ds) m
    | .d (.clst ds) => .ok (Src.ofL ds) m
    | _ => .no
def enumF (f : Nat → Mem → Option (Option D)) : Nat → Mem → Option (Option D) := fun i m => match f i m with
  | none => none
  | some none => some none
  | some (some d) => some (some (.tup [.int i, d]))
def zipF (f g : Nat → Mem → Option (Option D)) : Nat → Mem → Option (Option D) := fun i m => match f i m, g i m with
  | some none, some _ => some none
  | some (some _), some none => some none
  | some (some a), some (some b) => some (some (.tup [a, b]))
  | _, _ => none
theorem isSrc_enum {ι : List Addr} {H : Hp} {p : Addr} {f : Nat → Mem → Option (Option D)} (h : IsSrc W ι H (Itl W.K p) f) : IsSrc W ι H (Ite W.K p) (enumF f) := by
  intro ι' H' m' n s i
  have h := h ι' H' m' n s i
  unfold enumF
  cases e : f i m' with
  | none => trivial
  | some o =>
    rw [e] at h
    cases o with
    | none => exact h
    | some d =>
      obtain ⟨go, y⟩ := h
      refine ⟨go, fun x H'' q => ?_⟩
      obtain ⟨T, x0, rfl, hT, rfl, hx⟩ := q
      obtain ⟨_, _, rp⟩ := y x0 H' ⟨rfl, hx⟩
      exact ⟨Nxt.new hT, s.new hT, .tup upd_same (.cons (.int _) (.cons (rp.mono (Nxt.new hT)) .nil))⟩
theorem isSrc_zip {ι : List Addr} {H : Hp} {p q : Addr} {f g : Nat → Mem → Option (Option D)} (h : IsSrc W ι H (Itl W.K p) f) (k : IsSrc W ι H (Itl W.K q) g) : IsSrc W ι H (Itz W.K p q) (zipF f g) := by
  intro ι' H' m' n s i
  have h := h ι' H' m' n s i
  have k := k ι' H' m' n s i
  unfold zipF
  cases e : f i m' with
  | none => trivial
  | some o =>
    rw [e] at h
    cases e2 : g i m' with
    | none => cases o <;> trivial
    | some u =>
      rw [e2] at k
      cases o with
      | none =>
        obtain ⟨xs, hx, hl⟩ := h
        cases u with
        | none =>
          obtain ⟨ys, hy, hl2⟩ := k
          exact ⟨xs, ys, hx, hy, .inl hl⟩
        | some d =>
          obtain ⟨⟨ys, y, hy, _⟩, _⟩ := k
          exact ⟨xs, ys, hx, hy, .inl hl⟩
      | some d =>
        obtain ⟨⟨xs, x, hx, hxi⟩, yx⟩ := h
        cases u with
        | none =>
          obtain ⟨ys, hy, hl2⟩ := k
          exact ⟨xs, ys, hx, hy, .inr hl2⟩
        | some d2 =>
          obtain ⟨⟨ys, y, hy, hyi⟩, yy⟩ := k
          refine ⟨⟨xs, ys, x, y, hx, hy, hxi, hyi⟩, fun v H'' z => ?_⟩
          obtain ⟨T, x0, y0, rfl, hT, rfl, hx0, hy0⟩ := z
          obtain ⟨_, _, rp⟩ := yx x0 H' ⟨rfl, hx0⟩
          obtain ⟨_, _, rq⟩ := yy y0 H' ⟨rfl, hy0⟩
          exact ⟨Nxt.new hT, s.new hT, .tup upd_same (.cons (rp.mono (Nxt.new hT)) (.cons (rq.mono (Nxt.new hT)) .nil))⟩
/-- what a list gives -/
theorem lst_src {x : TV} {m : Mem} {v : V} {H0 H : Hp} {ι : List Addr} {q : Src → Mem → Prop} {xm : Ex → Env → Mem → Prop} (s : Sim W ι m H) (r : RepT W H0 H ι x v) (h : wpR (lstSrc x m) q xm) : ∃ (a : Addr) (xs : List V) (sr : Src), v = .ref a ∧ SqL W.K H a xs ∧ IsSrc W ι H (Itl W.K a) sr.at_ ∧ q sr m := by
  unfold lstSrc at h
  cases x with
  | l ds =>
    obtain ⟨p, vs, rfl, hp, hn, h0, rr⟩ := r
    exact ⟨p, vs, _, rfl, SqL.of hp, isSrc_list (fun ι' H' n => SqL.of (n.frm p _ hp hn)) rr, h⟩
  | d y =>
    cases y with
    | clst ds =>
      cases r with
      | clst hp rr => exact ⟨_, _, _, rfl, hp.sq, isSrc_list (fun ι' H' n => (hp.kept n.kept).sq) rr, h⟩
    | ref k =>
      dsimp only at h
      cases hm : m[k]? with
      | none => rw [hm] at h; exact h.elim
      | some o =>
        rw [hm] at h
        cases o with
        | lst ds =>
          cases r with
          | ref hi =>
            obtain ⟨vs, hp, rr⟩ := s.obj _ _ _ hm hi
            exact ⟨_, _, _, rfl, SqL.of hp, isSrc_ref _ hi, h⟩
        | _ => exact h.elim
    | _ => exact h.elim
def enum1 : List TV → M Src
  | [x] => bindM (lstSrc x) fun sr => okM ⟨sr.n, enumF sr.at_⟩
  | _ => noM
theorem si_enum {elts : List Expr} {kk : Nat} {tpos : Pos} {a : Expr} {m : Env → M (List TV)} {p pos : Pos} (hm : W.mg "enumerate" = none) (h : SAT W S [a] m) (hg : S.sc.names.lookup ("enumerate" : Str) = some .globalImplicit := by rfl) (hs : ∀ env, starEach [a] env = [(false, eval a env)] := by intro _; rfl) :
    SI W S (.Tuple elts kk tpos) (.Call (.Name "enumerate" p) [a] [] pos) (fun env => bindM (m env) enum1) := by
  obtain ⟨t, a1, b⟩ := h.ex
  refine ⟨fun Wx => iEnum W.K (t Wx), fun X Wx x => by rw [← x.K]; exact pi_enum (x.gl hg) (by rw [x.mg]; exact hm) (a1 X Wx x) (hs _), fun Wx σ H ι M env R s r q => ?_⟩
  rw [wpR_bind] at q
  refine b Wx σ H ι M env _ s r (wpR_mono q (fun xs M1 h1 vs ι1 H1 n1 s1 r1 => ?_) fun _ _ _ h => h)
  unfold enum1 at h1
  split at h1
  · rename_i x
    cases r1 with
    | cons r1 r2 =>
      cases r2
      rw [wpR_bind] at h1
      obtain ⟨a, ys, sr, rfl, hq, hsrc, h2⟩ := lst_src s1 r1 h1
      exact ⟨a, ys, rfl, hq, h2 _ ι1 H1 n1 s1 (isSrc_enum hsrc)⟩
  · exact h1.elim
def zip2 : List TV → M Src
  | [x, y] => bindM (lstSrc x) fun sr => bindM (lstSrc y) fun sq => okM ⟨max sr.n sq.n, zipF sr.at_ sq.at_⟩
  | _ => noM
theorem si_zip {elts : List Expr} {kk : Nat} {tpos : Pos} {a c : Expr} {m : Env → M (List TV)} {p pos : Pos} (hm : W.mg "zip" = none) (h : SAT W S [a, c] m) (hg : S.sc.names.lookup ("zip" : Str) = some .globalImplicit := by rfl) (hs : ∀ env, starEach [a, c] env = (false, eval a env) :: starEach [c] env := by intro _; rfl) (hpl : ∀ env, (backTo pos (starEach [c] env)).any (·.1) = false := by intro _; rfl) :
    SI W S (.Tuple elts kk tpos) (.Call (.Name "zip" p) [a, c] [] pos) (fun env => bindM (m env) zip2) := by
  obtain ⟨t, a1, b⟩ := h.ex
  refine ⟨fun Wx => iZip W.K (t Wx), fun X Wx x => by rw [← x.K]; exact pi_zip (x.gl hg) (by rw [x.mg]; exact hm) (a1 X Wx x) (hs _) (hpl _), fun Wx σ H ι M env R s r q => ?_⟩
  rw [wpR_bind] at q
  refine b Wx σ H ι M env _ s r (wpR_mono q (fun xs M1 h1 vs ι1 H1 n1 s1 r1 => ?_) fun _ _ _ h => h)
  unfold zip2 at h1
  split at h1
  · rename_i x y
    cases r1 with
    | cons r1 r2 =>
      cases r2 with
      | cons r2 r3 =>
        cases r3
        rw [wpR_bind] at h1
        obtain ⟨a, ys, sr, rfl, hq, hsrc, h2⟩ := lst_src s1 r1 h1
        rw [wpR_bind] at h2
        obtain ⟨a2, ys2, sr2, rfl, hq2, hsrc2, h3⟩ := lst_src s1 r2 h2
        exact ⟨a, a2, ys, ys2, rfl, hq, hq2, h3 _ ι1 H1 n1 s1 (isSrc_zip hsrc hsrc2)⟩
  · exact h1.elim
end
end Mir

set_option maxHeartbeats 4000000
/-! a call of an own def without arguments -/
namespace Mir
open PySem L2
section
variable {W : Wd} {S : SCx} {Wx : WX}
theorem pe_callS0 {X : Cx} {CX : CXT} {k : Nat} {f : Addr} {fd : FuncData} {ps : List Str} {sp : Sp} {E : L2.St → XK} {x : Str} {p pos : Pos} (F : FnOk X.prog X.w X.K X.mg X.base CX k f fd ps sp) (hr : Room k X.A) (hg : Gl X x) (hm : X.mg x = some (.ref f)) (hk : PySem.W.keepIn X.K (.ref f) = true) (hb : Binds X.K fd ps []) (hx : ∀ σ, PassesAt CX X σ (E σ))
    (hdb : (x == ("__debug__" : Str)) = false := by decide) : PE X (.Call (.Name x p) [] [] pos) (tCallS sp E tNil) := by
  refine ⟨fun pins s σ H Q I h => ?_⟩
  refine wpAny_Call_Name_kw (ld_glob I hg hm ?_ hdb)
  exact PySem.W.callWith_K0 I.kIn hk (run_fnS (us := []) (vs := []) F hr hb (hx σ) I .nil h)
theorem se_call0 {x : Str} {k np : Nat} {F : FnSem} {p pos : Pos} (f : Fn W x k np F) (hk : k ≤ S.k := by decide) (hl : 0 = np := by rfl) (hg : S.sc.names.lookup x = some .globalImplicit := by rfl) (hdb : (x == ("__debug__" : Str)) = false := by decide)
    (hc : S.hot = false := by rfl) : SE W S (.Call (.Name x p) [] [] pos) (callF F nilA) := by
  obtain ⟨fa, fd, ps, hm, kp, bd, hps, ok⟩ := f.ex
  refine ⟨fun Wx => tCallS (spOf W np F) (WE Wx) tNil, fun X Wx y => ?_, fun Wx => simE_call (t := tNil) (fun env M ds M' e => by cases e; exact hl) (fun σ H ι M env Q s r h => h [] ι H Nxt.refl s .nil)⟩
  refine pe_callS0 (CX := L2.CX X.prog X.w) (ps := ps) (fd := fd) (k := k) (f := fa) ?_ ((y.room hc).mono hk) (y.gl hg) (by rw [y.mg]; exact hm) (by rw [y.K]; exact kp) (by rw [y.K]; exact bd) (fun σ => passAt y.tk σ) hdb
  rw [y.prog, y.w, y.K, y.mg, y.base]
  exact ok
end
end Mir

set_option maxHeartbeats 4000000
/-! sorted(d.keys()), the keys whole numbers -/
namespace L2
open PySem PySem.Spec PyProof.Rows
def keysO (p d : Addr) : HO := .ext fun h => PySem.W.KdlKeysView h p d
theorem keysO_ok {P : Program} {w : World} {H : Hp} {h : Heap} {p d : Addr} (e : h.get? p = some { cls := .type "dict_keys", data := .fields #[.ref d] }) : ObjOk P w H h p (keysO p d) :=
  ⟨⟨_, e, rfl, rfl⟩, ⟨_, e⟩, fun h1 h2 x k => let ⟨o, ho, r⟩ := x; ⟨o, k o ho, r⟩⟩
/-- what collect makes of such a source; the new list stands behind all that was there -/
theorem collK {prog : Program} {w : World} {A : Around} {E : Value → Shared → Prop} {s : Shared} {T : String} {r d : Addr} {n : Nat} {P : Nat → Value → Prop} {OK : Heap → Prop}
    {Z : List Value → Shared → Prop} (src : PySem.W.KdlSrc prog w T r d n P OK) (calm : A.handled = none) (ok : OK s.heap) (few : n ≤ sizeLine)
    (nxt : ∀ (g : Heap) (k : Nat) (its : Array Value), (∀ b o, s.heap.get? b = some o → g.get? b = some o) → s.heap.objs.size < g.objs.size → ItemsOf P its n → Z its.toList { s with heap := g, toks := k }) :
    wpAny (model prog w) A (collect (.ref r)) Z E s := by
  obtain ⟨rlt, dlt⟩ := src.there _ ok
  unfold collect
  apply wpAny_bind
  apply wpAny_runValue
  apply codeAny_builtin entry_proto_collect'
  rw [Around.under_plainId F.plain_proto_collect _]
  show wpAny _ A.in1 (newList [] >>= fun z => again (.builtin "list.__iadd__" ⟨[z, .ref r], []⟩)) _ _ _
  refine wpAny_bind (wpAny_newObj_type (wpAny_pure ⟨plainId_quiet F.plain_list_iadd _, ?_⟩))
  apply codeAny_builtin entry_list_iadd'
  rw [Around.under_plainId F.plain_list_iadd _]
  show wpAny _ A.in1 (Builtin.List.listExtendWith (.ref s.heap.objs.size) (.ref r) (.ref s.heap.objs.size)) _ _ { s with heap := s.heap.push { cls := .type "list", data := .seq #[] } }
  have at0 : (s.heap.push { cls := .type "list", data := .seq #[] }).get? s.heap.objs.size = some { cls := .type "list", data := .seq #[] } := by exact Heap.get?_push_size _ rfl
  have old : ∀ b o, s.heap.get? b = some o → (s.heap.push { cls := .type "list", data := .seq #[] }).get? b = some o := fun b o e => Heap.get?_push_of_some _ e
  generalize s.heap.push { cls := .type "list", data := .seq #[] } = g0 at at0 old
  have run := PySem.W.kdl_extend (s := { s with heap := g0 }) (A := A)
    (R := fun (q : Result) (t : Shared) => ∃ (g : Heap) (k : Nat) (its : Array Value) (c : Nat), q = .ok (.ret (.ref s.heap.objs.size)) ∧ t = { s with heap := g, toks := k } ∧
      (∀ b o, s.heap.get? b = some o → g.get? b = some o) ∧ g.get? s.heap.objs.size = some { cls := .type "list", dict := none, data := .seq its c, slots := #[] } ∧ ItemsOf P its n)
    src calm (src.keep _ _ ok (fun b _ o e => old b o e)) s.heap.objs.size (Nat.ne_of_gt rlt) (Nat.ne_of_gt dlt) (.ref s.heap.objs.size) 0 at0
    (fun g k its c keep there here => ⟨g, k, its, c, rfl, rfl, fun b o e => keep b o (Nat.ne_of_lt (Heap.lt_size e)) (old b o e), there, here⟩) few
  refine wpAny_mono run (fun fin t x => ?_) (fun e t x => ?_)
  · cases fin with
    | done f =>
      obtain ⟨g, k, its, c, e, rfl, keep, there, here⟩ := x
      cases e
      show wpAny _ A (load s.heap.objs.size >>= _) _ _ _
      exact wpAny_bind (wpAny_load there (wpAny_pure (nxt g k its keep (Heap.lt_size there) here)))
    | again c =>
      refine ⟨x.1, codeAny_mono x.2 (fun q t2 y => ?_)⟩
      obtain ⟨g, k, its, c, rfl, rfl, keep, there, here⟩ := y
      show wpAny _ A (load s.heap.objs.size >>= _) _ _ _
      exact wpAny_bind (wpAny_load there (wpAny_pure (nxt g k its keep (Heap.lt_size there) here)))
  · obtain ⟨_, _, _, _, z, _⟩ := x
    cases z
section
variable {X : Cx}
def rKeysV : V → List V → Hp → VK → Prop := fun x xs H Q => ∃ (a : Addr) (kvs : List (L2.Key × V)), x = .ref a ∧ xs = [] ∧ H a = some (.dK kvs) ∧ ∀ p, H p = none → Q (.ref p) (upd H p (keysO p a))
theorem mt_keysV : MtR X "dict.keys" rKeysV := by
  intro pins s σ H x xs v us Q I rx rxs h
  obtain ⟨a, kvs, rfl, rfl, ha, q⟩ := h
  cases rx
  cases rxs
  obtain ⟨z, lo, vs, rk, hd⟩ := (show ObjOk X.prog X.w H s.heap a (.dK kvs) from I.hok a _ ha)
  refine call_meetsIn PySem.F.slot_dict_keys hd.typeIs PySem.F.entry_dict_keys (PySem.F.args_dict_keys_1 _) (PySem.W.kdl_meets_keys (mixKind X.prog X.w) a lo) ⟨⟨vs, hd⟩, ?_⟩
  have hf : H s.heap.objs.size = none := I.hok.fresh (Nat.le_refl _)
  exact ⟨.ref s.heap.objs.size, upd H s.heap.objs.size (keysO s.heap.objs.size a), I.laid (t' := s.toks) (fun b u e => Heap.get?_push_of_some _ e) (Nat.le_refl _) (keysO_ok (Heap.get?_push_size _ rfl)), rfl, q _ hf⟩
def rSortKV : List V → Hp → VK → Prop := fun vs H Q => ∃ (p a : Addr) (kvs : List (L2.Key × V)) (ns : List Int), vs = [.ref p] ∧ H p = some (keysO p a) ∧ H a = some (.dK kvs) ∧ (kvs.map fun kv => kV kv.1) = ns.map V.int ∧
  ∀ (ns' : List Int) (l : Addr), ns'.Perm ns → ns'.Pairwise (· ≤ ·) → H l = none → Q (.ref l) (upd H l (.lst (ns'.map V.int)))
theorem cr_sortedKV (hc : X.calm = true) : CallR X (.builtin "sorted") rSortKV := by
  intro pins s σ H xs us Q I r h
  obtain ⟨p, a, kvs, ns, rfl, hp, ha, hk, q⟩ := h
  obtain rfl := Vals.ref1 r
  have view : PySem.W.KdlKeysView s.heap p a := (show ObjOk X.prog X.w H s.heap p (keysO p a) from I.hok p _ hp).1
  obtain ⟨z, lo, vs, rk, hd⟩ := (show ObjOk X.prog X.w H s.heap a (.dK kvs) from I.hok a _ ha)
  obtain ⟨ep, hat⟩ := hd.dictAt
  have hl : kvs.length = vs.length := Paired.length rk
  have hh : X.A.handled = none := I.ok.hd hc
  refine PySem.Calls.call_function_entry kind_sorted plain_sorted entry_sorted (args_sorted1 _) ?_
  unfold Builtin.«sorted»
  refine wpAny_bind (m := checkCount "sorted" 1 1 _) (wpAny_pure ?_)
  refine wpAny_bind (collK (A := X.A.in1) (PySem.W.kdl_keys (knd := mixKind X.prog X.w) (kvs := vs) (ep := ep)) hh ⟨view, hat⟩ (by rw [← hl]; exact z) fun h' tk acc hkeep hlt0 hacc => ?_)
  have hsz : acc.toList.length = vs.length := by rw [Array.length_toList]; exact hacc.1
  refine wpAny_bind (wpAny_newList ?_ (by rw [hsz, ← hl]; exact z))
  have hv : Vals (ns.map V.int) acc.toList := by
    rw [← hk]
    refine vals_of_at (by rw [List.length_map, hsz, hl]) fun j x w h1 h2 => ?_
    obtain ⟨k, y, hky, hi⟩ := hacc.2 j w (by rw [← Array.getElem?_toList]; exact h2)
    have e1 : (kvs.map (·.1))[j]? = some k := by
      rw [KV.keys rk, List.getElem?_map, hky] <;> rfl
    have e2 : (kvs.map fun kv => kV kv.1)[j]? = some (kV k) := by
      have e3 : (kvs.map fun kv => kV kv.1) = (kvs.map (·.1)).map kV := by rw [List.map_map] <;> rfl
      rw [e3, List.getElem?_map, e1] <;> rfl
    rw [e2] at h1
    cases h1
    exact keyIs_rel hi
  have hi := hv.ints
  have hoL : (h'.push { cls := .type "list", data := .seq acc.toList.toArray }).get? h'.objs.size = some (seqObj "list" acc.toList.toArray 0) := Heap.get?_push_size _ rfl
  have hz2 : acc.toList.length ≤ sizeLine := by rw [hsz, ← hl]; exact z
  have hlt : s.heap.objs.size ≤ h'.objs.size := Nat.le_of_lt hlt0
  refine wpAny_bind (wpAny_holding (wpAny_call_entry slot_list_sort ⟨_, hoL, rfl⟩ entry_list_sort (SrtO.list_sort_ord SrtO.swo_int hoL hz2 (fun h2 => SrtO.ints_sortable hi h2) fun out h1 h2 => ⟨.none, rfl, ?_⟩) (args_list_sort _)))
  obtain ⟨k1, k2, k3⟩ := SrtO.ints_out hi h1 h2
  obtain ⟨ep2, he'⟩ := PyProof.Rows.sortedHeap_at (vs := acc.toList) (out := out.toArray) hoL
  have hlen : ((out.map SrtO.iv).map V.int).length ≤ sizeLine := by
    rw [List.length_map, k2.length_eq]
    have := hv.length
    rw [List.length_map] at this
    rw [this]; exact hz2
  refine wpAny_pure ⟨_, rfl, ?_⟩
  refine ⟨.ref h'.objs.size, upd H h'.objs.size (.lst ((out.map SrtO.iv).map V.int)), I.laid (t' := _) (fun b u hu => ?_) hlt ⟨hlen, out, ep2, vals_of_ints k1, he'⟩, rfl, q _ _ k2 k3 (I.hok.fresh hlt)⟩
  have hb := hkeep b u hu
  rw [PyProof.Rows.sortedHeap_old (Nat.ne_of_lt (Heap.lt_size hb)) (by rw [Heap.size_push]; exact Nat.lt_succ_of_lt (Heap.lt_size hb))]
  exact Heap.get?_push_of_some _ hb
end
end L2
namespace Mir
open PySem L2
section
variable {W : Wd} {S : SCx} {Wx : WX}
def intKeys : List (Key × D) → Option (List Int)
  | [] => some []
  | (.inl i, _) :: l => match intKeys l with | some ns => some (i :: ns) | none => none
  | (.inr _, _) :: _ => none
theorem intKeys_rep : ∀ {kvs : List (Key × D)} {ks : List (Key × V)} {ns : List Int}, intKeys kvs = some ns → kvs.map (·.1) = ks.map (·.1) → (ks.map fun kv => kV kv.1) = ns.map V.int
  | [], [], ns, h, _ => by cases h; rfl
  | [], _ :: _, _, _, h => by simp at h
  | _ :: _, [], _, _, h => by simp at h
  | a :: as, b :: bs, ns, h, e => by
    simp only [List.map_cons, List.cons.injEq] at e
    obtain ⟨a1, a2⟩ := a
    obtain ⟨b1, b2⟩ := b
    have e1 : a1 = b1 := e.1
    subst e1
    cases a1 with
    | inr x => cases h
    | inl i =>
      unfold intKeys at h
      cases hk : intKeys as with
      | none => rw [hk] at h; cases h
      | some l =>
        rw [hk] at h
        cases h
        rw [List.map_cons, List.map_cons, intKeys_rep hk e.2]
        rfl
def sortKM : TV → M TV := fun x m => match x with
  | .d (.ref n) => match m[n]? with
    | some (.dic kvs) => match intKeys kvs with
      | some ns => .ok (.l ((sortI ns).map D.int)) m
      | none => .no
    | _ => .no
  | _ => .no
def sortKE (o : EM) : EM := fun env => bindM (o env) sortKM
theorem se_sortK {o : Expr} {mo : EM} {p apos cpos pos : Pos} (hm : W.mg "sorted" = none) (ho : SE W S o mo) (hg : S.sc.names.lookup ("sorted" : Str) = some .globalImplicit := by rfl) (hc : S.hot = false := by rfl)
    (hbase : ∀ env, attributeBase o "keys" env (eval o env) = eval o env := by intro _; rfl) (hline : (apos.endLine == cpos.line) = true := by rfl)
    (he : ∀ env, starEach [Expr.Call (.Attribute o "keys" apos) [] [] cpos] env = (false, eval (.Call (.Attribute o "keys" apos) [] [] cpos) env) :: starEach [] env := by intro _; rfl) (hpl : ∀ env, (backTo pos (starEach [] env)).any (·.1) = false := by intro _; rfl) :
    SE W S (.Call (.Name "sorted" p) [.Call (.Attribute o "keys" apos) [] [] cpos] [] pos) (sortKE mo) := by
  obtain ⟨to, a0, b0⟩ := ho.ex
  refine ⟨fun Wx => tCB rSortKV (tCons (tBM0 W.K "dict" rKeysV (to Wx)) tNil), fun X Wx x => by rw [← x.K]; exact pe_callB (cr_sortedKV (x.calm hc)) (x.gl hg) (by rw [x.mg]; exact hm) (by decide +kernel) (pa_cons (pe_bm0 F.plainAttrs_dict F.slot_dict_keys F.type_dict_keys mt_keysV (a0 X Wx x) (hbase _) hline) pa_nil (he _)) (by decide) (by decide) (he _) (hpl _), fun Wx σ H ι M env Q s re h => ?_⟩
  unfold sortKE at h
  rw [wpR_bind] at h
  refine b0 Wx σ H ι M env _ s re (wpR_mono h (fun x M1 h1 v ι1 H1 n1 s1 r1 => ?_) fun _ _ _ h => h)
  unfold sortKM at h1
  split at h1
  · split at h1
    · rename_i n _ kvs hmm
      split at h1
      · rename_i ns hns
        cases r1 with
        | ref hi =>
          obtain ⟨ks, hp, r⟩ := s1.obj _ _ _ hmm hi
          refine ⟨.inr (.inr (.inl ⟨rfl, .inl ⟨ks, hp⟩⟩)), _, ks, rfl, rfl, hp, fun q hq => ?_⟩
          have hne : ∀ b, H1 b ≠ none → b ≠ q := fun b hb e => hb (by rw [e]; exact hq)
          refine ⟨q, _, ks, ns, rfl, upd_same, by rw [upd_ne (hne _ (by rw [hp]; exact fun z => nomatch z))]; exact hp, intKeys_rep hns r.keys, fun ns' l hperm hsort hl => ?_⟩
          have e : ns' = sortI ns := PySem.W.ksm_same (hperm.trans (sortI_perm ns).symm) hsort (sortI_sorted ns)
          subst e
          have n2 := fun aa => Nxt.new (ι := ι1) (o := keysO q aa) hq
          have s2 := fun aa => s1.new (u := keysO q aa) hq
          have n3 := Nxt.new (ι := ι1) (o := .lst ((sortI ns).map V.int)) hl
          exact h1 _ ι1 _ ((n1.trans (n2 _)).trans n3) ((s2 _).new hl) ⟨l, _, rfl, upd_same, (s2 _).out hl, (n1.trans (n2 _)).back hl, Reps.ints' _⟩
      · exact h1.elim
    · exact h1.elim
  · exact h1.elim
end
end Mir

set_option maxHeartbeats 4000000
/-! dicts of mixed keys: new, get(k, x), [k], [k] = e, pop(k) -/
namespace L2
open PySem
def f2 (p : KRow) : NestedKey × V := (p.1, p.2.2)
theorem valM_f2 (ks : List KRow) (k : NestedKey) : valV (ks.map f2) k = valM ks k := by
  unfold valM
  induction ks with
  | nil => rfl
  | cons p ks ih =>
    by_cases e : p.1 = k
    · rw [List.map_cons, valV_pos (by exact e), List.find?_cons_of_pos (by simpa using e)]; rfl
    · rw [List.map_cons, valV_neg (by exact e), ih, List.find?_cons_of_neg (by simpa using e)]
theorem putM_f2 (ks : List KRow) (k : NestedKey) (kv v : V) : (putM ks k kv v).map f2 = putK (ks.map f2) k v := by
  have ea : (valM ks k).isSome = ((ks.map f2).any fun y => decide (y.1 = k)) := by
    unfold valM
    induction ks with
    | nil => rfl
    | cons p ks ih =>
      by_cases e : p.1 = k
      · rw [List.find?_cons_of_pos (by simpa using e)]
        simp [f2, e]
      · rw [List.find?_cons_of_neg (by simpa using e), ih]
        simp [f2, e]
  unfold putM putK
  rw [ea]
  split
  · rw [List.map_map, List.map_map]
    refine List.map_congr_left fun p _ => ?_
    by_cases e : p.1 = k
    · simp [f2, e]
    · simp [f2, e]
  · rw [List.map_append]; rfl
theorem popM_f2 (ks : List KRow) (k : NestedKey) : (popM ks k).map f2 = dropK (ks.map f2) k := by
  unfold popM dropK
  induction ks with
  | nil => rfl
  | cons p ks ih =>
    by_cases e : p.1 = k
    · rw [List.filter_cons_of_neg (by simp [e]), List.map_cons, List.filter_cons_of_neg (by simp [f2, e]), ih]
    · rw [List.filter_cons_of_pos (by simp [e]), List.map_cons, List.map_cons, List.filter_cons_of_pos (by simp [f2, e]), ih]
end L2
namespace Mir
open PySem L2
section
variable {W : Wd} {S : SCx} {Wx : WX}
mutual
def nkD : D → Option NestedKey
  | .int i => some (.num i)
  | .str x => some (.text x)
  | .tup ds => (nkDs ds).map NestedKey.tup
  | _ => none
def nkDs : List D → Option (List NestedKey)
  | [] => some []
  | d :: ds => match nkD d, nkDs ds with
    | some k, some ks => some (k :: ks)
    | _, _ => none
end
mutual
theorem nk_rep {H : Hp} {ι : List Addr} : ∀ {d : D} {v : V} {k : NestedKey}, Rep W H ι d v → nkD d = some k → HKey H k v
  | _, _, _, .non, e => by simp [nkD] at e
  | _, _, _, .bl b, e => by simp [nkD] at e
  | _, _, _, .int i, e => by
    simp only [nkD, Option.some.injEq] at e; subst e; exact .num i
  | _, _, _, .str x, e => by
    simp only [nkD, Option.some.injEq] at e; subst e; exact .text x
  | _, _, _, .tup h r, e => by
    simp only [nkD] at e
    obtain ⟨ks, e1, e2⟩ := Option.map_eq_some_iff.mp e
    subst e2
    exact .tup h (nks_rep r e1)
  | _, _, _, .ctup h r, e => by simp [nkD] at e
  | _, _, _, .clst h r, e => by simp [nkD] at e
  | _, _, _, .ref h, e => by simp [nkD] at e
theorem nks_rep {H : Hp} {ι : List Addr} : ∀ {ds : List D} {vs : List V} {ks : List NestedKey}, Reps W H ι ds vs → nkDs ds = some ks → HKeys H ks vs
  | _, _, _, .nil, e => by
    simp only [nkDs, Option.some.injEq] at e; subst e; exact .nil
  | d :: ds, _, _, .cons a b, e => by
    simp only [nkDs] at e
    split at e
    · rename_i k ks h1 h2
      cases e
      exact .cons (nk_rep a h1) (nks_rep b h2)
    · cases e
end
def isMix (m : Mem) : TV → Bool
  | .d (.ref n) => match m[n]? with
    | some (.mix _) => true
    | _ => false
  | _ => false
theorem isMix_rep {H0 H : Hp} {ι : List Addr} {m : Mem} {x : TV} {v : V} (s : Sim W ι m H) (r : RepT W H0 H ι x v) (e : isMix m x = true) : ∃ a ks, v = .ref a ∧ H a = some (mixO W.w a ks) := by
  unfold isMix at e
  split at e
  · split at e
    · rename_i n _ kvs hm
      cases r with
      | ref hi =>
        obtain ⟨ks, h, _, _⟩ := s.obj _ _ _ hm hi
        exact ⟨_, ks, rfl, h⟩
    · cases e
  · cases e
/-- the entry of the key y: of which dict, which key, what -/
def mixAt (m : Mem) (x y : TV) : Option (Nat × List (NestedKey × D) × NestedKey) := match x, y with
  | .d (.ref n), .d y => match m[n]? with
    | some (.mix kvs) => match nkD y with
      | some k => if k.depth ≤ 8 then some (n, kvs, k) else none
      | none => none
    | _ => none
  | _, _ => none
theorem mixAt_rep {H0 H0' H : Hp} {ι : List Addr} {m : Mem} {x y : TV} {vx vy : V} {n : Nat} {kvs : List (NestedKey × D)} {k : NestedKey} (s : Sim W ι m H) (rx : RepT W H0 H ι x vx) (ry : RepT W H0' H ι y vy) (e : mixAt m x y = some (n, kvs, k)) :
    ∃ a ks, vx = .ref a ∧ ι[n]? = some a ∧ m[n]? = some (.mix kvs) ∧ H a = some (mixO W.w a ks) ∧ KsIs H ks ∧ RepF W H ι kvs (ks.map f2) ∧ HKey H k vy ∧ k.depth ≤ 8 := by
  unfold mixAt at e
  split at e
  · split at e
    · split at e
      · split at e
        · rename_i hm _ k' hk hd
          cases e
          cases rx with
          | ref hi =>
            obtain ⟨ks, h, hks, r⟩ := s.obj _ _ _ hm hi
            exact ⟨_, ks, rfl, hi, hm, h, hks, r, nk_rep ry hk, hd⟩
        · cases e
      · cases e
    · cases e
  · cases e
def mixE : EM := fun _ m => .ok (.d (.ref m.length)) (m ++ [.mix []])
theorem se_mix {pos : Pos} : SE W S (.Dict [] [] pos) mixE := by
  refine ⟨fun _ => tMNew W.w, fun X Wx x => by rw [← x.w]; exact pe_mnew, fun Wx σ H ι M env Q s r h => fun p hp => ?_⟩
  exact h _ _ _ (Nxt.add hp) (s.add hp ⟨[], upd_same, fun _ z => (nomatch z), .nil⟩) (.ref (by rw [← s.len, List.getElem?_append_right (Nat.le_refl _)]; simp))
def opMix (x y : TV) : M TV := fun m => match mixAt m x y with
  | some (_, kvs, k) => match getK kvs k with
    | some d => .ok (.d d) m
    | none => .no
  | none => .no
theorem se_mitem {a b : Expr} {ma mb : EM} {pos : Pos} (ha : SE W S a ma) (hb : SE W S b mb) (hs : NoSl b := by intro _ _; rfl) : SE W S (.Subscript a b pos) (binE opMix ma mb) := by
  obtain ⟨ta, a1, a2⟩ := ha.ex
  obtain ⟨tb, b1, b2⟩ := hb.ex
  refine ⟨fun Wx => tMItem W.w (ta Wx) (tb Wx), fun X Wx x => by rw [← x.w]; exact pe_mitem (by have := x.units; omega) (a1 X Wx x) (b1 X Wx x) hs, fun Wx => ?_⟩
  refine simE_op (r := fun x y H2 Q => ∃ a ks k v, x = .ref a ∧ H2 a = some (mixO W.w a ks) ∧ KsIs H2 ks ∧ HKey H2 k y ∧ k.depth ≤ 8 ∧ valM ks k = some v ∧ Q v H2) (a2 Wx) (b2 Wx) (fun H0 H ι m x y vx vy Q s rx ry k h => ?_) (fun x y m e v m' z => by unfold opMix at z; split at z <;> (try split at z) <;> cases z)
  unfold opMix at h
  split at h
  · rename_i n kvs kk e
    obtain ⟨p, ks, ex, _, _, hp, hks, rf, hk, hd⟩ := mixAt_rep s rx ry e
    split at h
    · rename_i d hd'
      obtain ⟨v, hv, rv⟩ := (rf.getK (k := kk)).1 d hd'
      exact ⟨p, ks, kk, v, ex, hp, hks, hk, hd, by rw [← valM_f2]; exact hv, h v ι H Nxt.refl s rv⟩
    · exact h.elim
  · exact h.elim
def mget2E (o k : EM) (z : Env → M D) : EM := fun env => bindM (o env) fun x m => if isMix m x = true then bindM (k env) (fun y => bindM (z env) fun dz m' => match mixAt m' x y with
  | some (_, kvs, k) => match getK kvs k with
    | some d => .ok (.d d) m'
    | none => .ok (.d dz) m'
  | none => .no) m else .no
theorem se_mget2 {o e f : Expr} {mo me : EM} {mz : Env → M D} {apos cpos : Pos} (ho : SE W S o mo) (he : SE W S e me) (hz : SD W S f mz) (hb : ∀ env, attributeBase o "get" env (eval o env) = eval o env := by intro _; rfl)
    (hf : ∀ env, ((backTo cpos (starEach [e, f] env)).all (fun x => !x.1) && (backToKw cpos (keywordEach [] env)).all (fun x => x.1.isSome) && decide (([e, f] : List Expr).length + ([] : List Keyword).length + (if ([] : List Keyword).isEmpty then 0 else 1) < 30)) = true := by intro _; rfl)
    (hl : (apos.endLine == cpos.line) = true := by rfl) (ht : ∀ env, backTo cpos (starEach [e, f] env) = [(false, eval e env), (false, eval f env)] := by intro _; rfl) : SE W S (.Call (.Attribute o "get" apos) [e, f] [] cpos) (mget2E mo me mz) := by
  obtain ⟨t, a, b⟩ := ho.ex
  obtain ⟨u, a2, b2⟩ := he.ex
  obtain ⟨uz, a3, b3⟩ := hz.ex
  refine ⟨fun Wx => tMGet2 W.w (t Wx) (u Wx) (uz Wx), fun X Wx x => by rw [← x.w]; exact pe_mget2 (by have := x.units; omega) (a X Wx x) (a2 X Wx x) (a3 X Wx x) ⟨hb _, hf _, hl, ht _⟩, fun Wx σ H ι M env Q s re q => ?_⟩
  unfold mget2E at q
  rw [wpR_bind] at q
  refine b Wx σ H ι M env _ s re (wpR_mono q (fun x M1 h1 v ι1 H1 n1 s1 r1 => ?_) fun _ _ _ h => h)
  by_cases hc : isMix M1 x = true
  · rw [if_pos hc] at h1
    obtain ⟨p, ks0, rfl, hd⟩ := isMix_rep s1 r1 hc
    refine ⟨p, ks0, rfl, hd, ?_⟩
    rw [wpR_bind] at h1
    refine b2 Wx σ H1 ι1 M1 env _ s1 (re.mono n1) (wpR_mono h1 (fun y M2 h2 w ι2 H2 n2 s2 r2 => ?_) fun _ _ _ h => PostX.next n1 h)
    have n12 := n1.trans n2
    rw [wpR_bind] at h2
    refine b3 Wx σ H2 ι2 M2 env _ s2 (re.mono n12) (wpR_mono h2 (fun dz M3 h3 w3 ι3 H3 n3 s3 r3 => ?_) fun _ _ _ h => PostX.next n12 h)
    have n13 := n12.trans n3
    split at h3
    · rename_i n kvs kk e
      obtain ⟨p', ks, ex, _, _, hp, hks, rf, hk, hd'⟩ := mixAt_rep s3 ((r1.mono n2).mono n3) ((r2.back n1).mono n3) e
      cases ex
      refine ⟨ks, kk, hp, hks, hk, hd', ?_⟩
      split at h3
      · rename_i d hd2
        obtain ⟨v', hv, rv⟩ := (rf.getK (k := kk)).1 d hd2
        rw [valM_f2] at hv
        rw [hv]
        exact h3 _ ι3 H3 n13 s3 rv
      · rename_i hd2
        have hv := (rf.getK (k := kk)).2 hd2
        rw [valM_f2] at hv
        rw [hv]
        exact h3 _ ι3 H3 n13 s3 r3
    · exact h3.elim
  · rw [if_neg hc] at h1; exact h1.elim
def mput (x y : TV) (d : D) : M Unit := fun m => match mixAt m x y with
  | some (n, kvs, k) => if kvs.length < sizeLine then .ok () (m.set n (.mix (setK kvs k d))) else .no
  | none => .no
def mputS (o i : EM) (e : Env → M D) : SMs := fun env => bindM (e env) fun d => bindM (o env) fun x => bindM (i env) fun y => bindM (mput x y d) fun _ => okM (.nxt env)
theorem ss_mput {o i e : Expr} {mo mi : EM} {me : Env → M D} {pos pos' : Pos} (ho : SE W S o mo) (hi : SE W S i mi) (he : SD W S e me) (hs : ∀ env, swapsWith e (some (.Subscript o i pos')) pos.line env = pure false := by intro _; rfl) : SS W S (.Assign [.Subscript o i pos'] e pos) (mputS mo mi me) := by
  obtain ⟨t, a, b⟩ := ho.ex
  obtain ⟨t1, a1, b1⟩ := hi.ex
  obtain ⟨u, a2, b2⟩ := he.ex
  refine ⟨fun Wx => sMPut W.w (t Wx) (t1 Wx) (u Wx), fun X Wx x => by rw [← x.toAt.w]; exact ps_mput (by have := x.units; omega) (a X Wx x.toAt) (a1 X Wx x.toAt) (a2 X Wx x.toAt) (hs _), fun Wx σ H ι M env D s re q => ?_⟩
  unfold mputS at q
  rw [wpR_bind] at q
  refine b2 Wx σ H ι M env _ s re (wpR_mono q (fun d M1 h1 v ι1 H1 n1 s1 r1 => ?_) fun _ _ _ h => h)
  rw [wpR_bind] at h1
  refine b Wx σ H1 ι1 M1 env _ s1 (re.mono n1) (wpR_mono h1 (fun x M2 h2 w ι2 H2 n2 s2 r2 => ?_) fun _ _ _ h => PostX.next n1 h)
  rw [wpR_bind] at h2
  have n12 := n1.trans n2
  refine b1 Wx σ H2 ι2 M2 env _ s2 (re.mono n12) (wpR_mono h2 (fun y M3 h3 w3 ι3 H3 n3 s3 r3 => ?_) fun _ _ _ h => PostX.next n12 h)
  rw [wpR_bind] at h3
  unfold mput at h3
  split at h3
  · rename_i n kvs kk e
    split at h3
    · rename_i hz
      obtain ⟨p, ks, ex, hi, hm, hp, hks, rf, hk, hd⟩ := mixAt_rep s3 (r2.mono n3) (r3.back n2) e
      have rv := r1.mono (n2.trans n3)
      have nx := Nxt.put (o := mixO W.w p (putM ks kk w3 v)) (List.mem_of_getElem? hi) hp (fun _ z => nomatch z) (fun _ _ z => nomatch z) sat_mix
      have s4 := s3.put (o := .mix (setK kvs kk d)) hi hp (fun _ z => nomatch z) (fun _ _ z => nomatch z) ⟨putM ks kk w3 v, upd_same, (hks.put hk hd).kept nx.tups, (show RepF W _ ι3 (setK kvs kk d) ((putM ks kk w3 v).map f2) from by rw [putM_f2]; exact (rf.setK rv).mono nx)⟩ sat_mix
      have n04 := (n12.trans n3).trans nx
      have hl : ks.length = kvs.length := by
        have := rf.length
        simpa using this.symm
      exact ⟨p, ks, kk, ex, hp, hks, hk, hd, by rw [hl]; exact hz, h3 σ ι3 _ n04 s4 (re.mono n04)⟩
    · exact h3.elim
  · exact h3.elim
def mpopE (o k : EM) : EM := fun env => bindM (o env) fun x m => if isMix m x = true then bindM (k env) (fun y m' => match mixAt m' x y with
  | some (n, kvs, k) => match getK kvs k with
    | some d => .ok (.d d) (m'.set n (.mix (delK kvs k)))
    | none => .no
  | none => .no) m else .no
theorem se_mpop {o e : Expr} {mo me : EM} {apos cpos : Pos} (ho : SE W S o mo) (he : SE W S e me) (hb : ∀ env, attributeBase o "pop" env (eval o env) = eval o env := by intro _; rfl)
    (hf : ∀ env, ((backTo cpos (starEach [e] env)).all (fun x => !x.1) && (backToKw cpos (keywordEach [] env)).all (fun x => x.1.isSome) && decide (([e] : List Expr).length + ([] : List Keyword).length + (if ([] : List Keyword).isEmpty then 0 else 1) < 30)) = true := by intro _; rfl)
    (hl : (apos.endLine == cpos.line) = true := by rfl) (ht : ∀ env, backTo cpos (starEach [e] env) = [(false, eval e env)] := by intro _; rfl) : SE W S (.Call (.Attribute o "pop" apos) [e] [] cpos) (mpopE mo me) := by
  obtain ⟨t, a, b⟩ := ho.ex
  obtain ⟨u, a2, b2⟩ := he.ex
  refine ⟨fun Wx => tMPop W.w (t Wx) (u Wx), fun X Wx x => by rw [← x.w]; exact pe_mpop (by have := x.units; omega) (a X Wx x) (a2 X Wx x) ⟨hb _, hf _, hl, ht _⟩, fun Wx σ H ι M env Q s re q => ?_⟩
  unfold mpopE at q
  rw [wpR_bind] at q
  refine b Wx σ H ι M env _ s re (wpR_mono q (fun x M1 h1 v ι1 H1 n1 s1 r1 => ?_) fun _ _ _ h => h)
  by_cases hc : isMix M1 x = true
  · rw [if_pos hc] at h1
    obtain ⟨p, ks0, rfl, hd⟩ := isMix_rep s1 r1 hc
    refine ⟨p, ks0, rfl, hd, ?_⟩
    rw [wpR_bind] at h1
    refine b2 Wx σ H1 ι1 M1 env _ s1 (re.mono n1) (wpR_mono h1 (fun y M2 h2 w ι2 H2 n2 s2 r2 => ?_) fun _ _ _ h => PostX.next n1 h)
    have n12 := n1.trans n2
    split at h2
    · rename_i n kvs kk e
      split at h2
      · rename_i d hd2
        obtain ⟨p', ks, ex, hi, hm, hp, hks, rf, hk, hd'⟩ := mixAt_rep s2 (r1.mono n2) (r2.back n1) e
        cases ex
        obtain ⟨v', hv, rv⟩ := (rf.getK (k := kk)).1 d hd2
        rw [valM_f2] at hv
        have nx := Nxt.put (o := mixO W.w p (popM ks kk)) (List.mem_of_getElem? hi) hp (fun _ z => nomatch z) (fun _ _ z => nomatch z) sat_mix
        exact ⟨ks, kk, v', hp, hks, hk, hd', hv, h2 v' ι2 _ (n12.trans nx) (s2.put hi hp (fun _ z => nomatch z) (fun _ _ z => nomatch z) ⟨popM ks kk, upd_same, hks.pop.kept nx.tups, (show RepF W _ ι2 (delK kvs kk) ((popM ks kk).map f2) from by rw [popM_f2]; exact rf.delK.mono nx)⟩ sat_mix) (rv.mono nx)⟩
      · exact h2.elim
    · exact h2.elim
  · rw [if_neg hc] at h1; exact h1.elim
end
end Mir

set_option maxHeartbeats 4000000
/-! plain reasoning about the mirrors -/
namespace Mir
open PySem L2
/-! ### evaluation -/
def liftF (r : M D) (env : Env) : M TV := fun m => match r m with
  | .ok d m' => .ok (.d d) m'
  | .exc x _ m' => .exc x env m'
  | .no => .no
def fnR (r : M Fl) : M D := fun m => match r m with
  | .ok (.nxt _) m' => .ok .non m'
  | .ok (.ret d) m' => .ok d m'
  | .ok _ _ => .no
  | .exc x _ m' => .exc x [] m'
  | .no => .no
theorem fnM_mk (n : Nat) (b : SMs) (args : List D) : fnM n b args = fnR (b (args.map some ++ List.replicate (n - args.length) none)) := rfl
@[simp] theorem fnR_ret (d : D) : fnR (okM (.ret d)) = okM d := rfl
@[simp] theorem fnR_nxt (e : Env) : fnR (okM (.nxt e)) = okM .non := rfl
theorem fnR_ite (c : Prop) [Decidable c] (a b : M Fl) : fnR (if c then a else b) = if c then fnR a else fnR b := by
  split <;> rfl
theorem fnR_eq {r : M Fl} {m m' : Mem} {d : D} (h : r m = .ok (.ret d) m') : fnR r m = .ok d m' := by simp [fnR, h]
theorem bindM_mk {α β : Type} (a : M α) (f : α → M β) (m : Mem) : bindM a f m = match a m with | .ok x m' => f x m' | .exc e v m' => .exc e v m' | .no => .no := rfl
theorem bindM_eq {α β : Type} {a : M α} {f : α → M β} {m m' : Mem} {x : α} (h : a m = .ok x m') : bindM a f m = f x m' := by rw [bindM_mk, h]
@[simp] theorem bindM_ok {α β : Type} (a : α) (f : α → M β) : bindM (okM a) f = f a := rfl
@[simp] theorem bindM_no {α β : Type} (f : α → M β) : bindM noM f = noM := rfl
@[simp] theorem bindM_bind {α β γ : Type} (a : M α) (f : α → M β) (g : β → M γ) : bindM (bindM a f) g = bindM a fun x => bindM (f x) g := by
  funext m
  simp only [bindM]
  cases a m <;> rfl
theorem bindM_ite {α β : Type} (c : Prop) [Decidable c] (a b : M α) (f : α → M β) : bindM (if c then a else b) f = if c then bindM a f else bindM b f := by
  split <;> rfl
theorem okM_mk {α : Type} (a : α) (m : Mem) : okM a m = .ok a m := rfl
theorem noM_mk {α : Type} (m : Mem) : (noM : M α) m = .no := rfl
@[simp] theorem kE_mk (d : D) (env : Env) : kE d env = okM (.d d) := rfl
@[simp] theorem varE_0 (d : D) (env : Env) : varE 0 (some d :: env) = okM (.d d) := rfl
@[simp] theorem varE_s (i : Nat) (x : Option D) (env : Env) : varE (i + 1) (x :: env) = varE i env := by simp [varE]
@[simp] theorem binE_mk (f : TV → TV → M TV) (a b : EM) (env : Env) : binE f a b env = bindM (a env) fun x => bindM (b env) fun y => f x y := rfl
@[simp] theorem matE_mk (a : EM) (env : Env) : matE a env = bindM (a env) matD := rfl
@[simp] theorem matD_d (d : D) : matD (.d d) = okM d := rfl
@[simp] theorem matD_l (ds : List D) (m : Mem) : matD (.l ds) m = .ok (.ref m.length) (m ++ [.lst ds]) := rfl
@[simp] theorem nilA_mk (env : Env) : nilA env = okM [] := rfl
@[simp] theorem consA_mk (a : Env → M D) (r : Env → M (List D)) (env : Env) : consA a r env = bindM (a env) fun d => bindM (r env) fun ds => okM (d :: ds) := rfl
@[simp] theorem nilT_mk (env : Env) : nilT env = okM [] := rfl
@[simp] theorem consT_mk (a : EM) (r : Env → M (List TV)) (env : Env) : consT a r env = bindM (a env) fun d => bindM (r env) fun ds => okM (d :: ds) := rfl
@[simp] theorem tupE_mk (r : Env → M (List D)) (env : Env) : tupE r env = bindM (r env) fun ds => okM (.d (.tup ds)) := rfl
@[simp] theorem lstE_mk (r : Env → M (List D)) (env : Env) : lstE r env = bindM (r env) fun ds => okM (.l ds) := rfl
@[simp] theorem callF_mk (F : FnSem) (a : Env → M (List D)) (env : Env) : callF F a env = bindM (a env) fun ds => liftF (F ds) env := rfl
@[simp] theorem liftF_ok (d : D) (env : Env) : liftF (okM d) env = okM (.d d) := rfl
theorem liftF_eq {r : M D} {env : Env} {m m' : Mem} {d : D} (h : r m = .ok d m') : liftF r env m = .ok (.d d) m' := by simp [liftF, h]
@[simp] theorem callB_mk (f : List TV → M TV) (r : Env → M (List TV)) (env : Env) : callB f r env = bindM (r env) f := rfl
@[simp] theorem bT_mk (a : EM) (env : Env) : bT a env = bindM (a env) boolT := rfl
@[simp] theorem boolT_mk (b : Bool) : boolT (.d (.bl b)) = okM b := rfl
@[simp] theorem tstT_mk (a : EM) (env : Env) : tstT a env = bindM (a env) truthM := rfl
@[simp] theorem truthM_bl (b : Bool) : truthM (.d (.bl b)) = okM b := rfl
@[simp] theorem truthM_int (i : Int) : truthM (.d (.int i)) = okM (i != 0) := rfl
@[simp] theorem truthM_non : truthM (.d .non) = okM false := rfl
@[simp] theorem notT_mk (a : TMs) (env : Env) : notT a env = bindM (a env) fun b => okM (!b) := rfl
@[simp] theorem andT_mk (a b : TMs) (env : Env) : andT a b env = bindM (a env) fun x => if x = true then b env else okM false := rfl
@[simp] theorem orT_mk (a b : TMs) (env : Env) : orT a b env = bindM (a env) fun x => if x = true then okM true else b env := rfl
@[simp] theorem yesT_mk (env : Env) : yesT env = okM true := rfl
@[simp] theorem andE_mk (a b : EM) (env : Env) : andE a b env = bindM (a env) fun x => bindM (truthM x) fun k => if k = true then b env else okM x := rfl
@[simp] theorem orE_mk (a b : EM) (env : Env) : orE a b env = bindM (a env) fun x => bindM (truthM x) fun k => if k = true then okM x else b env := rfl
@[simp] theorem notE_mk (a : EM) (env : Env) : notE a env = bindM (a env) fun x => bindM (truthM x) fun k => okM (.d (.bl (!k))) := rfl
@[simp] theorem ifE_mk (t : TMs) (a b : EM) (env : Env) : ifE t a b env = bindM (t env) fun x => if x = true then a env else b env := rfl
@[simp] theorem negE_mk (a : EM) (env : Env) : negE a env = bindM (a env) fun x => match x with
  | .d (.int i) => okM (.d (.int (-i)))
  | _ => noM := rfl
@[simp] theorem seqS_mk (a b : SMs) (env : Env) : seqS a b env = bindM (a env) fun fl => match fl with
  | .nxt e => b e
  | fl => okM fl := rfl
@[simp] theorem skipS_mk (env : Env) : skipS env = okM (.nxt env) := rfl
@[simp] theorem ifS_mk (t : TMs) (a b : SMs) (env : Env) : ifS t a b env = bindM (t env) fun k => if k = true then a env else b env := rfl
@[simp] theorem retS_mk (e : Env → M D) (env : Env) : retS e env = bindM (e env) fun d => okM (.ret d) := rfl
@[simp] theorem retNS_mk (env : Env) : retNS env = okM (.ret .non) := rfl
@[simp] theorem dropS_mk (e : EM) (env : Env) : dropS e env = bindM (e env) fun _ => okM (.nxt env) := rfl
@[simp] theorem asgS_mk (e : Env → M D) (g : D → Env → M Env) (env : Env) : asgS e g env = bindM (e env) fun d => bindM (g d env) fun env' => okM (.nxt env') := rfl
@[simp] theorem nmG_mk (i : Nat) (d : D) (env : Env) : nmG i d env = okM (env.set i (some d)) := rfl
@[simp] theorem set_0 (x : Option D) (env : Env) (v : Option D) : List.set (x :: env) 0 v = v :: env := rfl
@[simp] theorem set_s (i : Nat) (x : Option D) (env : Env) (v : Option D) : List.set (x :: env) (i + 1) v = x :: env.set i v := rfl
@[simp] theorem brkS_mk (env : Env) : brkS env = okM (.brk env) := rfl
@[simp] theorem cntS_mk (env : Env) : cntS env = okM (.cnt env) := rfl
/-! ### whole numbers -/
theorem intOp_mk (C : Int → Int → Prop) [∀ i j, Decidable (C i j)] (g : Int → Int → D) (i j : Int) : intOp C g (.d (.int i)) (.d (.int j)) = if C i j then okM (.d (g i j)) else noM := rfl
@[simp] theorem opAdd_i (i j : Int) : opAdd (.d (.int i)) (.d (.int j)) = okM (.d (.int (i + j))) := rfl
@[simp] theorem opSub_i (i j : Int) : opSub (.d (.int i)) (.d (.int j)) = okM (.d (.int (i - j))) := by simp [opSub, intOp]
@[simp] theorem opLt_i (i j : Int) : opLt (.d (.int i)) (.d (.int j)) = okM (.d (.bl (decide (i < j)))) := by simp [opLt, intOp]
@[simp] theorem opLe_i (i j : Int) : opLe (.d (.int i)) (.d (.int j)) = okM (.d (.bl (decide (i ≤ j)))) := by simp [opLe, intOp]
@[simp] theorem opGt_i (i j : Int) : opGt (.d (.int i)) (.d (.int j)) = okM (.d (.bl (decide (j < i)))) := by simp [opGt, intOp]
@[simp] theorem opGe_i (i j : Int) : opGe (.d (.int i)) (.d (.int j)) = okM (.d (.bl (decide (j ≤ i)))) := by simp [opGe, intOp]
@[simp] theorem opEq_i (i j : Int) : opEq (.d (.int i)) (.d (.int j)) = okM (.d (.bl (decide (i = j)))) := rfl
@[simp] theorem opNe_i (i j : Int) : opNe (.d (.int i)) (.d (.int j)) = okM (.d (.bl (!decide (i = j)))) := rfl
theorem opMul_r {i j : Int} (h : -18446744073709551616 < j ∧ j < 18446744073709551616) : opMul (.d (.int i)) (.d (.int j)) = okM (.d (.int (i * j))) := by
  simp only [opMul, intOp]; rw [if_pos]; exact .inr h
theorem opMul_l {i j : Int} (h : -18446744073709551616 < i ∧ i < 18446744073709551616) : opMul (.d (.int i)) (.d (.int j)) = okM (.d (.int (i * j))) := by
  simp only [opMul, intOp]; rw [if_pos]; exact .inl h
theorem opMod_p {i j : Int} (h : 0 < j) : opMod (.d (.int i)) (.d (.int j)) = okM (.d (.int (i % j))) := by
  simp only [opMod, intOp]; rw [if_pos h]
theorem opDiv_p {i j : Int} (h : 0 < j ∧ j < 1073741824) : opDiv (.d (.int i)) (.d (.int j)) = okM (.d (.int (i / j))) := by
  simp only [opDiv, intOp]; rw [if_pos]; exact h
theorem opShr_p {i j : Int} (h : 0 ≤ j) : opShr (.d (.int i)) (.d (.int j)) = okM (.d (.int (i / 2 ^ j.toNat))) := by
  simp only [opShr, intOp]; rw [if_pos h]
theorem opPow_p {i j : Int} (h : 0 ≤ j ∧ j ≤ 1000000 ∧ i.natAbs < 18446744073709551616) : opPow (.d (.int i)) (.d (.int j)) = okM (.d (.int (i ^ j.toNat))) := by
  simp only [opPow, intOp]; rw [if_pos]; exact h
theorem opShl_p {i j : Int} (h : 0 ≤ j ∧ j ≤ 1000000 ∧ i.natAbs < 18446744073709551616) : opShl (.d (.int i)) (.d (.int j)) = okM (.d (.int (i * 2 ^ j.toNat))) := by
  simp only [opShl, intOp]; rw [if_pos]; exact h
end Mir

set_option maxHeartbeats 4000000
namespace Mir
open PySem L2
/-! ### loops -/
/-- the first turns, from i on -/
theorem loop_from {f : Nat → Mem → Option (Option D)} {g : D → Env → M Env} {body : SMs} {ds : List D} (P : Nat → Env → Mem → Prop) (hf : ∀ i env m, P i env m → f i m = some ds[i]?)
    (h : ∀ i d env m, ds[i]? = some d → P i env m → ∃ e1 m1, (bindM (g d env) body m = .ok (.nxt e1) m1 ∨ bindM (g d env) body m = .ok (.cnt e1) m1) ∧ P (i + 1) e1 m1) :
    ∀ (n i : Nat) (env : Env) (m : Mem), i + n = ds.length → P i env m → ∃ e' m', loopS f g body (n + 1) i env m = .ok (.nxt e') m' ∧ P ds.length e' m'
  | 0, i, env, m, hi, p => by
    have hi : i = ds.length := by omega
    subst hi
    refine ⟨env, m, ?_, p⟩
    have e := hf _ env m p
    simp only [loopS]
    rw [e]
    simp
  | n + 1, i, env, m, hi, p => by
    have hlt : i < ds.length := by omega
    have e := hf i env m p
    have ed : ds[i]? = some ds[i] := List.getElem?_eq_getElem hlt
    obtain ⟨e1, m1, hb, p1⟩ := h i ds[i] env m ed p
    obtain ⟨e2, m2, h2, p2⟩ := loop_from P hf h n (i + 1) e1 m1 (by omega) p1
    refine ⟨e2, m2, ?_, p2⟩
    rw [loopS]
    simp only [e, ed]
    have key : ∀ fl, (fl = Fl.nxt e1 ∨ fl = Fl.cnt e1) → bindM (g ds[i] env) body m = .ok fl m1 → bindM (g ds[i] env) (fun e1 => bindM (body e1) fun fl => match fl with
      | .nxt e => loopS f g body (n + 1) (i + 1) e
      | .cnt e => loopS f g body (n + 1) (i + 1) e
      | .brk e => okM (.nxt e)
      | .ret d => okM (.ret d)) m = loopS f g body (n + 1) (i + 1) e1 m1 := by
      intro fl hfl hb
      rw [← bindM_bind, bindM_eq hb]
      rcases hfl with rfl | rfl <;> rfl
    rcases hb with hb | hb
    · exact (key _ (.inl rfl) hb).trans h2
    · exact (key _ (.inr rfl) hb).trans h2
theorem loop_ok {f : Nat → Mem → Option (Option D)} {g : D → Env → M Env} {body : SMs} {ds : List D} (P : Nat → Env → Mem → Prop) {env : Env} {m : Mem} (h0 : P 0 env m) (hf : ∀ i env m, P i env m → f i m = some ds[i]?)
    (h : ∀ i d env m, ds[i]? = some d → P i env m → ∃ e1 m1, (bindM (g d env) body m = .ok (.nxt e1) m1 ∨ bindM (g d env) body m = .ok (.cnt e1) m1) ∧ P (i + 1) e1 m1) :
    ∃ e' m', loopS f g body (ds.length + 1) 0 env m = .ok (.nxt e') m' ∧ P ds.length e' m' := loop_from P hf h ds.length 0 env m (by omega) h0
@[simp] theorem ofL_n (ds : List D) : (Src.ofL ds).n = ds.length + 1 := rfl
@[simp] theorem ofL_at (ds : List D) (i : Nat) (m : Mem) : (Src.ofL ds).at_ i m = some ds[i]? := rfl
@[simp] theorem ofR_n (k n : Nat) : (Src.ofR k n).n = n + 1 := rfl
theorem ofR_at {k n : Nat} {ds : List D} {m : Mem} (h : m[k]? = some (.lst ds)) (i : Nat) : (Src.ofR k n).at_ i m = some ds[i]? := by simp [Src.ofR, h]
@[simp] theorem forS_mk (src : Env → M Src) (g : D → Env → M Env) (body : SMs) (env : Env) : forS src g body env = bindM (src env) fun sr => loopS sr.at_ g body sr.n 0 env := rfl
@[simp] theorem seqI_mk (a : EM) (env : Env) : seqI a env = bindM (a env) seqSrc := rfl
@[simp] theorem seqSrc_l (ds : List D) : seqSrc (.l ds) = okM (Src.ofL ds) := rfl
@[simp] theorem seqSrc_clst (ds : List D) : seqSrc (.d (.clst ds)) = okM (Src.ofL ds) := rfl
@[simp] theorem seqSrc_tup (ds : List D) : seqSrc (.d (.tup ds)) = okM (Src.ofL ds) := rfl
@[simp] theorem seqSrc_ctup (ds : List D) : seqSrc (.d (.ctup ds)) = okM (Src.ofL ds) := rfl
theorem seqSrc_ref {k : Nat} {ds : List D} {m : Mem} (h : m[k]? = some (.lst ds)) : seqSrc (.d (.ref k)) m = .ok (Src.ofR k ds.length) m := by simp [seqSrc, tupOf, h]
theorem rng1_ok {j : Int} (h : -4611686018427387904 ≤ j ∧ j < 4611686018427387904) : rng1 [.d (.int j)] = okM (Src.ofL (rngL 0 j.toNat)) := by
  simp only [rng1]; rw [if_pos]; exact h
theorem rng2_ok {i j : Int} (h : -4611686018427387904 ≤ i ∧ i < 4611686018427387904) (h' : -4611686018427387904 ≤ j ∧ j < 4611686018427387904) : rng2 [.d (.int i), .d (.int j)] = okM (Src.ofL (rngL i (j - i).toNat)) := by
  simp only [rng2]; rw [if_pos]; exact ⟨h.1, h.2, h'.1, h'.2⟩
/-! ### comprehensions -/
theorem lcS_from {f : Nat → Mem → Option (Option D)} {turn : D → M (Option D)} {ds : List D} (hd : D → Option D) (hf : ∀ i m, f i m = some ds[i]?) (h : ∀ d ∈ ds, turn d = okM (hd d)) (hz : ds.length < sizeLine) :
    ∀ (n i : Nat) (acc : List D), i + n = ds.length → acc.length ≤ i → lcS f turn (n + 1) i acc = okM (acc ++ (ds.drop i).filterMap hd)
  | 0, i, acc, hi, ha => by
    have hi : i = ds.length := by omega
    subst hi
    funext m
    simp only [lcS]
    rw [hf]
    simp [okM]
  | n + 1, i, acc, hi, ha => by
    have hlt : i < ds.length := by omega
    have ed : ds[i]? = some ds[i] := List.getElem?_eq_getElem hlt
    have ht := h ds[i] (List.getElem_mem hlt)
    funext m
    rw [lcS]
    simp only [hf, ed, ht]
    rw [List.drop_eq_getElem_cons hlt]
    have e0 : ∀ o : Option D, noX (okM o) = okM o := fun o => rfl
    rw [e0, bindM_ok]
    cases e : hd ds[i] with
    | none =>
      dsimp only
      rw [lcS_from hd hf h hz n (i + 1) acc (by omega) (by omega), List.filterMap_cons, e]
    | some y =>
      dsimp only
      rw [if_pos (by omega)]
      rw [lcS_from hd hf h hz n (i + 1) (acc ++ [y]) (by omega) (by simp; omega), List.filterMap_cons, e, List.append_assoc]
      rfl
theorem lcS_pure {turn : D → M (Option D)} {ds : List D} (hd : D → Option D) (h : ∀ d ∈ ds, turn d = okM (hd d)) (hz : ds.length < sizeLine) : lcS (Src.ofL ds).at_ turn (Src.ofL ds).n 0 [] = okM (ds.filterMap hd) := by
  have := lcS_from (f := (Src.ofL ds).at_) hd (fun i m => rfl) h hz ds.length 0 [] (by omega) (by simp)
  simpa using this
@[simp] theorem lcE_mk (src : Env → M Src) (vs : List Nat) (g : D → Env → M Env) (t : TMs) (e : Env → M D) (env : Env) : lcE src vs g t e env = bindM (src env) fun sr => bindM (lcS sr.at_ (lcT env vs g t e) sr.n 0 []) fun ds => okM (.l ds) := rfl
@[simp] theorem lcT_mk (env : Env) (vs : List Nat) (g : D → Env → M Env) (t : TMs) (e : Env → M D) (d : D) : lcT env vs g t e d = bindM (g d (wipeE env vs)) fun env' => bindM (t env') fun b => if b = true then bindM (e env') fun y => okM (some y) else okM none := rfl
@[simp] theorem wipeE_nil (e : Env) : wipeE e [] = e := rfl
@[simp] theorem wipeE_cons (e : Env) (v : Nat) (vs : List Nat) : wipeE e (v :: vs) = (wipeE e vs).set v none := rfl
/-! ### items, slices, lengths -/
@[simp] theorem opIdx_tup0 (a : D) (xs : List D) : opIdx (.d (.tup (a :: xs))) (.d (.int 0)) = okM (.d a) := by
  funext m
  simp [opIdx, idxT, idxOf, tupOf, L2.atI, ixN, okM]
@[simp] theorem opIdx_tup1 (a b : D) (xs : List D) : opIdx (.d (.tup (a :: b :: xs))) (.d (.int 1)) = okM (.d b) := by
  funext m
  have h : (1 : Int) < ((a :: b :: xs).length : Int) := by simp only [List.length_cons]; omega
  simp only [opIdx, idxT, idxOf, tupOf, L2.atI, ixN, okM]
  rw [if_pos (by decide), if_pos h]
  rfl
@[simp] theorem opIdx_tup2 (a b c : D) (xs : List D) : opIdx (.d (.tup (a :: b :: c :: xs))) (.d (.int 2)) = okM (.d c) := by
  funext m
  have h : (2 : Int) < ((a :: b :: c :: xs).length : Int) := by simp only [List.length_cons]; omega
  simp only [opIdx, idxT, idxOf, tupOf, L2.atI, ixN, okM]
  rw [if_pos (by decide), if_pos h]
  rfl
theorem opIdx_tup {xs : List D} {i : Int} {d : D} (h : L2.atI xs i = some d) : opIdx (.d (.tup xs)) (.d (.int i)) = okM (.d d) := by
  funext m
  simp [opIdx, idxT, idxOf, tupOf, h, okM]
theorem opIdx_l {xs : List D} {i : Int} {d : D} (h : L2.atI xs i = some d) : opIdx (.l xs) (.d (.int i)) = okM (.d d) := by
  funext m
  simp [opIdx, idxL, idxOf, listOf, h, okM]
theorem opIdx_clst {xs : List D} {i : Int} {d : D} (h : L2.atI xs i = some d) : opIdx (.d (.clst xs)) (.d (.int i)) = okM (.d d) := by
  funext m
  simp [opIdx, idxL, idxOf, listOf, h, okM]
theorem opIdx_ref {k : Nat} {xs : List D} {m : Mem} {i : Int} {d : D} (hm : m[k]? = some (.lst xs)) (h : L2.atI xs i = some d) : opIdx (.d (.ref k)) (.d (.int i)) m = .ok (.d d) m := by
  simp [opIdx, idxL, idxOf, listOf, hm, h]
theorem atI_nat' {α : Type} {xs : List α} {i : Int} (h : 0 ≤ i ∧ i < xs.length) : ∃ d, L2.atI xs i = some d ∧ xs[i.toNat]? = some d := by
  have hlt : i.toNat < xs.length := by omega
  refine ⟨xs[i.toNat], ?_, List.getElem?_eq_getElem hlt⟩
  simp only [L2.atI, ixN]
  rw [if_pos h.1, if_pos h.2]
  simp [List.getElem?_eq_getElem hlt]
@[simp] theorem callB_len_clst (ds : List D) : bLen [.d (.clst ds)] = okM (.d (.int ds.length)) := rfl
@[simp] theorem callB_len_l (ds : List D) : bLen [.l ds] = okM (.d (.int ds.length)) := rfl
@[simp] theorem callB_len_tup (ds : List D) : bLen [.d (.tup ds)] = okM (.d (.int ds.length)) := rfl
@[simp] theorem sliceE_mk (a : EM) (lo hi : Env → M (Option Int)) (env : Env) : sliceE a lo hi env = bindM (a env) fun x => bindM (lo env) fun l => bindM (hi env) fun h => opCut x l h := rfl
@[simp] theorem noP_mk (env : Env) : noP env = okM none := rfl
@[simp] theorem intP_mk (a : EM) (env : Env) : intP a env = bindM (a env) fun x => match x with
  | .d (.int i) => okM (some i)
  | _ => noM := rfl
@[simp] theorem opCut_l (xs : List D) (lo hi : Option Int) : opCut (.l xs) lo hi = okM (.l (cutD xs lo hi)) := rfl
@[simp] theorem opCut_clst (xs : List D) (lo hi : Option Int) : opCut (.d (.clst xs)) lo hi = okM (.l (cutD xs lo hi)) := rfl
@[simp] theorem opCut_tup (xs : List D) (lo hi : Option Int) : opCut (.d (.tup xs)) lo hi = okM (.d (.tup (cutD xs lo hi))) := rfl
theorem cutD_len {α : Type} (xs : List α) (lo hi : Option Int) : (cutD xs lo hi).length ≤ xs.length := by
  unfold cutD
  rw [List.length_take, List.length_drop]
  omega
theorem cutD_mem {α : Type} {xs : List α} {lo hi : Option Int} {x : α} (h : x ∈ cutD xs lo hi) : x ∈ xs := List.mem_of_mem_drop (List.mem_of_mem_take h)
theorem line_eq : sizeLine = 16777216 := sizeLine_eq
theorem opAdd_ll {xs ys : List D} (h : xs.length + ys.length ≤ 16777216) : opAdd (.l xs) (.l ys) = okM (.l (xs ++ ys)) := by
  funext m
  show opCat (.l xs) (.l ys) m = _
  simp only [opCat, listOfM]
  rw [if_pos (by rw [line_eq]; exact h)]
  rfl
@[simp] theorem isiB_mk (T : String) (a : EM) (env : Env) : isiE T a env = bindM (a env) (isiB T) := rfl
theorem isiB_of {T t : String} {x : TV} {m : Mem} {b : Bool} (h : tyN m x = some t) (k : kitB t T = some b) : isiB T x m = .ok (.d (.bl b)) m := by simp [isiB, h, k, retI]
theorem kit_bool_bool : kitB "bool" "bool" = some true := by decide +kernel
theorem kit_int_bool : kitB "int" "bool" = some false := by decide +kernel
theorem kit_int_int : kitB "int" "int" = some true := by decide +kernel
theorem kit_bool_int : kitB "bool" "int" = some true := by decide +kernel
theorem kit_list_list : kitB "list" "list" = some true := by decide +kernel
theorem kit_tuple_tuple : kitB "tuple" "tuple" = some true := by decide +kernel
theorem kit_non_int : kitB "NoneType" "int" = some false := by decide +kernel
theorem kit_non_bool : kitB "NoneType" "bool" = some false := by decide +kernel
@[simp] theorem isi_bool_bool (b : Bool) : isiB "bool" (.d (.bl b)) = okM (.d (.bl true)) := by funext m; exact isiB_of rfl kit_bool_bool
@[simp] theorem isi_int_bool (i : Int) : isiB "bool" (.d (.int i)) = okM (.d (.bl false)) := by funext m; exact isiB_of rfl kit_int_bool
@[simp] theorem isi_int_int (i : Int) : isiB "int" (.d (.int i)) = okM (.d (.bl true)) := by funext m; exact isiB_of rfl kit_int_int
@[simp] theorem isi_bool_int (b : Bool) : isiB "int" (.d (.bl b)) = okM (.d (.bl true)) := by funext m; exact isiB_of rfl kit_bool_int
@[simp] theorem isi_tup_tup (xs : List D) : isiB "tuple" (.d (.tup xs)) = okM (.d (.bl true)) := by funext m; exact isiB_of rfl kit_tuple_tuple
@[simp] theorem isi_l_list (xs : List D) : isiB "list" (.l xs) = okM (.d (.bl true)) := by funext m; exact isiB_of rfl kit_list_list
theorem isi_ref_list {k : Nat} {xs : List D} {m : Mem} (h : m[k]? = some (.lst xs)) : isiB "list" (.d (.ref k)) m = .ok (.d (.bl true)) m := isiB_of (by simp [tyN, h]) kit_list_list
/-- == of truths -/
@[simp] theorem opEq_b (a b : Bool) : opEq (.d (.bl a)) (.d (.bl b)) = okM (.d (.bl (a == b))) := by
  funext m
  simp [opEq, eqT, eqG, toPyT, toPy, SeqAt.shaped, PyData.canLay0, PyData.depth, PyData.eqv, okM]
@[simp] theorem opNe_b (a b : Bool) : opNe (.d (.bl a)) (.d (.bl b)) = okM (.d (.bl (!(a == b)))) := by
  funext m
  simp [opNe, eqT, eqG, toPyT, toPy, SeqAt.shaped, PyData.canLay0, PyData.depth, PyData.eqv, okM]
end Mir

set_option maxHeartbeats 4000000
namespace Mir
open PySem L2
/-! ### data compared -/
mutual
def noB : PyData → Bool
  | .none => true
  | .int _ => true
  | .str x => PyData.strOk x
  | .list xs => noBs xs
  | .tuple xs => noBs xs
  | _ => false
def noBs : List PyData → Bool
  | [] => true
  | x :: xs => noB x && noBs xs
end
mutual
theorem eqv_iff : ∀ p q : PyData, noB p = true → noB q = true → (PyData.eqv p q = true ↔ p = q)
  | .none, q, _, h => by cases q <;> simp_all [noB, PyData.eqv]
  | .int i, q, _, h => by cases q <;> simp_all [noB, PyData.eqv]
  | .str x, q, _, h => by cases q <;> simp_all [noB, PyData.eqv]
  | .list xs, q, h1, h => by
    cases q with
    | list ys => simp only [PyData.eqv, PyData.list.injEq]; exact eqvAll_iff xs ys (by simpa [noB] using h1) (by simpa [noB] using h)
    | _ => simp_all [noB, PyData.eqv]
  | .tuple xs, q, h1, h => by
    cases q with
    | tuple ys => simp only [PyData.eqv, PyData.tuple.injEq]; exact eqvAll_iff xs ys (by simpa [noB] using h1) (by simpa [noB] using h)
    | _ => simp_all [noB, PyData.eqv]
  | .bool b, _, h, _ => by simp [noB] at h
  | .dict b, _, h, _ => by simp [noB] at h
theorem eqvAll_iff : ∀ xs ys : List PyData, noBs xs = true → noBs ys = true → (PyData.eqvAll xs ys = true ↔ xs = ys)
  | [], [], _, _ => by simp [PyData.eqvAll]
  | [], _ :: _, _, _ => by simp [PyData.eqvAll]
  | _ :: _, [], _, _ => by simp [PyData.eqvAll]
  | x :: xs, y :: ys, h1, h2 => by
    simp only [noBs, Bool.and_eq_true] at h1 h2
    simp only [PyData.eqvAll, Bool.and_eq_true, List.cons.injEq]
    rw [eqv_iff x y h1.1 h2.1, eqvAll_iff xs ys h1.2 h2.2]
end
mutual
theorem canLay_noB : ∀ p : PyData, noB p = true → PyData.canLay0 p = true
  | .none, _ => by simp [PyData.canLay0]
  | .int _, _ => by simp [PyData.canLay0]
  | .str x, h => by simpa [PyData.canLay0, noB] using h
  | .list xs, h => by simp only [PyData.canLay0]; exact canLays_noB xs (by simpa [noB] using h)
  | .tuple xs, h => by simp only [PyData.canLay0]; exact canLays_noB xs (by simpa [noB] using h)
  | .bool b, h => by simp [noB] at h
  | .dict b, h => by simp [noB] at h
theorem canLays_noB : ∀ xs : List PyData, noBs xs = true → PyData.canLayAll0 xs = true
  | [], _ => by simp [PyData.canLayAll0]
  | x :: xs, h => by
    simp only [noBs, Bool.and_eq_true] at h
    simp only [PyData.canLayAll0, Bool.and_eq_true]
    exact ⟨canLay_noB x h.1, canLays_noB xs h.2⟩
end
theorem depthAll_le {k : Nat} : ∀ {ps : List PyData}, (∀ p ∈ ps, p.depth ≤ k) → PyData.depthAll ps ≤ k
  | [], _ => by simp [PyData.depthAll]
  | p :: ps, h => by
    simp only [PyData.depthAll]
    have := h p (by simp)
    have := depthAll_le (ps := ps) (k := k) (fun p hp => h p (by simp [hp]))
    omega
/-- trees without truths -/
def okD : Nat → D → Prop
  | 0, _ => False
  | _ + 1, .non => True
  | _ + 1, .int _ => True
  | _ + 1, .str x => PyData.strOk x = true
  | n + 1, .tup xs => ∀ x ∈ xs, okD n x
  | _ + 1, _ => False
def pyD : Nat → D → PyData
  | 0, _ => .none
  | _ + 1, .int i => .int i
  | _ + 1, .str x => .str x
  | n + 1, .tup xs => .tuple (xs.map (pyD n))
  | _ + 1, _ => .none
theorem noBs_map {f : D → PyData} : ∀ {xs : List D}, (∀ x ∈ xs, noB (f x) = true) → noBs (xs.map f) = true
  | [], _ => by simp [noBs]
  | x :: xs, h => by
    simp only [List.map_cons, noBs, Bool.and_eq_true]
    exact ⟨h x (by simp), noBs_map fun y hy => h y (by simp [hy])⟩
theorem mapM_some {f : D → Option PyData} {g : D → PyData} : ∀ {xs : List D}, (∀ x ∈ xs, f x = some (g x)) → xs.mapM f = some (xs.map g)
  | [], _ => by simp
  | x :: xs, h => by
    rw [List.mapM_cons, h x (by simp), mapM_some (fun y hy => h y (by simp [hy]))]
    rfl
theorem map_inj {f : D → PyData} : ∀ {xs ys : List D}, (∀ x ∈ xs, ∀ y ∈ ys, f x = f y → x = y) → xs.map f = ys.map f → xs = ys
  | [], [], _, _ => rfl
  | [], _ :: _, _, h => by simp at h
  | _ :: _, [], _, h => by simp at h
  | x :: xs, y :: ys, h, e => by
    simp only [List.map_cons, List.cons.injEq] at e
    rw [h x (by simp) y (by simp) e.1, map_inj (fun a ha b hb => h a (by simp [ha]) b (by simp [hb])) e.2]
theorem toPy_okD (m : Mem) : ∀ (n : Nat) (d : D), okD n d → toPy m n d = some (pyD n d) ∧ noB (pyD n d) = true ∧ (pyD n d).depth ≤ n
  | 0, _, h => h.elim
  | n + 1, .non, _ => ⟨rfl, by simp [pyD, noB], by simp [pyD, PyData.depth]⟩
  | n + 1, .int i, _ => ⟨rfl, by simp [pyD, noB], by simp [pyD, PyData.depth]⟩
  | n + 1, .str x, h => ⟨rfl, by simp only [pyD, noB]; exact h, by simp [pyD, PyData.depth]⟩
  | n + 1, .tup xs, h => by
    have h : ∀ x ∈ xs, okD n x := h
    refine ⟨?_, ?_, ?_⟩
    · simp only [toPy, pyD]
      rw [mapM_some fun x hx => (toPy_okD m n x (h x hx)).1]
      rfl
    · simp only [pyD, noB]
      exact noBs_map fun x hx => (toPy_okD m n x (h x hx)).2.1
    · simp only [pyD, PyData.depth]
      have := depthAll_le (ps := xs.map (pyD n)) (k := n) (by
        intro p hp
        obtain ⟨x, hx, rfl⟩ := List.mem_map.1 hp
        exact (toPy_okD m n x (h x hx)).2.2)
      omega
  | n + 1, .bl _, h => h.elim
  | n + 1, .ctup _, h => h.elim
  | n + 1, .clst _, h => h.elim
  | n + 1, .ref _, h => h.elim
theorem pyD_inj : ∀ (n : Nat) (a b : D), okD n a → okD n b → pyD n a = pyD n b → a = b
  | 0, _, _, h, _, _ => h.elim
  | n + 1, a, b, ha, hb, e => by
    cases a <;> cases b <;> simp only [pyD] at e <;> first | rfl | (cases e; rfl) | (cases e; done) | (exact ha.elim) | (exact hb.elim) | skip
    rename_i xs ys
    have ha : ∀ x ∈ xs, okD n x := ha
    have hb : ∀ x ∈ ys, okD n x := hb
    rw [map_inj (fun x hx y hy => pyD_inj n x y (ha x hx) (hb y hy)) (PyData.tuple.inj e)]
theorem toPyT_lst {m : Mem} {x : TV} {ds : List D} (e : listOf m x = some ds) (h : ∀ d ∈ ds, okD 7 d) : toPyT m x = some (.list (ds.map (pyD 7))) := by
  have k := mapM_some (f := toPy m 7) (g := pyD 7) fun x hx => (toPy_okD m 7 x (h x hx)).1
  cases x with
  | l xs => cases e; simp only [toPyT, k]; rfl
  | d x =>
    cases x with
    | clst xs => cases e; simp only [toPyT, toPy, k]; rfl
    | ref r =>
      simp only [listOf] at e
      split at e
      · rename_i hm
        cases e
        simp only [toPyT, toPy, hm, k]; rfl
      · cases e
    | _ => cases e
theorem shaped_lst {ds : List D} (h : ∀ d ∈ ds, okD 7 d) : SeqAt.shaped (.list (ds.map (pyD 7))) = true ∧ noB (.list (ds.map (pyD 7))) = true := by
  have hn : noB (.list (ds.map (pyD 7))) = true := by
    simp only [noB]
    exact noBs_map fun x hx => (toPy_okD [] 7 x (h x hx)).2.1
  refine ⟨?_, hn⟩
  unfold SeqAt.shaped
  rw [canLay_noB _ hn, Bool.true_and]
  apply decide_eq_true
  simp only [PyData.depth]
  have := depthAll_le (ps := ds.map (pyD 7)) (k := 7) (by
    intro p hp
    obtain ⟨x, hx, rfl⟩ := List.mem_map.1 hp
    exact (toPy_okD [] 7 x (h x hx)).2.2)
  omega
theorem shaped_okD {d : D} (h : okD 8 d) : SeqAt.shaped (pyD 8 d) = true ∧ noB (pyD 8 d) = true := by
  obtain ⟨_, h2, h3⟩ := toPy_okD [] 8 d h
  refine ⟨?_, h2⟩
  unfold SeqAt.shaped
  rw [canLay_noB _ h2, Bool.true_and]
  apply decide_eq_true
  omega
theorem bool_iff {a b : Bool} (h : a = true ↔ b = true) : a = b := by cases a <;> cases b <;> simp_all
open Classical in
theorem eqG_lst {m : Mem} {x y : TV} {xs ys : List D} (ex : listOf m x = some xs) (ey : listOf m y = some ys) (hx : ∀ d ∈ xs, okD 7 d) (hy : ∀ d ∈ ys, okD 7 d) : eqG m x y = some (decide (xs = ys)) := by
  unfold eqG
  rw [toPyT_lst ex hx, toPyT_lst ey hy]
  dsimp only
  rw [if_pos ⟨(shaped_lst hx).1, (shaped_lst hy).1⟩]
  congr 1
  apply bool_iff
  rw [eqv_iff _ _ (shaped_lst hx).2 (shaped_lst hy).2, decide_eq_true_iff]
  constructor
  · intro e
    exact map_inj (fun a ha b hb => pyD_inj 7 a b (hx a ha) (hy b hb)) (PyData.list.inj e)
  · rintro rfl; rfl
open Classical in
theorem eqG_d {m : Mem} {a b : D} (ha : okD 8 a) (hb : okD 8 b) : eqG m (.d a) (.d b) = some (decide (a = b)) := by
  unfold eqG
  simp only [toPyT]
  rw [(toPy_okD m 8 a ha).1, (toPy_okD m 8 b hb).1]
  dsimp only
  rw [if_pos ⟨(shaped_okD ha).1, (shaped_okD hb).1⟩]
  congr 1
  apply bool_iff
  rw [eqv_iff _ _ (shaped_okD ha).2 (shaped_okD hb).2, decide_eq_true_iff]
  constructor
  · exact pyD_inj 8 a b ha hb
  · rintro rfl; rfl
theorem eqT_of {m : Mem} {x y : TV} {b : Bool} (h : eqG m x y = some b) (hx : ∀ i, x ≠ .d (.int i)) (hs : ∀ i, x ≠ .d (.str i)) : eqT m x y = some b := by
  unfold eqT
  split
  · exact absurd rfl (hx _)
  · exact absurd rfl (hs _)
  · exact h
theorem listOf_ne {m : Mem} {x : TV} {xs : List D} (e : listOf m x = some xs) : (∀ i, x ≠ .d (.int i)) ∧ ∀ i, x ≠ .d (.str i) := by
  constructor <;> (intro i h; subst h; cases e)
open Classical in
theorem opEq_lst {m : Mem} {x y : TV} {xs ys : List D} (ex : listOf m x = some xs) (ey : listOf m y = some ys) (hx : ∀ d ∈ xs, okD 7 d) (hy : ∀ d ∈ ys, okD 7 d) : opEq x y m = .ok (.d (.bl (decide (xs = ys)))) m := by
  simp only [opEq, eqT_of (eqG_lst ex ey hx hy) (listOf_ne ex).1 (listOf_ne ex).2]
open Classical in
theorem opNe_lst {m : Mem} {x y : TV} {xs ys : List D} (ex : listOf m x = some xs) (ey : listOf m y = some ys) (hx : ∀ d ∈ xs, okD 7 d) (hy : ∀ d ∈ ys, okD 7 d) : opNe x y m = .ok (.d (.bl (!decide (xs = ys)))) m := by
  simp only [opNe, eqT_of (eqG_lst ex ey hx hy) (listOf_ne ex).1 (listOf_ne ex).2]
theorem eqT_d {m : Mem} {a b : D} {k : Bool} (h : eqG m (.d a) (.d b) = some k) (hi : ∀ i j, a = .int i → b = .int j → k = decide (i = j)) (hs : ∀ i j, a = .str i → b = .str j → k = decide (i = j)) : eqT m (.d a) (.d b) = some k := by
  unfold eqT
  split
  · rename_i i j e1 e2; cases e1; cases e2; rw [hi _ _ rfl rfl]
  · rename_i i j e1 e2; cases e1; cases e2; rw [hs _ _ rfl rfl]
  · exact h
open Classical in
theorem eqT_okD {m : Mem} {a b : D} (ha : okD 8 a) (hb : okD 8 b) : eqT m (.d a) (.d b) = some (decide (a = b)) := by
  refine eqT_d (eqG_d ha hb) (fun i j e1 e2 => ?_) (fun i j e1 e2 => ?_)
  · subst e1 e2; apply bool_iff; simp
  · subst e1 e2; apply bool_iff; simp
open Classical in
theorem opEq_okD {a b : D} (ha : okD 8 a) (hb : okD 8 b) : opEq (.d a) (.d b) = okM (.d (.bl (decide (a = b)))) := by
  funext m; simp only [opEq, eqT_okD ha hb, okM]
open Classical in
theorem opNe_okD {a b : D} (ha : okD 8 a) (hb : okD 8 b) : opNe (.d a) (.d b) = okM (.d (.bl (!decide (a = b)))) := by
  funext m; simp only [opNe, eqT_okD ha hb, okM]
/-- two kinds are never alike -/
theorem eqG_kind {m : Mem} {x y : TV} {p q : PyData} (ex : toPyT m x = some p) (ey : toPyT m y = some q) (h1 : SeqAt.shaped p = true) (h2 : SeqAt.shaped q = true) : eqG m x y = some (PyData.eqv p q) := by
  unfold eqG
  rw [ex, ey]
  dsimp only
  rw [if_pos ⟨h1, h2⟩]

/-! ### appending -/
@[simp] theorem tvs_mk (a : Env → M (List D)) (env : Env) : tvs a env = bindM (a env) fun ds => okM (ds.map .d) := rfl
@[simp] theorem bmE_mk (T : String) (f : TV → List TV → M TV) (o : EM) (a : Env → M (List TV)) (env : Env) : bmE T f o a env = bindM (o env) fun x m => if chk T m x = true then bindM (a env) (fun xs => f x xs) m else .no := rfl
@[simp] theorem bmE0_mk (T : String) (f : TV → List TV → M TV) (o : EM) (env : Env) : bmE0 T f o env = bindM (o env) fun x m => if chk T m x = true then f x [] m else .no := rfl
theorem chk_lst {m : Mem} {x : TV} {ds : List D} (h : listOf m x = some ds) : chk "list" m x = true := by simp [chk, h]
theorem listOf_ref {m : Mem} {k : Nat} {ds : List D} (h : m[k]? = some (.lst ds)) : listOf m (.d (.ref k)) = some ds := by simp [listOf, h]
theorem lAppend_ok {m : Mem} {k : Nat} {ds : List D} {y : D} (h : m[k]? = some (.lst ds)) (hz : ds.length < 16777216) : lAppend (.d (.ref k)) [.d y] m = .ok (.d .non) (m.set k (.lst (ds ++ [y]))) := by
  simp only [lAppend, h]
  rw [if_pos (by rw [line_eq]; exact hz)]
end Mir

set_option maxHeartbeats 4000000
/-! runs told by what they end in -/
namespace Mir
open PySem L2
abbrev XM := Ex → Env → Mem → Prop
def noEx : XM := fun _ _ _ => False
section
variable {α β : Type} {q : α → Mem → Prop} {x : XM} {m : Mem}
@[simp] theorem wp_ok (a : α) : wpR (.ok a m) q x = q a m := rfl
@[simp] theorem wp_okM (a : α) : wpR (okM a m) q x = q a m := rfl
@[simp] theorem wp_bind {a : M β} {f : β → M α} : wpR (bindM a f m) q x = wpR (a m) (fun v m' => wpR (f v m') q x) x := propext wpR_bind
theorem wp_ite (c : Prop) [Decidable c] (a b : Res α) : wpR (if c then a else b) q x = if c then wpR a q x else wpR b q x := by split <;> rfl
theorem ite_at (c : Prop) [Decidable c] (a b : M α) : (if c then a else b) m = if c then a m else b m := by split <;> rfl
theorem wp_eq {r : Res α} {a : α} {m' : Mem} (h : r = .ok a m') : wpR r q x = q a m' := by rw [h]; rfl
end
@[simp] theorem wp_lift {F : M D} {env : Env} {m : Mem} {q : TV → Mem → Prop} {x : XM} : wpR (liftF F env m) q x = wpR (F m) (fun d m' => q (.d d) m') (fun e _ m' => x e env m') := by
  unfold liftF
  cases F m <;> rfl
theorem wp_fnR {r : M Fl} {m : Mem} {q : D → Mem → Prop} {x : XM} : wpR (fnR r m) q x = wpR (r m) (fun fl m' => match fl with | .nxt _ => q .non m' | .ret d => q d m' | _ => False) (fun e _ m' => x e [] m') := by
  unfold fnR
  cases h : r m with
  | ok fl m' => cases fl <;> rfl
  | exc => rfl
  | no => rfl
theorem wp_fn {n : Nat} {b : SMs} {args : List D} {m : Mem} {q : D → Mem → Prop} {x : XM} (h : wpR (b (args.map some ++ List.replicate (n - args.length) none) m) (fun fl m' => match fl with | .nxt _ => q .non m' | .ret d => q d m' | _ => False) (fun e _ m' => x e [] m')) : wpR (fnM n b args m) q x := by
  rw [fnM_mk, wp_fnR]; exact h
theorem wp_call {F : M D} {m : Mem} {q q' : D → Mem → Prop} {x : XM} (h : wpR (F m) q noEx) (hq : ∀ d m', q d m' → q' d m') : wpR (F m) q' x := wpR_mono h hq fun _ _ _ z => z.elim
theorem wp_from {f : Nat → Mem → Option (Option D)} {g : D → Env → M Env} {body : SMs} {ds : List D} (P : Nat → Env → Mem → Prop) {q : Fl → Mem → Prop} {x : XM} (hf : ∀ i env m, P i env m → f i m = some ds[i]?)
    (h : ∀ i d env m, ds[i]? = some d → P i env m → wpR (bindM (g d env) body m) (fun fl m' => match fl with | .nxt e => P (i + 1) e m' | .cnt e => P (i + 1) e m' | .brk e => q (.nxt e) m' | .ret d => q (.ret d) m') x) (hq : ∀ e m, P ds.length e m → q (.nxt e) m) :
    ∀ (n i : Nat) (env : Env) (m : Mem), i + n = ds.length → P i env m → wpR (loopS f g body (n + 1) i env m) q x
  | 0, i, env, m, hi, p => by
    have hi : i = ds.length := by omega
    subst hi
    have e := hf _ env m p
    simp only [loopS]
    rw [e]
    simp only [List.getElem?_eq_none (Nat.le_refl _)]
    exact hq _ _ p
  | n + 1, i, env, m, hi, p => by
    have hlt : i < ds.length := by omega
    have e := hf i env m p
    have ed : ds[i]? = some ds[i] := List.getElem?_eq_getElem hlt
    have hb := h i ds[i] env m ed p
    rw [loopS]
    simp only [e, ed]
    rw [wp_bind] at hb ⊢
    refine wpR_mono hb (fun e1 m1 h1 => ?_) fun _ _ _ h => h
    rw [wp_bind]
    refine wpR_mono h1 (fun fl m2 h2 => ?_) fun _ _ _ h => h
    cases fl with
    | nxt e2 => exact wp_from P hf h hq n (i + 1) e2 m2 (by omega) h2
    | cnt e2 => exact wp_from P hf h hq n (i + 1) e2 m2 (by omega) h2
    | brk e2 => exact h2
    | ret d => exact h2
theorem wp_loop {f : Nat → Mem → Option (Option D)} {g : D → Env → M Env} {body : SMs} {ds : List D} (P : Nat → Env → Mem → Prop) {q : Fl → Mem → Prop} {x : XM} {env : Env} {m : Mem} (h0 : P 0 env m) (hf : ∀ i env m, P i env m → f i m = some ds[i]?)
    (h : ∀ i d env m, ds[i]? = some d → P i env m → wpR (bindM (g d env) body m) (fun fl m' => match fl with | .nxt e => P (i + 1) e m' | .cnt e => P (i + 1) e m' | .brk e => q (.nxt e) m' | .ret d => q (.ret d) m') x) (hq : ∀ e m, P ds.length e m → q (.nxt e) m) :
    wpR (loopS f g body (ds.length + 1) 0 env m) q x := wp_from P hf h hq ds.length 0 env m (by omega) h0
/-! comprehensions in a store that stays -/
theorem lcS_at_from {f : Nat → Mem → Option (Option D)} {turn : D → M (Option D)} {ds : List D} {m : Mem} (hd : D → Option D) (hf : ∀ i, f i m = some ds[i]?) (h : ∀ d ∈ ds, turn d m = .ok (hd d) m) (hz : ds.length < 16777216) :
    ∀ (n i : Nat) (acc : List D), i + n = ds.length → acc.length ≤ i → lcS f turn (n + 1) i acc m = .ok (acc ++ (ds.drop i).filterMap hd) m
  | 0, i, acc, hi, ha => by
    have hi : i = ds.length := by omega
    subst hi
    simp only [lcS]
    rw [hf]
    simp
  | n + 1, i, acc, hi, ha => by
    have hlt : i < ds.length := by omega
    have ed : ds[i]? = some ds[i] := List.getElem?_eq_getElem hlt
    have ht := h ds[i] (List.getElem_mem hlt)
    rw [lcS]
    simp only [hf, ed]
    rw [List.drop_eq_getElem_cons hlt]
    have e0 : noX (turn ds[i]) m = .ok (hd ds[i]) m := by simp only [noX, ht]
    rw [bindM_eq e0]
    cases e : hd ds[i] with
    | none =>
      dsimp only
      rw [lcS_at_from hd hf h hz n (i + 1) acc (by omega) (by omega), List.filterMap_cons, e]
    | some y =>
      dsimp only
      rw [if_pos (by rw [line_eq]; omega)]
      rw [lcS_at_from hd hf h hz n (i + 1) (acc ++ [y]) (by omega) (by simp; omega), List.filterMap_cons, e, List.append_assoc]
      rfl
theorem lcS_at {f : Nat → Mem → Option (Option D)} {turn : D → M (Option D)} {ds : List D} {m : Mem} (hd : D → Option D) (hf : ∀ i, f i m = some ds[i]?) (h : ∀ d ∈ ds, turn d m = .ok (hd d) m) (hz : ds.length < 16777216) :
    lcS f turn (ds.length + 1) 0 [] m = .ok (ds.filterMap hd) m := by
  have := lcS_at_from hd hf h hz ds.length 0 [] (by omega) (by simp)
  simpa using this
theorem lcS_map {f : Nat → Mem → Option (Option D)} {turn : D → M (Option D)} {ds : List D} {m : Mem} (hd : D → D) (hf : ∀ i, f i m = some ds[i]?) (h : ∀ d ∈ ds, turn d m = .ok (some (hd d)) m) (hz : ds.length < 16777216) :
    lcS f turn (ds.length + 1) 0 [] m = .ok (ds.map hd) m := by
  rw [lcS_at (fun d => some (hd d)) hf h hz]
  congr 1
  induction ds with
  | nil => rfl
  | cons a l ih => simp
theorem mapM_bl : ∀ bs : List Bool, (bs.map D.bl).mapM blOf = some bs
  | [] => by simp
  | b :: bs => by rw [List.map_cons, List.mapM_cons, mapM_bl bs]; rfl
theorem bAll_l (bs : List Bool) : bAll [.l (bs.map D.bl)] = okM (.d (.bl (bs.all id))) := by
  funext m
  simp only [bAll, on1, blsOf, listOf, Option.bind_some, mapM_bl]
  rfl
theorem bAny_l (bs : List Bool) : bAny [.l (bs.map D.bl)] = okM (.d (.bl (bs.any id))) := by
  funext m
  simp only [bAny, on1, blsOf, listOf, Option.bind_some, mapM_bl]
  rfl
theorem opAdd_lists {m : Mem} {x y : TV} {xs ys : List D} (hx : listOfM m x = some xs) (hy : listOfM m y = some ys) (hz : xs.length + ys.length ≤ 16777216) : opAdd x y m = .ok (.l (xs ++ ys)) m := by
  have h : opAdd x y = opCat x y := by
    unfold opAdd
    split
    all_goals first | rfl | (simp [listOfM] at hx; done) | skip
  rw [h]
  simp only [opCat, hx, hy]
  rw [if_pos (by rw [line_eq]; exact hz)]
theorem bLen_ref {m : Mem} {k : Nat} {ds : List D} (h : m[k]? = some (.lst ds)) : bLen [.d (.ref k)] m = .ok (.d (.int ds.length)) m := by
  simp [bLen, on1, lenOf, h, retI, listOf, seqOf, tupOf]
theorem opCut_ref {m : Mem} {k : Nat} {ds : List D} (h : m[k]? = some (.lst ds)) (lo hi : Option Int) : opCut (.d (.ref k)) lo hi m = .ok (.l (cutD ds lo hi)) m := by
  simp [opCut, h, listOf, seqOf, tupOf]
theorem bList_ref {m : Mem} {k : Nat} {ds : List D} (h : m[k]? = some (.lst ds)) : bList [.d (.ref k)] m = .ok (.l ds) m := by
  simp [bList, on1, h, listOf, seqOf, tupOf]
end Mir

set_option maxHeartbeats 1000000
/-! objects and dicts run -/
namespace Mir
open PySem L2
def fldM (cs : List Nat) (f : Str) (x : TV) : M TV := fun m => match getF cs f x m with
  | some d => .ok (.d d) m
  | none => .no
theorem fldE_mk (cs : List Nat) (f : Str) (o : EM) (env : Mir.Env) : fldE cs f o env = bindM (o env) (fldM cs f) := rfl
theorem fldM_ok {m : Mem} {k c : Nat} {fs : List (Str × D)} {cs : List Nat} {f : Str} {d : D} (h : m[k]? = some (.ins c fs)) (hc : c ∈ cs) (hf : fs.lookup f = some d) : fldM cs f (.d (.ref k)) m = .ok (.d d) m := by
  simp only [fldM, getF, h, if_pos hc, hf]
theorem sfldS_mk (cs : List Nat) (f : Str) (o : EM) (e : Mir.Env → M D) (env : Mir.Env) : sfldS cs f o e env = bindM (e env) fun d => bindM (o env) fun x => bindM (setF cs f x d) fun _ => okM (.nxt env) := rfl
theorem setF_ok {m : Mem} {k c : Nat} {fs : List (Str × D)} {cs : List Nat} {f : Str} {d : D} (h : m[k]? = some (.ins c fs)) (hc : c ∈ cs) (hl : fs.length < 1000) : setF cs f (.d (.ref k)) d m = .ok () (m.set k (.ins c (putD f d fs))) := by
  simp only [setF, h]
  rw [if_pos ⟨hc, hl⟩]
def methM (c : Nat) (name : Str) (F : FnSem) (a : Mir.Env → M (List D)) (env : Mir.Env) (x : TV) : M TV := fun m => match getM c name x m with
  | some d => bindM (a env) (fun ds => liftF (F (d :: ds)) env) m
  | none => .no
theorem methE_mk (c : Nat) (name : Str) (F : FnSem) (o : EM) (a : Mir.Env → M (List D)) (env : Mir.Env) : methE c name F o a env = bindM (o env) (methM c name F a env) := rfl
theorem methM_ok {m : Mem} {k c : Nat} {fs : List (Str × D)} {name : Str} {F : FnSem} {a : Mir.Env → M (List D)} {env : Mir.Env} (h : m[k]? = some (.ins c fs)) (hn : fs.lookup name = none) : methM c name F a env (.d (.ref k)) m = bindM (a env) (fun ds => liftF (F (.ref k :: ds)) env) m := by
  simp only [methM, getM, h]
  simp only [hn, and_self, if_true]
theorem sub_dic {m : Mem} {k : Nat} {kvs : List (Key × D)} {y d : D} {key : Key} (h : m[k]? = some (.dic kvs)) (hk : keyD y = some key) (hd : getK kvs key = some d) : opSubs (.d (.ref k)) (.d y) m = .ok (.d d) m := by
  simp only [opSubs, dget, h, hk, Option.map_some, idxD, hd]
theorem sub_l (xs : List D) (y : TV) : opSubs (.l xs) y = opIdx (.l xs) y := rfl
theorem sub_clst (xs : List D) (y : TV) : opSubs (.d (.clst xs)) y = opIdx (.d (.clst xs)) y := by
  funext m; cases y <;> rfl
theorem sub_lst {m : Mem} {k : Nat} {xs : List D} {i : Int} {d : D} (h : m[k]? = some (.lst xs)) (hi : L2.atI xs i = some d) : opSubs (.d (.ref k)) (.d (.int i)) m = .ok (.d d) m := by
  simp only [opSubs, dget, h]
  exact opIdx_ref h hi
theorem subS_mk (o i : EM) (e : Mir.Env → M D) (env : Mir.Env) : subS o i e env = bindM (e env) fun d => bindM (o env) fun x => bindM (i env) fun y => bindM (subPut x y d) fun _ => okM (.nxt env) := rfl
theorem subPut_dic {m : Mem} {k : Nat} {kvs : List (Key × D)} {y d : D} {key : Key} (h : m[k]? = some (.dic kvs)) (hk : keyD y = some key) (hl : kvs.length < 16777216) : subPut (.d (.ref k)) (.d y) d m = .ok () (m.set k (.dic (setK kvs key d))) := by
  simp only [subPut, isLst, h, Bool.false_eq_true, if_false, dput, hk]
  rw [if_pos (by rw [line_eq]; exact hl)]
theorem getK_cons (k' : Key) (d : D) (r : List (Key × D)) (k : Key) : getK ((k', d) :: r) k = if k' = k then some d else getK r k := by
  unfold getK
  rw [List.find?_cons]
  by_cases h : k' = k
  · simp [h]
  · simp [h]
/-- the value under a key that stands -/
def repK (k : Key) (v : D) : List (Key × D) → List (Key × D)
  | [] => []
  | (k', d) :: r => if k' = k then (k', v) :: repK k v r else (k', d) :: repK k v r
theorem setK_rep {kvs : List (Key × D)} {k : Key} {v : D} (h : (kvs.any fun kv => decide (kv.1 = k)) = true) : setK kvs k v = repK k v kvs := by
  unfold setK
  rw [if_pos h]
  clear h
  induction kvs with
  | nil => rfl
  | cons p r ih =>
    obtain ⟨a, b⟩ := p
    simp only [List.map_cons, repK, ih]
    split <;> rfl
theorem wp_then {α : Type} {r : Res α} {q q' : α → Mem → Prop} {x : XM} (h : wpR r q noEx) (hq : ∀ a m', q a m' → q' a m') : wpR r q' x := wpR_mono h hq fun _ _ _ z => z.elim
theorem opIs_nn : opIs (.d .non) (.d .non) = okM (.d (.bl true)) := rfl
theorem opIs_ni (i : Int) : opIs (.d (.int i)) (.d .non) = okM (.d (.bl false)) := rfl
theorem opIsNot_nn : opIsNot (.d .non) (.d .non) = okM (.d (.bl false)) := rfl
theorem opIsNot_ni (i : Int) : opIsNot (.d (.int i)) (.d .non) = okM (.d (.bl true)) := rfl
theorem opIsB_b (a b : Bool) : opIsB (.d (.bl a)) (.d (.bl b)) = okM (.d (.bl (decide (a = b)))) := rfl
theorem opIsNotB_b (a b : Bool) : opIsNotB (.d (.bl a)) (.d (.bl b)) = okM (.d (.bl (!decide (a = b)))) := rfl
end Mir
namespace Mir
open PySem L2
theorem wp_disp {a : Mir.Env → M (List (D × D))} {env : Mir.Env} {m : Mem} {q : TV → Mem → Prop} {x : XM} : wpR (dispE a env m) q x = wpR (a env (m ++ [.dic []])) (fun kvs m' => match keyed kvs with | some l => if l.length ≤ 15 ∧ isNil m'[m.length]? = true then q (.d (.ref m.length)) (m'.set m.length (.dic (mergeD [] l))) else False | none => False) x := by
  unfold dispE
  rw [wp_bind]
  congr 1
  funext kvs m'
  cases keyed kvs with
  | none => rfl
  | some l =>
    dsimp only
    rw [wp_ite]
    rfl
theorem wp_make {c : Nat} {F : FnSem} {a : Mir.Env → M (List D)} {env : Mir.Env} {m : Mem} {q : TV → Mem → Prop} {x : XM} : wpR (makeE c F a env m) q x = wpR (a env m) (fun ds m1 => wpR (F (.ref m1.length :: ds) (m1 ++ [.ins c []])) (fun d m' => d = .non ∧ q (.d (.ref m1.length)) m') (fun e _ m' => x e env m')) x := by
  unfold makeE
  rw [wp_bind]
  congr 1
  funext ds m1
  cases e : F (.ref m1.length :: ds) (m1 ++ [.ins c []]) with
  | ok d m' => cases d <;> simp [wpR]
  | exc => rfl
  | no => rfl
theorem nilPs_mk (env : Mir.Env) : nilPs env = okM [] := rfl
theorem consPs_mk (k e : Mir.Env → M D) (r : Mir.Env → M (List (D × D))) (env : Mir.Env) : consPs k e r env = bindM (k env) fun x => bindM (e env) fun d => bindM (r env) fun l => okM ((x, d) :: l) := rfl
end Mir

set_option maxHeartbeats 1000000
/-! small facts for plain laws; comprehensions that write the store -/
namespace Mir
open PySem L2
theorem rngL_get {i n : Nat} (a : Int) (h : i < n) : (rngL a n)[i]? = some (.int (a + i)) := by
  simp [rngL, h]
theorem rngL_len (a : Int) (n : Nat) : (rngL a n).length = n := by simp [rngL]
theorem rngL_of {a : Int} {n i : Nat} {d : D} (h : (rngL a n)[i]? = some d) : i < n ∧ d = .int (a + i) := by
  have hlt := (List.getElem?_eq_some_iff.1 h).1
  rw [rngL_len] at hlt
  rw [rngL_get a hlt] at h
  cases h
  exact ⟨hlt, rfl⟩
theorem get_app {m : Mem} {k : Nat} {o : O} (l : Mem) (h : m[k]? = some o) : (m ++ l)[k]? = some o := by
  have := (List.getElem?_eq_some_iff.1 h).1
  rw [List.getElem?_append_left this]; exact h
theorem get_new {m : Mem} {o : O} : (m ++ [o])[m.length]? = some o := by simp
theorem get_set {m : Mem} {k : Nat} {o u : O} (h : m[k]? = some o) : (m.set k u)[k]? = some u := by
  rw [List.getElem?_set_self (List.getElem?_eq_some_iff.1 h).1]
theorem get_lt {m : Mem} {k : Nat} {o : O} (h : m[k]? = some o) : k < m.length := (List.getElem?_eq_some_iff.1 h).1
/-- what stood stands -/
def Ext (m m' : Mem) : Prop := m.length ≤ m'.length ∧ ∀ (i : Nat) (o : O), m[i]? = some o → m'[i]? = some o
theorem Ext.refl (m : Mem) : Ext m m := ⟨Nat.le_refl _, fun _ _ h => h⟩
theorem Ext.trans {a b c : Mem} (h : Ext a b) (k : Ext b c) : Ext a c := ⟨Nat.le_trans h.1 k.1, fun i o e => k.2 i o (h.2 i o e)⟩
theorem Ext.app (m l : Mem) : Ext m (m ++ l) := ⟨by simp, fun i o e => get_app l e⟩
theorem Ext.set {m m' : Mem} (h : Ext m m') {k : Nat} (hk : m.length ≤ k) (u : O) : Ext m (m'.set k u) := by
  refine ⟨by rw [List.length_set]; exact h.1, fun i o e => ?_⟩
  have := get_lt e
  rw [List.getElem?_set_ne (by omega)]
  exact h.2 i o e
theorem pick3 (a b c : D) {i : Int} (h : 0 ≤ i ∧ i < 3) : ∃ d, (d = a ∨ d = b ∨ d = c) ∧ opIdx (.l [a, b, c]) (.d (.int i)) = okM (.d d) := by
  obtain ⟨d, h1, h2⟩ := atI_nat' (xs := [a, b, c]) (i := i) (by simpa using h)
  refine ⟨d, ?_, opIdx_l h1⟩
  have := List.mem_of_getElem? h2
  simpa using this
theorem pick4 (a b c e : D) {i : Int} (h : 0 ≤ i ∧ i < 4) : ∃ d, (d = a ∨ d = b ∨ d = c ∨ d = e) ∧ opIdx (.l [a, b, c, e]) (.d (.int i)) = okM (.d d) := by
  obtain ⟨d, h1, h2⟩ := atI_nat' (xs := [a, b, c, e]) (i := i) (by simpa using h)
  refine ⟨d, ?_, opIdx_l h1⟩
  have := List.mem_of_getElem? h2
  simpa using this
theorem ints_of : ∀ {xs : List D}, (∀ x ∈ xs, ∃ i : Int, x = .int i) → ∃ is : List Int, xs = is.map D.int
  | [], _ => ⟨[], rfl⟩
  | x :: xs, h => by
    obtain ⟨i, rfl⟩ := h x (by simp)
    obtain ⟨is, rfl⟩ := ints_of (xs := xs) fun y hy => h y (by simp [hy])
    exact ⟨i :: is, rfl⟩
theorem bTuple_l (xs : List D) : bTuple [.l xs] = okM (.d (.tup xs)) := rfl
theorem bTuple_ref {m : Mem} {k : Nat} {xs : List D} (h : m[k]? = some (.lst xs)) : bTuple [.d (.ref k)] m = .ok (.d (.tup xs)) m := by
  simp [bTuple, on1, Mir.listOf, h]
theorem cut_take {α : Type} (xs : List α) (j : Nat) : cutD xs none (some (j : Int)) = xs.take j := by
  simp only [cutD, HT.sIx_none, HT.sIx_nat, List.drop_zero, Nat.sub_zero]
  by_cases h : j ≤ xs.length
  · rw [Nat.min_eq_left h]
  · rw [Nat.min_eq_right (by omega), List.take_length, List.take_of_length_le (by omega)]
theorem bMax2_i (i j : Int) : bMax2 [.d (.int i), .d (.int j)] = okM (.d (.int (if j > i then j else i))) := rfl
theorem bMin2_i (i j : Int) : bMin2 [.d (.int i), .d (.int j)] = okM (.d (.int (if j < i then j else i))) := rfl
theorem wp_noX {α : Type} {a : M α} {m : Mem} {q : α → Mem → Prop} {x : XM} (h : wpR (a m) q noEx) : wpR (noX a m) q x := by
  unfold noX
  cases e : a m with
  | ok y m' => rw [e] at h; exact h
  | exc _ _ _ => rw [e] at h; exact h.elim
  | no => rw [e] at h; exact h.elim
theorem wp_lc_from {f : Nat → Mem → Option (Option D)} {turn : D → M (Option D)} {ds : List D} (P : Nat → List D → Mem → Prop) {q : List D → Mem → Prop} {x : XM} (hf : ∀ i acc m, P i acc m → f i m = some ds[i]?)
    (h : ∀ i d acc m, ds[i]? = some d → P i acc m → wpR (turn d m) (fun o m' => match o with | some y => P (i + 1) (acc ++ [y]) m' | none => P (i + 1) acc m') noEx) (hz : ds.length < 16777216) (hq : ∀ acc m, P ds.length acc m → acc.length ≤ ds.length → q acc m) :
    ∀ (n i : Nat) (acc : List D) (m : Mem), i + n = ds.length → acc.length ≤ i → P i acc m → wpR (lcS f turn (n + 1) i acc m) q x
  | 0, i, acc, m, hi, ha, p => by
    have hi : i = ds.length := by omega
    subst hi
    simp only [lcS]
    rw [hf _ acc m p]
    simp only [List.getElem?_eq_none (Nat.le_refl _)]
    exact hq _ _ p ha
  | n + 1, i, acc, m, hi, ha, p => by
    have hlt : i < ds.length := by omega
    have ed : ds[i]? = some ds[i] := List.getElem?_eq_getElem hlt
    rw [lcS]
    simp only [hf i acc m p, ed]
    rw [wp_bind]
    refine wp_noX (wpR_mono (h i _ acc m ed p) (fun o m1 h1 => ?_) fun _ _ _ z => z)
    cases o with
    | none => exact wp_lc_from P hf h hz hq n (i + 1) acc m1 (by omega) (by omega) h1
    | some y =>
      dsimp only
      rw [if_pos (by rw [line_eq]; omega)]
      exact wp_lc_from P hf h hz hq n (i + 1) (acc ++ [y]) m1 (by omega) (by simp; omega) h1
theorem wp_lc {f : Nat → Mem → Option (Option D)} {turn : D → M (Option D)} {ds : List D} (P : Nat → List D → Mem → Prop) {q : List D → Mem → Prop} {x : XM} {m : Mem} (h0 : P 0 [] m) (hf : ∀ i acc m, P i acc m → f i m = some ds[i]?)
    (h : ∀ i d acc m, ds[i]? = some d → P i acc m → wpR (turn d m) (fun o m' => match o with | some y => P (i + 1) (acc ++ [y]) m' | none => P (i + 1) acc m') noEx) (hz : ds.length < 16777216) (hq : ∀ acc m, P ds.length acc m → acc.length ≤ ds.length → q acc m) :
    wpR (lcS f turn (ds.length + 1) 0 [] m) q x := wp_lc_from P hf h hz hq ds.length 0 [] m (by omega) (by simp) h0
end Mir
namespace Mir
open PySem L2
theorem wp_whileL {t : TMs} {body : SMs} (P : Nat → Mir.Env → Mem → Prop) {q : Fl → Mem → Prop} {x : XM} (h : ∀ n env m, P n env m → wpR (t env m) (fun k m1 => if k = true then wpR (body env m1) (fun fl m2 => match fl with
      | .nxt e => ∃ n', n' < n ∧ P n' e m2
      | .cnt e => ∃ n', n' < n ∧ P n' e m2
      | .brk e => q (.nxt e) m2
      | .ret d => q (.ret d) m2) x else q (.nxt env) m1) x) :
    ∀ (f n : Nat) (env : Mir.Env) (m : Mem), n < f → P n env m → wpR (whileL t body f env m) q x
  | 0, n, _, _, hf, _ => by omega
  | f + 1, n, env, m, hf, p => by
    have h1 := h n env m p
    rw [whileL, wp_bind]
    refine wpR_mono h1 (fun k m1 h2 => ?_) fun _ _ _ z => z
    rw [ite_at, wp_ite]
    by_cases hk : k = true
    · rw [if_pos hk] at h2 ⊢
      rw [wp_bind]
      refine wpR_mono h2 (fun fl m2 h3 => ?_) fun _ _ _ z => z
      cases fl with
      | nxt e => obtain ⟨n', hn, p'⟩ := h3; exact wp_whileL P h f n' e m2 (by omega) p'
      | cnt e => obtain ⟨n', hn, p'⟩ := h3; exact wp_whileL P h f n' e m2 (by omega) p'
      | brk e => exact h3
      | ret d => exact h3
    · rw [if_neg hk] at h2 ⊢
      exact h2
theorem wp_while {t : TMs} {body : SMs} (P : Nat → Mir.Env → Mem → Prop) {q : Fl → Mem → Prop} {x : XM} {n : Nat} {env : Mir.Env} {m : Mem} (h0 : P n env m) (hn : n < 1000000000000) (h : ∀ n env m, P n env m → wpR (t env m) (fun k m1 => if k = true then wpR (body env m1) (fun fl m2 => match fl with
      | .nxt e => ∃ n', n' < n ∧ P n' e m2
      | .cnt e => ∃ n', n' < n ∧ P n' e m2
      | .brk e => q (.nxt e) m2
      | .ret d => q (.ret d) m2) x else q (.nxt env) m1) x) : wpR (whileS t body env m) q x := wp_whileL P h manyN n env m (by unfold manyN; exact hn) h0
theorem lPopAt_ok {m : Mem} {k : Nat} {xs : List D} {i : Int} {d : D} (hm : m[k]? = some (.lst xs)) (hi : 0 ≤ i ∧ i < xs.length) (hz : i < 9223372036854775808) (hd : xs[i.toNat]? = some d) : lPopAt (.d (.ref k)) [.d (.int i)] m = .ok (.d d) (m.set k (.lst (xs.eraseIdx i.toNat))) := by
  have e : seqIndex? i xs.length = some i.toNat := by
    have h1 : ¬ i < 0 := by omega
    simp only [seqIndex?, h1, if_false]
    rw [if_pos]
    simp [hi.1, hi.2]
  simp only [lPopAt, hm, e, hd]
  rw [if_pos ⟨by omega, by omega⟩]
end Mir

set_option maxHeartbeats 1000000
/-! what stays but for some places -/
namespace Mir
open PySem L2
def Frm (J : List Nat) (m m' : Mem) : Prop := m.length ≤ m'.length ∧ ∀ (i : Nat) (o : O), i ∉ J → m[i]? = some o → m'[i]? = some o
theorem Frm.refl (J : List Nat) (m : Mem) : Frm J m m := ⟨Nat.le_refl _, fun _ _ _ h => h⟩
theorem Frm.trans {J : List Nat} {a b c : Mem} (h : Frm J a b) (k : Frm J b c) : Frm J a c := ⟨Nat.le_trans h.1 k.1, fun i o hi e => k.2 i o hi (h.2 i o hi e)⟩
theorem Frm.mono {J K : List Nat} {a b : Mem} (h : Frm J a b) (s : ∀ x ∈ J, x ∈ K) : Frm K a b := ⟨h.1, fun i o hi e => h.2 i o (fun z => hi (s i z)) e⟩
theorem Frm.app (J : List Nat) (m l : Mem) : Frm J m (m ++ l) := ⟨by simp, fun i o _ e => get_app l e⟩
theorem Frm.set {J : List Nat} {m m' : Mem} (h : Frm J m m') {k : Nat} (hk : k ∈ J ∨ m.length ≤ k) (u : O) : Frm J m (m'.set k u) := by
  refine ⟨by rw [List.length_set]; exact h.1, fun i o hi e => ?_⟩
  have := get_lt e
  rw [List.getElem?_set_ne (by rintro rfl; rcases hk with z | z; exact hi z; omega)]
  exact h.2 i o hi e
theorem Frm.of {J : List Nat} {m m' : Mem} (h : Ext m m') : Frm J m m' := ⟨h.1, fun i o _ e => h.2 i o e⟩
theorem subPut_lst {m : Mem} {k : Nat} {xs : List D} {i : Int} {d : D} (h : m[k]? = some (.lst xs)) (hi : 0 ≤ i ∧ i < xs.length) : subPut (.d (.ref k)) (.d (.int i)) d m = .ok () (m.set k (.lst (xs.set i.toNat d))) := by
  simp only [subPut, isLst, h, if_true, lput, ixN]
  rw [if_pos hi.1, if_pos hi.2]
end Mir

set_option maxHeartbeats 1000000
/-! evaluation by the store as it is told: each step as a match on what stands at a place -/
namespace Mir
open PySem L2
theorem sne {a b : Str} (h : decide (a = b) = false) : (a = b) = False := by
  apply eq_false; exact of_decide_eq_false h
theorem sbne {a b : Str} (h : decide (a = b) = false) : (a == b) = false := by
  have := of_decide_eq_false h
  simpa using this
theorem nne {a b : Nat} (h : a ≠ b) : (a = b) = False := eq_false h
theorem ev_fld (cs : List Nat) (f : Str) (k : Nat) (m : Mem) : fldM cs f (.d (.ref k)) m = match m[k]? with
    | some (.ins c fs) => if c ∈ cs then (match fs.lookup f with | some d => .ok (.d d) m | none => .no) else .no
    | _ => .no := by
  unfold fldM getF
  dsimp only
  cases m[k]? with
  | none => rfl
  | some o =>
    cases o <;> first | rfl | skip
    rename_i c fs
    dsimp only
    by_cases h : c ∈ cs
    · simp only [if_pos h]
      all_goals (cases fs.lookup f <;> rfl)
    · simp only [if_neg h]
theorem ev_setF (cs : List Nat) (f : Str) (k : Nat) (d : D) (m : Mem) : setF cs f (.d (.ref k)) d m = match m[k]? with
    | some (.ins c fs) => if c ∈ cs ∧ fs.length < 1000 then .ok () (m.set k (.ins c (putD f d fs))) else .no
    | _ => .no := by
  unfold setF
  dsimp only
  all_goals (cases m[k]? with
    | none => rfl
    | some o => cases o <;> rfl)
theorem ev_putD_nil (f : Str) (v : D) : putD f v [] = [(f, v)] := rfl
theorem ev_putD (f g : Str) (v x : D) (r : List (Str × D)) : putD f v ((g, x) :: r) = if g = f then (g, v) :: r else (g, x) :: putD f v r := rfl
theorem ev_meth (c : Nat) (name : Str) (F : FnSem) (a : Mir.Env → M (List D)) (env : Mir.Env) (k : Nat) (m : Mem) : methM c name F a env (.d (.ref k)) m = match m[k]? with
    | some (.ins c' fs) => if c' = c ∧ fs.lookup name = none then bindM (a env) (fun ds => liftF (F (.ref k :: ds)) env) m else .no
    | _ => .no := by
  unfold methM getM
  dsimp only
  cases m[k]? with
  | none => rfl
  | some o =>
    cases o <;> first | rfl | skip
    rename_i c' fs
    dsimp only
    by_cases h : c' = c ∧ fs.lookup name = none
    · simp only [if_pos h]
    · simp only [if_neg h]
def augM (g : Int → Int → Int) (cs : List Nat) (f : Str) (e : EM) (env : Mir.Env) (x : TV) : M Fl := fun m => augFS g cs f (fun _ => okM x) e env m
theorem augFS_mk (g : Int → Int → Int) (cs : List Nat) (f : Str) (o e : EM) (env : Mir.Env) : augFS g cs f o e env = bindM (o env) (augM g cs f e env) := rfl
theorem ev_aug (g : Int → Int → Int) (cs : List Nat) (f : Str) (e : EM) (env : Mir.Env) (k : Nat) (m : Mem) : augM g cs f e env (.d (.ref k)) m = match m[k]? with
    | some (.ins c fs) => if c ∈ cs then (match fs.lookup f with
      | some (.int i) => bindM (e env) (fun y => match y with
        | .d (.int j) => bindM (setF [c] f (.d (.ref k)) (.int (g i j))) fun _ => okM (.nxt env)
        | _ => noM) m
      | _ => .no) else .no
    | _ => .no := by
  unfold augM augFS getC
  simp only [bindM_ok]
  cases m[k]? with
  | none => rfl
  | some o =>
    cases o <;> first | rfl | skip
    rename_i c fs
    dsimp only
    by_cases h : c ∈ cs
    · simp only [if_pos h]
      cases e : List.lookup f fs with
      | none => rfl
      | some d => cases d <;> rfl
    · simp only [if_neg h]
theorem ev_len (k : Nat) (m : Mem) : bLen [.d (.ref k)] m = match m[k]? with
    | some (.lst ds) => .ok (.d (.int ds.length)) m
    | _ => .no := by
  simp only [bLen, on1, lenOf, seqOf, tupOf, listOf, retI]
  all_goals (cases m[k]? with
    | none => rfl
    | some o => cases o <;> rfl)
theorem ev_len2 (k : Nat) (m : Mem) : bLen2 [.d (.ref k)] m = match m[k]? with
    | some (.lst ds) => .ok (.d (.int ds.length)) m
    | some (.dic kvs) => .ok (.d (.int kvs.length)) m
    | _ => .no := by
  simp only [bLen2, altC, ev_len, bLenD, on1]
  all_goals (cases m[k]? with
    | none => rfl
    | some o => cases o <;> rfl)
@[simp] theorem len2_clst (ds : List D) : bLen2 [.d (.clst ds)] = okM (.d (.int ds.length)) := rfl
@[simp] theorem len2_l (ds : List D) : bLen2 [.l ds] = okM (.d (.int ds.length)) := rfl
@[simp] theorem len2_tup (ds : List D) : bLen2 [.d (.tup ds)] = okM (.d (.int ds.length)) := rfl
theorem ev_list (k : Nat) (m : Mem) : bList [.d (.ref k)] m = match m[k]? with
    | some (.lst ds) => .ok (.l ds) m
    | _ => .no := by
  simp only [bList, on1, seqOf, tupOf, listOf]
  all_goals (cases m[k]? with
    | none => rfl
    | some o => cases o <;> rfl)
theorem ev_list2 (k : Nat) (m : Mem) : bList2 [.d (.ref k)] m = match m[k]? with
    | some (.lst ds) => .ok (.l ds) m
    | some (.dic kvs) => .ok (.l (kvs.map fun kv => keyOf kv.1)) m
    | _ => .no := by
  simp only [bList2, altC, ev_list, bListD, on1]
  all_goals (cases m[k]? with
    | none => rfl
    | some o => cases o <;> rfl)
@[simp] theorem list_tup (ds : List D) : bList [.d (.tup ds)] = okM (.l ds) := rfl
@[simp] theorem list_clst (ds : List D) : bList [.d (.clst ds)] = okM (.l ds) := rfl
@[simp] theorem list_l (ds : List D) : bList [.l ds] = okM (.l ds) := rfl
@[simp] theorem list2_tup (ds : List D) : bList2 [.d (.tup ds)] = okM (.l ds) := rfl
@[simp] theorem list2_l (ds : List D) : bList2 [.l ds] = okM (.l ds) := rfl
@[simp] theorem list2_clst (ds : List D) : bList2 [.d (.clst ds)] = okM (.l ds) := rfl
theorem ev_tuple (k : Nat) (m : Mem) : bTuple [.d (.ref k)] m = match m[k]? with
    | some (.lst ds) => .ok (.d (.tup ds)) m
    | _ => .no := by
  simp only [bTuple, on1, listOf]
  all_goals (cases m[k]? with
    | none => rfl
    | some o => cases o <;> rfl)
@[simp] theorem tuple_tup (ds : List D) : bTuple [.d (.tup ds)] = okM (.d (.tup ds)) := rfl
theorem ev_cut (k : Nat) (lo hi : Option Int) (m : Mem) : opCut (.d (.ref k)) lo hi m = match m[k]? with
    | some (.lst ds) => .ok (.l (cutD ds lo hi)) m
    | _ => .no := by
  simp only [opCut, listOf]
  all_goals (cases m[k]? with
    | none => rfl
    | some o => cases o <;> rfl)
theorem ev_idx (k : Nat) (i : Int) (m : Mem) : opIdx (.d (.ref k)) (.d (.int i)) m = match m[k]? with
    | some (.lst ds) => (match L2.atI ds i with | some d => .ok (.d d) m | none => .no)
    | _ => .no := by
  simp only [opIdx, idxL, idxOf, listOf]
  all_goals (cases m[k]? with
    | none => rfl
    | some o => cases o <;> rfl)
theorem ev_idxT (xs : List D) (i : Int) (m : Mem) : opIdx (.d (.tup xs)) (.d (.int i)) m = match L2.atI xs i with | some d => .ok (.d d) m | none => .no := rfl
theorem ev_idxL (xs : List D) (i : Int) (m : Mem) : opIdx (.l xs) (.d (.int i)) m = match L2.atI xs i with | some d => .ok (.d d) m | none => .no := rfl
theorem ev_idxC (xs : List D) (i : Int) (m : Mem) : opIdx (.d (.clst xs)) (.d (.int i)) m = match L2.atI xs i with | some d => .ok (.d d) m | none => .no := rfl
theorem ev_subs (k : Nat) (y : D) (m : Mem) : opSubs (.d (.ref k)) (.d y) m = match m[k]? with
    | some (.lst ds) => (match y with | .int i => (match L2.atI ds i with | some d => .ok (.d d) m | none => .no) | _ => .no)
    | some (.dic kvs) => (match keyD y with | some key => (match getK kvs key with | some d => .ok (.d d) m | none => .no) | none => .no)
    | some (.dit kvs) => (match y with | .tup ks => (match ks.mapM keyD with | some key => (match getK kvs key with | some d => .ok (.d d) m | none => .no) | none => .no) | _ => .no)
    | some (.fdic kvs) => (match keyD y with | some key => (match getK kvs key with | some d => .ok (.d d) m | none => .no) | none => .no)
    | some (.fdit kvs) => (match y with | .tup ks => (match ks.mapM keyD with | some key => (match getK kvs key with | some d => .ok (.d d) m | none => .no) | none => .no) | _ => .no)
    | _ => .no := by
  simp only [opSubs, dget, idxD, opIdx, idxL, idxOf, listOf]
  cases e : m[k]? with
  | none => rfl
  | some o =>
    cases o with
    | lst ds => dsimp only; cases y <;> rfl
    | dic kvs =>
      dsimp only
      cases h : keyD y with
      | none => dsimp only [Option.map_none]
      | some key =>
        dsimp only [Option.map_some]
        cases hk : getK _ key <;> rfl
    | mix kvs => first | done | (cases y <;> rfl)
    | fdic kvs =>
      dsimp only
      cases h : keyD y with
      | none => dsimp only [Option.map_none]
      | some key =>
        dsimp only [Option.map_some]
        cases hk : getK _ key <;> rfl
    | dit kvs =>
      dsimp only
      cases y <;> first | rfl | skip
      dsimp only
      cases h : List.mapM keyD _ with
      | none => dsimp only [Option.map_none]
      | some key =>
        dsimp only [Option.map_some]
        cases hk : getK _ key <;> rfl
    | fdit kvs =>
      dsimp only
      cases y <;> first | rfl | skip
      dsimp only
      cases h : List.mapM keyD _ with
      | none => dsimp only [Option.map_none]
      | some key =>
        dsimp only [Option.map_some]
        cases hk : getK _ key <;> rfl
    | ins c fs => rfl
    | opq c fs => rfl
@[simp] theorem subs_l (xs : List D) (y : TV) : opSubs (.l xs) y = opIdx (.l xs) y := rfl
@[simp] theorem subs_tup (xs : List D) (y : TV) : opSubs (.d (.tup xs)) y = opIdx (.d (.tup xs)) y := by
  funext m; cases y <;> rfl
@[simp] theorem subs_clst (xs : List D) (y : TV) : opSubs (.d (.clst xs)) y = opIdx (.d (.clst xs)) y := by
  funext m; cases y <;> rfl
@[simp] theorem subs_str (x : Str) (y : TV) : opSubs (.d (.str x)) y = opIdx (.d (.str x)) y := by
  funext m; cases y <;> rfl
@[simp] theorem key_int (i : Int) : keyD (.int i) = some (.inl i) := rfl
@[simp] theorem key_str (x : Str) : keyD (.str x) = some (.inr x) := rfl
theorem ev_getK_nil {κ : Type} [DecidableEq κ] (k : κ) : getK ([] : List (κ × D)) k = none := rfl
theorem ev_getK {κ : Type} [DecidableEq κ] (k' : κ) (d : D) (r : List (κ × D)) (k : κ) : getK ((k', d) :: r) k = if k' = k then some d else getK r k := by
  unfold getK
  rw [List.find?_cons]
  by_cases h : k' = k
  · simp [h]
  · simp [h]
theorem ev_lput (k : Nat) (y d : D) (m : Mem) : lput (.d (.ref k)) (.d y) d m = match m[k]? with
      | some (.lst ds) => (match y with | .int i => (match ixN ds.length i with | some j => .ok () (m.set k (.lst (ds.set j d))) | none => .no) | _ => .no)
      | _ => .no := by
  unfold lput
  cases y <;> dsimp only <;> (cases m[k]? with
    | none => rfl
    | some o => cases o <;> rfl)
theorem ev_dput (k : Nat) (y d : D) (m : Mem) : dput (.d (.ref k)) (.d y) d m = match m[k]? with
      | some (.dic kvs) => (match keyD y with | some key => if kvs.length < 16777216 then .ok () (m.set k (.dic (setK kvs key d))) else .no | none => .no)
      | some (.dit kvs) => (match y with | .tup ks => (match ks.mapM keyD with | some key => if kvs.length < 16777216 then .ok () (m.set k (.dit (setK kvs key d))) else .no | none => .no) | _ => .no)
      | _ => .no := by
  unfold dput
  simp only [line_eq]
  all_goals (cases m[k]? with
    | none => rfl
    | some o => cases o <;> first | rfl | (dsimp only; cases keyD y <;> rfl) | (cases y <;> first | rfl | (dsimp only; cases List.mapM keyD _ <;> rfl)))
theorem ev_put (k : Nat) (y d : D) (m : Mem) : subPut (.d (.ref k)) (.d y) d m = match m[k]? with
    | some (.lst ds) => (match y with | .int i => (match ixN ds.length i with | some j => .ok () (m.set k (.lst (ds.set j d))) | none => .no) | _ => .no)
    | some (.dic kvs) => (match keyD y with | some key => if kvs.length < 16777216 then .ok () (m.set k (.dic (setK kvs key d))) else .no | none => .no)
    | some (.dit kvs) => (match y with | .tup ks => (match ks.mapM keyD with | some key => if kvs.length < 16777216 then .ok () (m.set k (.dit (setK kvs key d))) else .no | none => .no) | _ => .no)
    | _ => .no := by
  simp only [subPut, isLst, ev_lput, ev_dput]
  all_goals (cases m[k]? with
    | none => rfl
    | some o => cases o <;> rfl)
theorem ev_src (k : Nat) (m : Mem) : seqSrc (.d (.ref k)) m = match m[k]? with
    | some (.lst ds) => .ok (Src.ofR k ds.length) m
    | _ => .no := by
  simp only [seqSrc, tupOf]
  all_goals (cases m[k]? with
    | none => rfl
    | some o => cases o <;> rfl)
theorem ev_append (k : Nat) (y : D) (m : Mem) : lAppend (.d (.ref k)) [.d y] m = match m[k]? with
    | some (.lst ds) => if ds.length < 16777216 then .ok (.d .non) (m.set k (.lst (ds ++ [y]))) else .no
    | _ => .no := by
  simp only [lAppend, line_eq]
  all_goals (cases m[k]? with
    | none => rfl
    | some o => cases o <;> rfl)
theorem ev_extend (k : Nat) (y : TV) (m : Mem) : lExtend (.d (.ref k)) [y] m = match m[k]?, listOfM m y with
    | some (.lst ds), some es => if ds.length + es.length ≤ 16777216 then .ok (.d .non) (m.set k (.lst (ds ++ es))) else .no
    | _, _ => .no := by
  simp only [lExtend, line_eq]
  all_goals (cases m[k]? with
    | none => rfl
    | some o => cases o <;> first | rfl | (cases listOfM m y <;> rfl))
@[simp] theorem listOfM_l (m : Mem) (ds : List D) : listOfM m (.l ds) = some ds := rfl
theorem ev_listOfM (m : Mem) (k : Nat) : listOfM m (.d (.ref k)) = match m[k]? with | some (.lst ds) => some ds | _ => none := rfl
@[simp] theorem listOf_l (m : Mem) (ds : List D) : listOf m (.l ds) = some ds := rfl
@[simp] theorem listOf_clst (m : Mem) (ds : List D) : listOf m (.d (.clst ds)) = some ds := rfl
theorem ev_listOf (m : Mem) (k : Nat) : listOf m (.d (.ref k)) = match m[k]? with | some (.lst ds) => some ds | _ => none := rfl
theorem ev_clear (k : Nat) (m : Mem) : lClear (.d (.ref k)) [] m = match m[k]? with
    | some (.lst ds) => .ok (.d .non) (m.set k (.lst []))
    | _ => .no := rfl
theorem chk_list (m : Mem) (x : TV) : chk "list" m x = (listOf m x).isSome := by simp [chk]
theorem chk_str (m : Mem) (x : Str) : chk "str" m (.d (.str x)) = true := by simp [chk]
theorem chk_dic (m : Mem) (k : Nat) : chk "dict" m (.d (.ref k)) = match m[k]? with | some (.dic _) => true | some (.dit _) => true | _ => false := by
  simp only [chk]
  all_goals (cases m[k]? with
    | none => rfl
    | some o => cases o <;> rfl)
theorem isDic_ev (m : Mem) (k : Nat) : isDic m (.d (.ref k)) = match m[k]? with | some (.dic _) => true | some (.dit _) => true | _ => false := chk_dic m k
def dgetM (k : EM) (env : Mir.Env) (x : TV) : M TV := fun m => if isDic m x = true then bindM (k env) (fun y m' => match dget m' x y with
  | some (some d) => .ok (.d d) m'
  | some none => .ok (.d .non) m'
  | none => .no) m else .no
theorem dgetE_mk (o k : EM) (env : Mir.Env) : dgetE o k env = bindM (o env) (dgetM k env) := rfl
def dgetY (x y : TV) : M TV := fun m' => match dget m' x y with
  | some (some d) => .ok (.d d) m'
  | some none => .ok (.d .non) m'
  | none => .no
theorem dgetM_ev (k : EM) (env : Mir.Env) (r : Nat) (m : Mem) : dgetM k env (.d (.ref r)) m = match m[r]? with
    | some (.dic _) => bindM (k env) (dgetY (.d (.ref r))) m
    | some (.dit _) => bindM (k env) (dgetY (.d (.ref r))) m
    | _ => .no := by
  simp only [dgetM, isDic_ev]
  all_goals (cases m[r]? with
    | none => rfl
    | some o => cases o <;> rfl)
def dget2M (k : EM) (z : Mir.Env → M D) (env : Mir.Env) (x : TV) : M TV := fun m => if isDic m x = true then bindM (k env) (fun y => bindM (z env) fun dz m' => match dget m' x y with
  | some (some d) => .ok (.d d) m'
  | some none => .ok (.d dz) m'
  | none => .no) m else .no
theorem dget2E_mk (o k : EM) (z : Mir.Env → M D) (env : Mir.Env) : dget2E o k z env = bindM (o env) (dget2M k z env) := rfl
def dget2Y (x y : TV) (dz : D) : M TV := fun m' => match dget m' x y with
  | some (some d) => .ok (.d d) m'
  | some none => .ok (.d dz) m'
  | none => .no
theorem dget2M_ev (k : EM) (z : Mir.Env → M D) (env : Mir.Env) (r : Nat) (m : Mem) : dget2M k z env (.d (.ref r)) m = match m[r]? with
    | some (.dic _) => bindM (k env) (fun y => bindM (z env) (dget2Y (.d (.ref r)) y)) m
    | some (.dit _) => bindM (k env) (fun y => bindM (z env) (dget2Y (.d (.ref r)) y)) m
    | _ => .no := by
  simp only [dget2M, isDic_ev]
  all_goals (cases m[r]? with
    | none => rfl
    | some o => cases o <;> rfl)
theorem ev_dget (r : Nat) (y : D) (m : Mem) : dget m (.d (.ref r)) (.d y) = match m[r]? with
    | some (.dic kvs) => (keyD y).map fun k => getK kvs k
    | some (.fdic kvs) => (keyD y).map fun k => getK kvs k
    | some (.dit kvs) => (match y with | .tup ks => (ks.mapM keyD).map fun k => getK kvs k | _ => none)
    | some (.fdit kvs) => (match y with | .tup ks => (ks.mapM keyD).map fun k => getK kvs k | _ => none)
    | _ => none := rfl
theorem ev_dgetY (r : Nat) (y : D) (m : Mem) : dgetY (.d (.ref r)) (.d y) m = match dget m (.d (.ref r)) (.d y) with
    | some (some d) => .ok (.d d) m
    | some none => .ok (.d .non) m
    | none => .no := rfl
theorem ev_dget2Y (r : Nat) (y dz : D) (m : Mem) : dget2Y (.d (.ref r)) (.d y) dz m = match dget m (.d (.ref r)) (.d y) with
    | some (some d) => .ok (.d d) m
    | some none => .ok (.d dz) m
    | none => .no := rfl
def dpopM (k : EM) (env : Mir.Env) (x : TV) : M TV := fun m => dpopE (fun _ => okM x) k env m
theorem dpopE_mk (o k : EM) (env : Mir.Env) : dpopE o k env = bindM (o env) (dpopM k env) := rfl
theorem ev_in_dic {r : Nat} {y : D} {m : Mem} {kvs : List (Key × D)} {key : Key} (h : m[r]? = some (.dic kvs)) (hk : keyD y = some key) : opIn (.d y) (.d (.ref r)) m = .ok (.d (.bl (getK kvs key).isSome)) m := by
  simp only [opIn, inM, ev_dget, h, hk, Option.map_some]
theorem ev_notin_dic {r : Nat} {y : D} {m : Mem} {kvs : List (Key × D)} {key : Key} (h : m[r]? = some (.dic kvs)) (hk : keyD y = some key) : opNotIn (.d y) (.d (.ref r)) m = .ok (.d (.bl (!(getK kvs key).isSome))) m := by
  simp only [opNotIn, inM, ev_dget, h, hk, Option.map_some]
theorem get_set_ne' {m : Mem} {k j : Nat} {o : O} (h : k ≠ j) : (m.set k o)[j]? = m[j]? := List.getElem?_set_ne h
theorem get_set_is {m : Mem} {k : Nat} {o : O} (h : (m[k]?).isSome = true) : (m.set k o)[k]? = some o := by
  rw [List.getElem?_set_self]
  cases e : m[k]? with
  | none => rw [e] at h; cases h
  | some u => exact (List.getElem?_eq_some_iff.1 e).1
theorem get_app_is {m l : Mem} {k : Nat} (h : (m[k]?).isSome = true) : (m ++ l)[k]? = m[k]? := by
  cases e : m[k]? with
  | none => rw [e] at h; cases h
  | some u => exact get_app l e
theorem isSome_set {m : Mem} {k j : Nat} {o : O} : ((m.set k o)[j]?).isSome = (m[j]?).isSome := by
  rw [Bool.eq_iff_iff]
  simp
theorem isSome_app {m l : Mem} {k : Nat} (h : (m[k]?).isSome = true) : ((m ++ l)[k]?).isSome = true := by rw [get_app_is h]; exact h
theorem isSome_new {m : Mem} {o : O} : ((m ++ [o])[m.length]?).isSome = true := by simp
theorem isSome_lt {m : Mem} {j : Nat} : (m[j]?).isSome = decide (j < m.length) := by
  rw [Bool.eq_iff_iff]
  simp
theorem ite_lt {α : Type} {a : Nat} {x y : α} (h : a < 16777216) : (if a < 16777216 then x else y) = x := if_pos h
theorem ite_le {α : Type} {a : Nat} {x y : α} (h : a ≤ 16777216) : (if a ≤ 16777216 then x else y) = x := if_pos h
theorem at_0 {α : Type} (a : α) (xs : List α) : L2.atI (a :: xs) 0 = some a := by simp [L2.atI, ixN]
theorem at_1 {α : Type} (a b : α) (xs : List α) : L2.atI (a :: b :: xs) 1 = some b := by
  have h : (1 : Int) < ((a :: b :: xs).length : Int) := by simp only [List.length_cons]; omega
  simp only [L2.atI, ixN]
  rw [if_pos (by decide), if_pos h]
  rfl
theorem at_2 {α : Type} (a b c : α) (xs : List α) : L2.atI (a :: b :: c :: xs) 2 = some c := by
  have h : (2 : Int) < ((a :: b :: c :: xs).length : Int) := by simp only [List.length_cons]; omega
  simp only [L2.atI, ixN]
  rw [if_pos (by decide), if_pos h]
  rfl
theorem at_3 {α : Type} (a b c d : α) (xs : List α) : L2.atI (a :: b :: c :: d :: xs) 3 = some d := by
  have h : (3 : Int) < ((a :: b :: c :: d :: xs).length : Int) := by simp only [List.length_cons]; omega
  simp only [L2.atI, ixN]
  rw [if_pos (by decide), if_pos h]
  rfl
theorem at_4 {α : Type} (a b c d e : α) (xs : List α) : L2.atI (a :: b :: c :: d :: e :: xs) 4 = some e := by
  have h : (4 : Int) < ((a :: b :: c :: d :: e :: xs).length : Int) := by simp only [List.length_cons]; omega
  simp only [L2.atI, ixN]
  rw [if_pos (by decide), if_pos h]
  rfl
theorem at_end {α : Type} (xs : List α) (d : α) : L2.atI (xs ++ [d]) (-1) = some d := by
  have e : ixN (xs ++ [d]).length (-1) = some xs.length := by
    unfold ixN
    rw [if_neg (by omega), List.length_append, List.length_singleton]
    rw [if_pos (by omega)]
    congr 1
    omega
  simp only [L2.atI, e, Option.bind_some]
  simp
theorem ix_nat {n : Nat} {i : Int} (h : 0 ≤ i ∧ i < n) : ixN n i = some i.toNat := by
  unfold ixN
  rw [if_pos h.1, if_pos h.2]
theorem at_nat {α : Type} {xs : List α} {i : Int} (h : 0 ≤ i ∧ i < xs.length) : L2.atI xs i = xs[i.toNat]? := by
  simp only [L2.atI, ix_nat h, Option.bind_some]
theorem tupG_mk (n : Nat) (g : List D → Mir.Env → M Mir.Env) (ds : List D) (env : Mir.Env) : tupG n g (.tup ds) env = if ds.length = n then g ds env else noM := rfl
theorem tupG_mk' (n : Nat) (g : List D → Mir.Env → M Mir.Env) (ds : List D) (env : Mir.Env) : tupG n g (.ctup ds) env = if ds.length = n then g ds env else noM := rfl
theorem consG_mk (a : D → Mir.Env → M Mir.Env) (r : List D → Mir.Env → M Mir.Env) (d : D) (ds : List D) (env : Mir.Env) : consG a r (d :: ds) env = bindM (a d env) fun e => r ds e := rfl
theorem nilG_mk (env : Mir.Env) : nilG [] env = okM env := rfl
theorem altE_ok {a b : EM} {env : Mir.Env} {m m' : Mem} {x : TV} (h : a env m = .ok x m') : altE a b env m = .ok x m' := by simp only [altE, h]
theorem wp_altE {a b : EM} {env : Mir.Env} {m : Mem} {q : TV → Mem → Prop} {x : XM} (h : wpR (a env m) q x) : wpR (altE a b env m) q x := by
  unfold altE
  cases e : a env m with
  | ok y m' => rw [e] at h; exact h
  | exc a b c => rw [e] at h; exact h
  | no => rw [e] at h; exact h.elim
theorem wp_altE2 {a b : EM} {env : Mir.Env} {m : Mem} {q : TV → Mem → Prop} {x : XM} (h : a env m = .no) (h2 : wpR (b env m) q x) : wpR (altE a b env m) q x := by
  unfold altE
  rw [h]
  exact h2
theorem wp_no_of {α : Type} {r : Res α} {q : α → Mem → Prop} {x : XM} (h : wpR r q x) (hr : r = .no) : False := by rw [hr] at h; exact h
end Mir

set_option maxHeartbeats 1000000
/-! helpers that many laws share; small lemmas -/
namespace Mir
open PySem L2
theorem opMulX_i (i : Int) (y : TV) : opMulX (.d (.int i)) y = opMul (.d (.int i)) y := rfl
theorem opMulX_l (xs : List D) (y : TV) : opMulX (.l xs) y = opRep (.l xs) y := rfl
theorem opMulX_s (x : Str) (k : Int) (h : 1 ≤ k ∧ k ≤ 1000 ∧ x.length ≤ 1000) : opMulX (.d (.str x)) (.d (.int k)) = okM (.d (.str (Txt.mul x k))) := by
  simp only [opMulX, opRepS]
  rw [if_pos ⟨by omega, h.2⟩]
theorem opMulX_s0 (x : Str) (k : Int) (h : 0 ≤ k ∧ k ≤ 1000 ∧ x.length ≤ 1000) : opMulX (.d (.str x)) (.d (.int k)) = okM (.d (.str (Txt.mul x k))) := by
  simp only [opMulX, opRepS]
  rw [if_pos h]
theorem opRep_l (xs : List D) (k : Int) (h : -(2 ^ 63) ≤ k ∧ k < 2 ^ 63 ∧ xs.length * k.toNat ≤ 16777216) : opRep (.l xs) (.d (.int k)) = okM (.l (List.replicate k.toNat xs).flatten) := by
  funext m
  simp only [opRep, Mir.listOfM, line_eq]
  rw [if_pos h]
  rfl
theorem opq_new {c : Nat} {fs : List (Str × D)} {m : Mem} : (m ++ [O.opq c fs])[m.length]? = some (.opq c fs) := by simp
theorem ev_isX (tab : List (Nat × Bool)) (k : Nat) (m : Mem) : isXM tab (.d (.ref k)) m = match m[k]? with
    | some (.opq c _) => (match tab.lookup c with | some b => .ok (.d (.bl b)) m | none => .no)
    | _ => .no := by
  simp only [isXM]
  all_goals (cases m[k]? with
    | none => rfl
    | some o => cases o <;> rfl)
theorem isXE_mk (tab : List (Nat × Bool)) (a : EM) (env : Mir.Env) : isXE tab a env = bindM (a env) (isXM tab) := rfl
theorem xfE_mk (cs : List Nat) (f : Str) (a : EM) (env : Mir.Env) : xfE cs f a env = bindM (a env) (xfM cs f) := rfl
theorem ev_xf (cs : List Nat) (f : Str) (k : Nat) (m : Mem) : xfM cs f (.d (.ref k)) m = match m[k]? with
    | some (.opq c fs) => if c ∈ cs then (match fs.lookup f with | some d => .ok (.d d) m | none => .no) else .no
    | _ => .no := by
  simp only [xfM]
  all_goals (cases m[k]? with
    | none => rfl
    | some o => cases o <;> rfl)
theorem wp_exc {α : Type} {q : α → Mem → Prop} {x : XM} (e : Ex) (v : Mir.Env) (m : Mem) : wpR (.exc e v m : Res α) q x = x e v m := rfl
theorem raiseS_mk (c : Nat) (env : Mir.Env) (m : Mem) : raiseS c env m = .exc ⟨c, []⟩ env m := rfl
def excM (c : Nat) (f : Str) (env : Mir.Env) (d : D) : M Fl := fun m => .exc ⟨c, [(f, d)]⟩ env m
theorem raiseFS_mk (c : Nat) (f : Str) (e : Mir.Env → M D) (env : Mir.Env) : raiseFS c f e env = bindM (e env) (excM c f env) := rfl
theorem excM_mk (c : Nat) (f : Str) (env : Mir.Env) (d : D) (m : Mem) : excM c f env d m = .exc ⟨c, [(f, d)]⟩ env m := rfl
theorem wp_try {tab : List (Nat × Bool)} {i : Nat} {b h : SMs} {env : Mir.Env} {m : Mem} {q : Fl → Mem → Prop} {x : XM} : wpR (tryS tab i b h env m) q x = wpR (b env m) q (fun e env' m' => match tab.lookup e.c with
    | some true => wpR (h (env'.set i (some (.ref m'.length))) (m' ++ [.opq e.c e.fs])) (fun fl m2 => q (goneF i fl) m2) (fun _ _ _ => False)
    | some false => x e env' m'
    | none => False) := by
  unfold tryS
  cases hb : b env m with
  | ok fl m' => rfl
  | no => rfl
  | exc e env' m' =>
    show _ = (match tab.lookup e.c with
      | some true => _
      | some false => _
      | none => _)
    dsimp only
    cases tab.lookup e.c with
    | none => rfl
    | some k =>
      cases k with
      | false => rfl
      | true =>
        dsimp only
        cases h (env'.set i (some (.ref m'.length))) (m' ++ [.opq e.c e.fs]) <;> rfl
theorem goneF_nxt (i : Nat) (e : Mir.Env) : goneF i (.nxt e) = .nxt (e.set i none) := rfl
theorem goneF_ret (i : Nat) (d : D) : goneF i (.ret d) = .ret d := rfl
theorem wp_of_eq {α : Type} {r : Res α} {a : α} {m' : Mem} {q : α → Mem → Prop} {x : XM} (h : r = .ok a m') (hq : q a m') : wpR r q x := by rw [h]; exact hq
/-- a run that ends in an exception -/
theorem wp_raises {α : Type} {r : Res α} {q : α → Mem → Prop} {x : XM} {e : Ex} {v : Mir.Env} {m' : Mem} (h : r = .exc e v m') (hx : x e v m') : wpR r q x := by rw [h]; exact hx
theorem eq_of_wp {r : Res D} {d : D} {m' : Mem} (h : wpR r (fun a m => a = d ∧ m = m') noEx) : r = .ok d m' := by
  cases r with
  | ok a m => obtain ⟨rfl, rfl⟩ := h; rfl
  | exc _ _ _ => exact h.elim
  | no => exact h.elim
theorem law_of_wp {F : FnSem} {ns : List Int} (h : wpR (F [.clst (ns.map D.int)] []) (fun r _ => r = .bl true) noEx) : ∃ m', F [.clst (ns.map D.int)] [] = .ok (.bl true) m' := by
  cases e : F [.clst (ns.map D.int)] [] with
  | ok r m' => rw [e] at h; exact ⟨m', by rw [show r = .bl true from h]⟩
  | exc _ _ _ => rw [e] at h; exact h.elim
  | no => rw [e] at h; exact h.elim
theorem okD_mono : ∀ (n : Nat) (d : D), okD n d → okD (n + 1) d
  | 0, _, h => h.elim
  | n + 1, .non, _ => trivial
  | n + 1, .int _, _ => trivial
  | n + 1, .str _, h => h
  | n + 1, .tup xs, h => fun x hx => okD_mono n x (h x hx)
  | n + 1, .bl _, h => h.elim
  | n + 1, .ctup _, h => h.elim
  | n + 1, .clst _, h => h.elim
  | n + 1, .ref _, h => h.elim
theorem okD_up {n k : Nat} (h : n ≤ k) {d : D} (hd : okD n d) : okD k d := by
  induction h with
  | refl => exact hd
  | step _ ih => exact okD_mono _ _ ih
theorem opNe_nil {m : Mem} {k : Nat} {xs : List D} (h : m[k]? = some (.lst xs)) (h7 : ∀ d ∈ xs, okD 7 d) : opNe (.d (.ref k)) (.l []) m = .ok (.d (.bl (!decide (xs.length = 0)))) m := by
  rw [opNe_lst (xs := xs) (ys := []) (listOf_ref h) rfl h7 (by simp)]
  cases xs <;> simp
theorem opEq_nil {m : Mem} {k : Nat} {xs : List D} (h : m[k]? = some (.lst xs)) (h7 : ∀ d ∈ xs, okD 7 d) : opEq (.d (.ref k)) (.l []) m = .ok (.d (.bl (decide (xs.length = 0)))) m := by
  rw [opEq_lst (xs := xs) (ys := []) (listOf_ref h) rfl h7 (by simp)]
  cases xs <;> simp
theorem wp_nxt {r : Res Fl} {q : Fl → Mem → Prop} {P : Mem → Prop} {x : XM} (h : wpR r (fun fl m' => (∃ e, fl = .nxt e) ∧ P m') noEx) (hq : ∀ e m', P m' → q (.nxt e) m') : wpR r q x := wpR_mono h (fun fl m' z => by obtain ⟨⟨e, rfl⟩, p⟩ := z; exact hq e m' p) fun _ _ _ z => z.elim
theorem cut_from {α : Type} (xs : List α) (j : Nat) (h : j ≤ xs.length) : cutD xs (some (j : Int)) none = xs.drop j := by
  simp only [cutD, HT.sIx_none, HT.sIx_nat]
  rw [Nat.min_eq_left h, List.take_of_length_le (by rw [List.length_drop]; omega)]
theorem cut_take1 (xs : List D) : cutD xs none (some (1 : Int)) = xs.take 1 := cut_take xs 1
theorem its_map (ns : List Int) : (ns.map D.int).mapM itOf = some ns := by
  induction ns with
  | nil => rfl
  | cons a l ih => rw [List.map_cons, List.mapM_cons, ih]; rfl
theorem sum_l {xs : List D} {ns : List Int} (h : xs = ns.map D.int) : bSum [.l xs] = okM (.d (.int ns.sum)) := by
  subst h
  funext m
  simp only [bSum, on1, itsOf, Mir.listOf, Option.bind_some, its_map]
  rfl
theorem sort_l {xs : List D} {ns : List Int} (h : xs = ns.map D.int) : bSortI [.l xs] = okM (.l ((sortI ns).map D.int)) := by
  subst h
  funext m
  simp only [bSortI, on1, itsOf, Mir.listOf, Option.bind_some, its_map]
  rfl
theorem all_l (bs : List Bool) (xs : List D) (h : xs = bs.map D.bl) : bAll [.l xs] = okM (.d (.bl (bs.all id))) := by
  subst h; exact bAll_l bs
theorem str_int {i : Int} (h : i.natAbs.log2 < 1920) : bStr [.d (.int i)] = okM (.d (.str (toString i))) := by
  funext m
  simp only [bStr, on1, strOf, if_pos h, retI]
  rfl
theorem str_bl (k : Bool) : bStr [.d (.bl k)] = okM (.d (.str (if k then "True" else "False"))) := rfl
theorem ev_addRL (k : Nat) (ys : List D) (m : Mem) : opAdd (.d (.ref k)) (.l ys) m = match m[k]? with
    | some (.lst xs) => if xs.length + ys.length ≤ 16777216 then .ok (.l (xs ++ ys)) m else .no
    | _ => .no := by
  show opCat _ _ m = _
  simp only [opCat, ev_listOfM, listOfM_l, line_eq]
  all_goals (cases m[k]? with
    | none => rfl
    | some o => cases o <;> rfl)
theorem ev_addLR (k : Nat) (xs : List D) (m : Mem) : opAdd (.l xs) (.d (.ref k)) m = match m[k]? with
    | some (.lst ys) => if xs.length + ys.length ≤ 16777216 then .ok (.l (xs ++ ys)) m else .no
    | _ => .no := by
  show opCat _ _ m = _
  simp only [opCat, ev_listOfM, listOfM_l, line_eq]
  all_goals (cases m[k]? with
    | none => rfl
    | some o => cases o <;> rfl)
theorem ev_addRR (j k : Nat) (m : Mem) : opAdd (.d (.ref j)) (.d (.ref k)) m = match m[j]?, m[k]? with
    | some (.lst xs), some (.lst ys) => if xs.length + ys.length ≤ 16777216 then .ok (.l (xs ++ ys)) m else .no
    | _, _ => .no := by
  show opCat _ _ m = _
  simp only [opCat, ev_listOfM, line_eq]
  all_goals (cases m[j]? with
    | none => cases m[k]? with
      | none => rfl
      | some o => cases o <;> rfl
    | some o => cases o <;> (cases m[k]? with
      | none => rfl
      | some o => cases o <;> rfl))
theorem ite_le2 {α : Type} {a b : Nat} {x y : α} (h : a + b ≤ 16777216) : (if a + b ≤ 16777216 then x else y) = x := if_pos h
theorem opAdd_s {a b : Str} (h : a.length + b.length ≤ 16777216) : opAdd (.d (.str a)) (.d (.str b)) = okM (.d (.str (a ++ b))) := by
  simp only [opAdd, opCatS, line_eq]
  rw [if_pos h]
theorem opAdd_t {xs ys : List D} (h0 : xs ≠ []) (h : xs.length + ys.length ≤ 16777216) : opAdd (.d (.tup xs)) (.d (.tup ys)) = okM (.d (.tup (xs ++ ys))) := by
  simp only [opAdd, opCatT, line_eq]
  rw [if_pos ⟨by cases xs <;> simp_all, h⟩]
/-! lists of truths compared -/
theorem toPyT_bls {m : Mem} {x : TV} {bs : List Bool} (h : Mir.listOf m x = some (bs.map D.bl)) : toPyT m x = some (.list (bs.map PyData.bool)) := by
  have k : ∀ n, (bs.map D.bl).mapM (toPy m (n + 1)) = some (bs.map PyData.bool) := by
    intro n
    induction bs with
    | nil => rfl
    | cons b l ih =>
      have : ∀ l : List Bool, (l.map D.bl).mapM (toPy m (n + 1)) = some (l.map PyData.bool) := by
        intro l
        induction l with
        | nil => rfl
        | cons a l ih => rw [List.map_cons, List.mapM_cons, ih]; rfl
      exact this _
  cases x with
  | l xs => cases h; simp only [toPyT, k 6]; rfl
  | d x =>
    cases x with
    | clst xs => cases h; simp only [toPyT, toPy, k 6]; rfl
    | ref r =>
      simp only [Mir.listOf] at h
      split at h
      · rename_i hm
        cases h
        simp only [toPyT, toPy, hm, k 6]; rfl
      · cases h
    | _ => cases h
theorem bls_shaped (bs : List Bool) : SeqAt.shaped (.list (bs.map PyData.bool)) = true := by
  have h1 : PyData.canLayAll0 (bs.map PyData.bool) = true := by
    induction bs with
    | nil => simp [PyData.canLayAll0]
    | cons b l ih => simp only [List.map_cons, PyData.canLayAll0, PyData.canLay0, ih, Bool.and_self]
  have h2 : PyData.depthAll (bs.map PyData.bool) ≤ 1 := depthAll_le (by
    intro p hp
    obtain ⟨x, _, rfl⟩ := List.mem_map.1 hp
    simp [PyData.depth])
  unfold SeqAt.shaped
  simp only [PyData.canLay0, h1, Bool.true_and, PyData.depth]
  apply decide_eq_true
  omega
theorem bls_eqv : ∀ bs cs : List Bool, PyData.eqvAll (bs.map PyData.bool) (cs.map PyData.bool) = decide (bs = cs)
  | [], [] => by simp [PyData.eqvAll]
  | [], _ :: _ => by simp [PyData.eqvAll]
  | _ :: _, [] => by simp [PyData.eqvAll]
  | b :: bs, c :: cs => by
    simp only [List.map_cons, PyData.eqvAll, PyData.eqv, bls_eqv bs cs]
    rw [Bool.eq_iff_iff]
    simp
theorem eqG_bls {m : Mem} {x y : TV} {bs cs : List Bool} (hx : Mir.listOf m x = some (bs.map D.bl)) (hy : Mir.listOf m y = some (cs.map D.bl)) : eqG m x y = some (decide (bs = cs)) := by
  rw [eqG_kind (toPyT_bls hx) (toPyT_bls hy) (bls_shaped _) (bls_shaped _)]
  simp only [PyData.eqv, bls_eqv]
theorem opEq_bls {m : Mem} {x y : TV} {bs cs : List Bool} (hx : Mir.listOf m x = some (bs.map D.bl)) (hy : Mir.listOf m y = some (cs.map D.bl)) : opEq x y m = .ok (.d (.bl (decide (bs = cs)))) m := by
  simp only [opEq, eqT_of (eqG_bls hx hy) (listOf_ne hx).1 (listOf_ne hx).2]
theorem opNe_bls {m : Mem} {x y : TV} {bs cs : List Bool} (hx : Mir.listOf m x = some (bs.map D.bl)) (hy : Mir.listOf m y = some (cs.map D.bl)) : opNe x y m = .ok (.d (.bl (!decide (bs = cs)))) m := by
  simp only [opNe, eqT_of (eqG_bls hx hy) (listOf_ne hx).1 (listOf_ne hx).2]
theorem is_non_int  : isiB "int" (.d .non) = okM (.d (.bl false)) := by funext m; exact isiB_of rfl (by decide +kernel)
theorem is_non_bool  : isiB "bool" (.d .non) = okM (.d (.bl false)) := by funext m; exact isiB_of rfl (by decide +kernel)
theorem is_non_str  : isiB "str" (.d .non) = okM (.d (.bl false)) := by funext m; exact isiB_of rfl (by decide +kernel)
theorem is_non_list  : isiB "list" (.d .non) = okM (.d (.bl false)) := by funext m; exact isiB_of rfl (by decide +kernel)
theorem is_non_tuple  : isiB "tuple" (.d .non) = okM (.d (.bl false)) := by funext m; exact isiB_of rfl (by decide +kernel)
theorem is_bl_int (b : Bool) : isiB "int" (.d (.bl b)) = okM (.d (.bl true)) := by funext m; exact isiB_of rfl (by decide +kernel)
theorem is_bl_bool (b : Bool) : isiB "bool" (.d (.bl b)) = okM (.d (.bl true)) := by funext m; exact isiB_of rfl (by decide +kernel)
theorem is_bl_str (b : Bool) : isiB "str" (.d (.bl b)) = okM (.d (.bl false)) := by funext m; exact isiB_of rfl (by decide +kernel)
theorem is_bl_list (b : Bool) : isiB "list" (.d (.bl b)) = okM (.d (.bl false)) := by funext m; exact isiB_of rfl (by decide +kernel)
theorem is_bl_tuple (b : Bool) : isiB "tuple" (.d (.bl b)) = okM (.d (.bl false)) := by funext m; exact isiB_of rfl (by decide +kernel)
theorem is_int_int (i : Int) : isiB "int" (.d (.int i)) = okM (.d (.bl true)) := by funext m; exact isiB_of rfl (by decide +kernel)
theorem is_int_bool (i : Int) : isiB "bool" (.d (.int i)) = okM (.d (.bl false)) := by funext m; exact isiB_of rfl (by decide +kernel)
theorem is_int_str (i : Int) : isiB "str" (.d (.int i)) = okM (.d (.bl false)) := by funext m; exact isiB_of rfl (by decide +kernel)
theorem is_int_list (i : Int) : isiB "list" (.d (.int i)) = okM (.d (.bl false)) := by funext m; exact isiB_of rfl (by decide +kernel)
theorem is_int_tuple (i : Int) : isiB "tuple" (.d (.int i)) = okM (.d (.bl false)) := by funext m; exact isiB_of rfl (by decide +kernel)
theorem is_str_int (x : Str) : isiB "int" (.d (.str x)) = okM (.d (.bl false)) := by funext m; exact isiB_of rfl (by decide +kernel)
theorem is_str_bool (x : Str) : isiB "bool" (.d (.str x)) = okM (.d (.bl false)) := by funext m; exact isiB_of rfl (by decide +kernel)
theorem is_str_str (x : Str) : isiB "str" (.d (.str x)) = okM (.d (.bl true)) := by funext m; exact isiB_of rfl (by decide +kernel)
theorem is_str_list (x : Str) : isiB "list" (.d (.str x)) = okM (.d (.bl false)) := by funext m; exact isiB_of rfl (by decide +kernel)
theorem is_str_tuple (x : Str) : isiB "tuple" (.d (.str x)) = okM (.d (.bl false)) := by funext m; exact isiB_of rfl (by decide +kernel)
theorem is_tup_int (xs : List D) : isiB "int" (.d (.tup xs)) = okM (.d (.bl false)) := by funext m; exact isiB_of rfl (by decide +kernel)
theorem is_tup_bool (xs : List D) : isiB "bool" (.d (.tup xs)) = okM (.d (.bl false)) := by funext m; exact isiB_of rfl (by decide +kernel)
theorem is_tup_str (xs : List D) : isiB "str" (.d (.tup xs)) = okM (.d (.bl false)) := by funext m; exact isiB_of rfl (by decide +kernel)
theorem is_tup_list (xs : List D) : isiB "list" (.d (.tup xs)) = okM (.d (.bl false)) := by funext m; exact isiB_of rfl (by decide +kernel)
theorem is_tup_tuple (xs : List D) : isiB "tuple" (.d (.tup xs)) = okM (.d (.bl true)) := by funext m; exact isiB_of rfl (by decide +kernel)
theorem is_l_int (xs : List D) : isiB "int" (.l xs) = okM (.d (.bl false)) := by funext m; exact isiB_of rfl (by decide +kernel)
theorem is_l_bool (xs : List D) : isiB "bool" (.l xs) = okM (.d (.bl false)) := by funext m; exact isiB_of rfl (by decide +kernel)
theorem is_l_str (xs : List D) : isiB "str" (.l xs) = okM (.d (.bl false)) := by funext m; exact isiB_of rfl (by decide +kernel)
theorem is_l_list (xs : List D) : isiB "list" (.l xs) = okM (.d (.bl true)) := by funext m; exact isiB_of rfl (by decide +kernel)
theorem is_l_tuple (xs : List D) : isiB "tuple" (.l xs) = okM (.d (.bl false)) := by funext m; exact isiB_of rfl (by decide +kernel)
theorem is_ref_list {k : Nat} {xs : List D} {m : Mem} (h : m[k]? = some (.lst xs)) : isiB "list" (.d (.ref k)) m = .ok (.d (.bl true)) m := isiB_of (t := "list") (by simp [tyN, h]) (by decide +kernel)
theorem is_ref_tuple {k : Nat} {xs : List D} {m : Mem} (h : m[k]? = some (.lst xs)) : isiB "tuple" (.d (.ref k)) m = .ok (.d (.bl false)) m := isiB_of (t := "list") (by simp [tyN, h]) (by decide +kernel)
theorem is_dict_list {k : Nat} {m : Mem} (h : (∃ kvs, m[k]? = some (.dic kvs)) ∨ ∃ kvs, m[k]? = some (.dit kvs)) : isiB "list" (.d (.ref k)) m = .ok (.d (.bl false)) m := by
  refine isiB_of (t := "dict") ?_ (by decide +kernel)
  rcases h with ⟨_, h⟩ | ⟨_, h⟩ <;> simp [tyN, h]
theorem ev_isl (k : Nat) (m : Mem) : isiB "list" (.d (.ref k)) m = match m[k]? with
    | some (.lst _) => .ok (.d (.bl true)) m
    | some (.dic _) => .ok (.d (.bl false)) m
    | some (.dit _) => .ok (.d (.bl false)) m
    | _ => .no := by
  cases h : m[k]? with
  | none => simp [isiB, tyN, h, retI]
  | some o =>
    cases o with
    | lst xs => exact is_ref_list h
    | dic kvs => exact is_dict_list (.inl ⟨_, h⟩)
    | dit kvs => exact is_dict_list (.inr ⟨_, h⟩)
    | _ => simp [isiB, tyN, h, retI]
def chainR (g : TV → TV → M TV) (y : TV) (c : M TV) : TV → M TV
  | .d (.bl k) => if k = true then bindM c fun w => g y w else okM (.d (.bl false))
  | _ => noM
theorem chainE_mk (f g : TV → TV → M TV) (a b c : EM) (env : Mir.Env) : chainE f g a b c env = bindM (a env) fun x => bindM (b env) fun y => bindM (f x y) fun z => chainR g y (c env) z := rfl
theorem chainR_b (g : TV → TV → M TV) (y : TV) (c : M TV) (k : Bool) : chainR g y c (.d (.bl k)) = if k = true then bindM c fun w => g y w else okM (.d (.bl false)) := rfl
theorem pickA (xs : List D) {i : Int} (h : 0 ≤ i ∧ i < xs.length) : ∃ d, d ∈ xs ∧ L2.atI xs i = some d := by
  obtain ⟨d, h1, h2⟩ := atI_nat' (xs := xs) h
  exact ⟨d, List.mem_of_getElem? h2, h1⟩
/-! ### a number mixed -/
def mixedB : SMs := (seqS (ifS (andT (bT (binE opGe (varE 0) (binE opShl (kE (.int 1)) (kE (.int 90))))) (andT (bT (binE opEq (binE opMod (varE 0) (kE (.int 2))) (kE (.int 1)))) (bT (binE opGt (binE opShr (varE 0) (binE opAdd (kE (.int 1)) (binE opMulX (kE (.int 31)) (varE 1)))) (kE (.int 0)))))) (retS (matE (binE opMod (binE opShr (varE 0) (binE opAdd (kE (.int 1)) (binE opMulX (kE (.int 31)) (varE 1)))) (kE (.int 2147483648))))) skipS)
    (seqS (asgS (matE (binE opMod (binE opMulX (binE opAdd (binE opAdd (varE 0) (binE opMulX (kE (.int 7919)) (varE 1))) (kE (.int 1))) (kE (.int 48271))) (kE (.int 2147483647)))) (nmG 2))
    (seqS (asgS (matE (binE opMod (binE opMulX (varE 2) (binE opAdd (binE opDiv (varE 2) (kE (.int 1009))) (kE (.int 69621)))) (kE (.int 2147483647)))) (nmG 2))
    (retS (matE (binE opMod (binE opMulX (varE 2) (binE opAdd (binE opAdd (binE opDiv (varE 2) (kE (.int 2003))) (kE (.int 39373))) (varE 1))) (kE (.int 2147483629))))))))
def mixer (c k : Int) : Int :=
  let n := (c + 7919 * k + 1) * 48271 % 2147483647
  let n := n * (n / 1009 + 69621) % 2147483647
  n * (n / 2003 + 39373 + k) % 2147483629
def mixed (c k : Int) : Int :=
  if 1237940039285380274899124224 ≤ c then (if c % 2 = 1 then (if 0 < c / 2 ^ (1 + 31 * k).toNat then c / 2 ^ (1 + 31 * k).toNat % 2147483648 else mixer c k) else mixer c k) else mixer c k
theorem mixed_run (c k : Int) (hk : 0 ≤ k ∧ k ≤ 100000) : fnM 3 mixedB [.int c, .int k] = okM (.int (mixed c k)) := by
  have h1 : 0 ≤ 1 + 31 * k := by omega
  unfold mixedB
  rw [fnM_mk]
  simp (disch := omega) [opMulX_i, opMul_r, opMul_l, opMod_p, opDiv_p, opShr_p, opShl_p, bindM_ite, fnR_ite]
  unfold mixed mixer
  split <;> try rfl
  split <;> try rfl
  split <;> rfl
theorem mixed_lt (c k : Int) : 0 ≤ mixed c k ∧ mixed c k < 2147483648 := by
  have h (c k : Int) : 0 ≤ mixer c k ∧ mixer c k < 2147483648 := by
    unfold mixer
    dsimp only
    omega
  unfold mixed
  have := h c k
  split <;> try exact this
  split <;> try exact this
  split <;> try exact this
  omega
/-! ### a number of the script -/
def cellB : SMs := (seqS (ifS (bT (binE opLt (varE 1) (callB bLen2 (consT (varE 0) nilT)))) (retS (matE (binE opSubs (varE 0) (varE 1)))) skipS)
    (retS (matE (kE (.int 0)))))
theorem cell_run (ns : List Int) (k : Int) (hk : 0 ≤ k) : fnM 2 cellB [.clst (ns.map D.int), .int k] = okM (.int (ns[k.toNat]?.getD 0)) := by
  unfold cellB
  rw [fnM_mk]
  by_cases h : k < ns.length
  · obtain ⟨d, h1, h2⟩ := atI_nat' (xs := ns.map D.int) (i := k) ⟨hk, by simpa using h⟩
    rw [List.getElem?_map] at h2
    cases e : ns[k.toNat]? with
    | none => rw [e] at h2; cases h2
    | some v =>
      rw [e] at h2
      cases h2
      simp [len2_clst, h, opIdx_clst h1, subs_clst]
  · have e : ns[k.toNat]? = none := List.getElem?_eq_none (by omega)
    rw [e]
    simp [len2_clst, h]
/-! ### a draw -/
def drawB : SMs := (retS (matE (lstE (consA (matE (binE opMulX (binE opDiv (varE 0) (kE (.int 2))) (binE opSub (kE (.int 1)) (binE opMod (varE 0) (kE (.int 2)))))) (consA (matE (varE 0)) nilA)))))
theorem draw_run (c : Int) (m : Mem) : wpR (fnM 1 drawB [.int c] m) (fun r m' => r = .ref m.length ∧ ∃ a b : Int, m' = m ++ [.lst [.int a, .int b]]) noEx := by
  refine wp_fn ?_
  unfold drawB
  simp -implicitDefEqProofs (maxSteps := 2000000) (disch := (first | omega | decide +kernel | (simp only [isSome_set, isSome_app, isSome_new, Option.isSome_some, *]; done) | (simp only [isSome_lt, List.length_set, List.length_append, List.length_cons, List.length_nil, decide_eq_true_eq]; omega))) only [seqS_mk, asgS_mk, ifS_mk, retS_mk, retNS_mk, skipS_mk, dropS_mk, brkS_mk, cntS_mk, forS_mk, seqI_mk, matE_mk, callF_mk, callB_mk, consA_mk, nilA_mk, consT_mk, nilT_mk, tvs_mk, binE_mk, varE_0, varE_s, kE_mk, set_0, set_s, nmG_mk, lstE_mk, tupE_mk, bT_mk, tstT_mk, notT_mk, andT_mk, orT_mk, yesT_mk, andE_mk, orE_mk, notE_mk, ifE_mk, negE_mk, sliceE_mk, noP_mk, intP_mk, bmE_mk, bmE0_mk, isiB_mk, lcE_mk, lcT_mk, wipeE_nil, wipeE_cons, bindM_ok, bindM_bind, wp_bind, wp_okM, wp_ok, wp_lift, liftF_ok, matD_d, matD_l, boolT_mk, truthM_bl, truthM_int, truthM_non, opAdd_i, opSub_i, opLt_i, opLe_i, opGt_i, opGe_i, opEq_i, opNe_i, opMod_p, opDiv_p, seqSrc_l, seqSrc_clst, seqSrc_tup, ofL_n, ofR_n, opCut_l, opCut_tup, opCut_clst, callB_len_clst, callB_len_l, callB_len_tup, isi_int_int, isi_int_bool, isi_bool_bool, isi_bool_int, if_true, List.map_cons, List.map_nil, Int.toNat_natCast, List.length_cons, List.length_nil, List.replicate_succ, List.replicate_zero, List.cons_append, List.nil_append, Nat.sub_self, Nat.reduceSub, Nat.reduceAdd, ite_at, wp_ite, Bool.not_true, Bool.not_false, decide_true, decide_false, Bool.false_eq_true, if_false, reduceIte, fldE_mk, ev_fld, sfldS_mk, ev_setF, ev_putD_nil, ev_putD, methE_mk, ev_meth, augFS_mk, ev_aug, ev_len, ev_len2, len2_clst, len2_l, len2_tup, ev_list, ev_list2, list_tup, list_clst, list_l, list2_tup, list2_l, list2_clst, ev_tuple, tuple_tup, bTuple_l, ev_cut, ev_idx, ev_idxT, ev_idxL, ev_idxC, subS_mk, ev_subs, subs_l, subs_tup, subs_clst, subs_str, key_int, key_str, ev_getK_nil, ev_getK, ev_put, ev_src, ev_append, ev_extend, listOfM_l, ev_listOfM, listOf_l, listOf_clst, ev_listOf, ev_clear, chk_list, chk_str, chk_dic, dgetE_mk, dgetM_ev, dget2E_mk, dget2M_ev, ev_dget, ev_dgetY, ev_dget2Y, dpopE_mk, get_set_ne', get_set_is, get_app_is, get_new, ite_lt, ite_le, at_0, at_1, at_2, at_3, at_4, at_end, tupG_mk, tupG_mk', consG_mk, nilG_mk, sne, sbne, beq_self_eq_true, List.lookup_cons, List.lookup_nil, List.mem_cons, List.not_mem_nil, or_false, false_or, true_or, or_true, and_true, true_and, and_false, false_and, eq_self, Option.isSome_some, Option.isSome_none, Option.map_some, Option.map_none, opIs_nn, opIs_ni, opIsNot_nn, opIsNot_ni, opIsB_b, opIsNotB_b, opMul_l, opMul_r, opEq_b, opNe_b, bMax2_i, bMin2_i, List.map_cons, Sum.inl.injEq, Sum.inr.injEq, isi_l_list, isi_tup_tup, List.length_set, decide_eq_true_eq, negE_mk, wp_lift, wp_make, Nat.reduceLT, Nat.reduceLeDiff, Nat.reduceEqDiff, Nat.reduceMul, Int.reduceLT, Int.reduceLE, Int.reduceEq, Int.reduceAdd, Int.reduceSub, Int.reduceMul, Int.reduceNeg, Int.reduceToNat, Int.reducePow, Nat.reducePow, Int.reduceMod, Int.reduceDiv, reduceCtorEq, ite_true, List.nil_append, Nat.reduceBEq, isXE_mk, ev_isX, xfE_mk, ev_xf, wp_exc, raiseS_mk, raiseFS_mk, excM_mk, wp_try, goneF_nxt, goneF_ret, opMulX_i, ev_addRL, ev_addLR, ev_addRR, ite_le2, opAdd_s, opAdd_t, chainE_mk, chainR_b, ev_isl, andE_mk, orE_mk, notE_mk, is_non_int, is_non_bool, is_non_str, is_non_list, is_non_tuple, is_bl_int, is_bl_bool, is_bl_str, is_bl_list, is_bl_tuple, is_int_int, is_int_bool, is_int_str, is_int_list, is_int_tuple, is_str_int, is_str_bool, is_str_str, is_str_list, is_str_tuple, is_tup_int, is_tup_bool, is_tup_str, is_tup_list, is_tup_tuple, is_l_int, is_l_bool, is_l_str, is_l_list, is_l_tuple]
  exact ⟨_, _, rfl⟩
def nextB : SMs := (seqS (subS (varE 0) (kE (.int 1)) (matE (binE opMod (binE opAdd (binE opMulX (binE opSubs (varE 0) (kE (.int 1))) (kE (.int 48271))) (kE (.int 11))) (kE (.int 2147483647)))))
    (seqS (ifS (bT (binE opGt (binE opSubs (varE 0) (kE (.int 0))) (kE (.int 0)))) (seqS (asgS (matE (binE opMod (binE opSubs (varE 0) (kE (.int 0))) (varE 1))) (nmG 2))
    (seqS (subS (varE 0) (kE (.int 0)) (matE (binE opDiv (binE opSubs (varE 0) (kE (.int 0))) (varE 1))))
    (retS (matE (varE 2))))) skipS)
    (seqS (asgS (matE (binE opMod (binE opMulX (binE opSubs (varE 0) (kE (.int 1))) (binE opAdd (binE opDiv (binE opSubs (varE 0) (kE (.int 1))) (kE (.int 1009))) (kE (.int 69621)))) (kE (.int 2147483647)))) (nmG 3))
    (retS (matE (binE opMod (binE opMod (binE opMulX (varE 3) (binE opAdd (binE opDiv (varE 3) (kE (.int 757))) (kE (.int 16807)))) (kE (.int 2147483629))) (varE 1)))))))
theorem next_run {m : Mem} {d : Nat} {a b size : Int} (hd : m[d]? = some (.lst [.int a, .int b])) (hs : 1 ≤ size ∧ size < 1073741824) : wpR (fnM 4 nextB [.ref d, .int size] m) (fun r m' => ∃ v a' b' : Int, r = .int v ∧ 0 ≤ v ∧ v < size ∧ m' = m.set d (.lst [.int a', .int b'])) noEx := by
  refine wp_fn ?_
  unfold nextB
  have h1 := sub_lst hd (at_1 (D.int a) (D.int b) [])
  have b1 := Int.emod_nonneg a (by omega : size ≠ 0)
  have b2 := Int.emod_lt_of_pos a (by omega : 0 < size)
  simp -implicitDefEqProofs (maxSteps := 2000000) (disch := omega) only [seqS_mk, asgS_mk, ifS_mk, retS_mk, retNS_mk, skipS_mk, dropS_mk, brkS_mk, cntS_mk, forS_mk, seqI_mk, matE_mk, callF_mk, callB_mk, consA_mk, nilA_mk, consT_mk, nilT_mk, tvs_mk, binE_mk, varE_0, varE_s, kE_mk, set_0, set_s, nmG_mk, lstE_mk, tupE_mk, bT_mk, tstT_mk, notT_mk, andT_mk, orT_mk, yesT_mk, andE_mk, orE_mk, notE_mk, ifE_mk, negE_mk, sliceE_mk, noP_mk, intP_mk, bmE_mk, bmE0_mk, isiB_mk, lcE_mk, lcT_mk, wipeE_nil, wipeE_cons, bindM_ok, bindM_bind, wp_bind, wp_okM, wp_ok, wp_lift, liftF_ok, matD_d, matD_l, boolT_mk, truthM_bl, truthM_int, truthM_non, opAdd_i, opSub_i, opLt_i, opLe_i, opGt_i, opGe_i, opEq_i, opNe_i, opMod_p, opDiv_p, seqSrc_l, seqSrc_clst, seqSrc_tup, ofL_n, ofR_n, opCut_l, opCut_tup, opCut_clst, callB_len_clst, callB_len_l, callB_len_tup, isi_int_int, isi_int_bool, isi_bool_bool, isi_bool_int, if_true, List.map_cons, List.map_nil, Int.toNat_natCast, List.length_cons, List.length_nil, List.replicate_succ, List.replicate_zero, List.cons_append, List.nil_append, Nat.sub_self, Nat.reduceSub, Nat.reduceAdd, ite_at, wp_ite, Bool.not_true, Bool.not_false, decide_true, decide_false, Bool.false_eq_true, if_false, reduceIte, subS_mk, h1, opMulX_i, opMul_r]
  rw [wp_eq (subPut_lst hd (by simp))]
  have hnb : 0 ≤ (b * 48271 + 11) % 2147483647 ∧ (b * 48271 + 11) % 2147483647 < 2147483647 := by omega
  generalize (b * 48271 + 11) % 2147483647 = nb at *
  have e1 : ([D.int a, D.int b].set (1 : Int).toNat (.int nb)) = [D.int a, D.int nb] := rfl
  rw [e1]
  have hd2 : (m.set d (.lst [.int a, .int nb]))[d]? = some (.lst [.int a, .int nb]) := get_set hd
  have i0 := sub_lst hd2 (at_0 (D.int a) [D.int nb])
  have i1 := sub_lst hd2 (at_1 (D.int a) (D.int nb) [])
  simp -implicitDefEqProofs (maxSteps := 2000000) (disch := omega) only [seqS_mk, asgS_mk, ifS_mk, retS_mk, retNS_mk, skipS_mk, dropS_mk, brkS_mk, cntS_mk, forS_mk, seqI_mk, matE_mk, callF_mk, callB_mk, consA_mk, nilA_mk, consT_mk, nilT_mk, tvs_mk, binE_mk, varE_0, varE_s, kE_mk, set_0, set_s, nmG_mk, lstE_mk, tupE_mk, bT_mk, tstT_mk, notT_mk, andT_mk, orT_mk, yesT_mk, andE_mk, orE_mk, notE_mk, ifE_mk, negE_mk, sliceE_mk, noP_mk, intP_mk, bmE_mk, bmE0_mk, isiB_mk, lcE_mk, lcT_mk, wipeE_nil, wipeE_cons, bindM_ok, bindM_bind, wp_bind, wp_okM, wp_ok, wp_lift, liftF_ok, matD_d, matD_l, boolT_mk, truthM_bl, truthM_int, truthM_non, opAdd_i, opSub_i, opLt_i, opLe_i, opGt_i, opGe_i, opEq_i, opNe_i, opMod_p, opDiv_p, seqSrc_l, seqSrc_clst, seqSrc_tup, ofL_n, ofR_n, opCut_l, opCut_tup, opCut_clst, callB_len_clst, callB_len_l, callB_len_tup, isi_int_int, isi_int_bool, isi_bool_bool, isi_bool_int, if_true, List.map_cons, List.map_nil, Int.toNat_natCast, List.length_cons, List.length_nil, List.replicate_succ, List.replicate_zero, List.cons_append, List.nil_append, Nat.sub_self, Nat.reduceSub, Nat.reduceAdd, ite_at, wp_ite, Bool.not_true, Bool.not_false, decide_true, decide_false, Bool.false_eq_true, if_false, reduceIte, i0, i1, subS_mk, opMulX_i, opMul_l, opMul_r]
  split
  · rw [wp_eq (subPut_lst hd2 (by simp))]
    exact ⟨_, a / size, nb, rfl, b1, b2, by rw [List.set_set]; rfl⟩
  · have hd3 : (m.set d (.lst [.int a, .int nb])) = m.set d (.lst [.int a, .int nb]) := rfl
    try simp -implicitDefEqProofs (maxSteps := 2000000) (disch := omega) only [seqS_mk, asgS_mk, ifS_mk, retS_mk, retNS_mk, skipS_mk, dropS_mk, brkS_mk, cntS_mk, forS_mk, seqI_mk, matE_mk, callF_mk, callB_mk, consA_mk, nilA_mk, consT_mk, nilT_mk, tvs_mk, binE_mk, varE_0, varE_s, kE_mk, set_0, set_s, nmG_mk, lstE_mk, tupE_mk, bT_mk, tstT_mk, notT_mk, andT_mk, orT_mk, yesT_mk, andE_mk, orE_mk, notE_mk, ifE_mk, negE_mk, sliceE_mk, noP_mk, intP_mk, bmE_mk, bmE0_mk, isiB_mk, lcE_mk, lcT_mk, wipeE_nil, wipeE_cons, bindM_ok, bindM_bind, wp_bind, wp_okM, wp_ok, wp_lift, liftF_ok, matD_d, matD_l, boolT_mk, truthM_bl, truthM_int, truthM_non, opAdd_i, opSub_i, opLt_i, opLe_i, opGt_i, opGe_i, opEq_i, opNe_i, opMod_p, opDiv_p, seqSrc_l, seqSrc_clst, seqSrc_tup, ofL_n, ofR_n, opCut_l, opCut_tup, opCut_clst, callB_len_clst, callB_len_l, callB_len_tup, isi_int_int, isi_int_bool, isi_bool_bool, isi_bool_int, if_true, List.map_cons, List.map_nil, Int.toNat_natCast, List.length_cons, List.length_nil, List.replicate_succ, List.replicate_zero, List.cons_append, List.nil_append, Nat.sub_self, Nat.reduceSub, Nat.reduceAdd, ite_at, wp_ite, Bool.not_true, Bool.not_false, decide_true, decide_false, Bool.false_eq_true, if_false, reduceIte, opMulX_i, opMul_l, opMul_r]
    exact ⟨_, a, nb, rfl, Int.emod_nonneg _ (by omega), Int.emod_lt_of_pos _ (by omega), rfl⟩
end Mir

set_option maxHeartbeats 1000000
/-! more of the plain side -/
namespace Mir
open PySem L2
theorem eq_wp {α : Type} {r : Res α} {a : α} {m' : Mem} (h : wpR r (fun b m1 => b = a ∧ m1 = m') noEx) : r = .ok a m' := by
  cases r with
  | ok b m => obtain ⟨rfl, rfl⟩ := h; rfl
  | exc _ _ _ => exact h.elim
  | no => exact h.elim
theorem wp_lcm {f : Nat → Mem → Option (Option D)} {turn : D → M (Option D)} {ds : List D} {m : Mem} {q : List D → Mem → Prop} {x : XM} (hd : D → D) (hf : ∀ i, f i m = some ds[i]?) (h : ∀ d ∈ ds, wpR (turn d m) (fun o m1 => o = some (hd d) ∧ m1 = m) noEx) (hz : ds.length < 16777216) (hq : q (ds.map hd) m) : wpR (lcS f turn (ds.length + 1) 0 [] m) q x := by
  rw [wp_eq (lcS_map hd hf (fun d hm => eq_wp (h d hm)) hz)]
  exact hq
theorem wp_lcf {f : Nat → Mem → Option (Option D)} {turn : D → M (Option D)} {ds : List D} {m : Mem} {q : List D → Mem → Prop} {x : XM} (hd : D → Option D) (hf : ∀ i, f i m = some ds[i]?) (h : ∀ d ∈ ds, wpR (turn d m) (fun o m1 => o = hd d ∧ m1 = m) noEx) (hz : ds.length < 16777216) (hq : q (ds.filterMap hd) m) : wpR (lcS f turn (ds.length + 1) 0 [] m) q x := by
  rw [wp_eq (lcS_at hd hf (fun d hm => eq_wp (h d hm)) hz)]
  exact hq
/-! dicts -/
theorem getK_def {κ : Type} [DecidableEq κ] (kvs : List (κ × D)) (k : κ) : getK kvs k = (kvs.find? fun kv => decide (kv.1 = k)).map (·.2) := rfl
theorem getK_app {κ : Type} [DecidableEq κ] (a b : List (κ × D)) (k : κ) : getK (a ++ b) k = (getK a k).or (getK b k) := by
  unfold getK
  rw [List.find?_append]
  cases a.find? fun kv => decide (kv.1 = k) <;> simp
theorem getK_none {κ : Type} [DecidableEq κ] {kvs : List (κ × D)} {k : κ} (h : (kvs.any fun kv => decide (kv.1 = k)) = false) : getK kvs k = none := by
  unfold getK
  rw [List.any_eq_false] at h
  rw [List.find?_eq_none.2 h]; rfl
theorem getK_has {κ : Type} [DecidableEq κ] {kvs : List (κ × D)} {k : κ} : (kvs.any fun kv => decide (kv.1 = k)) = (getK kvs k).isSome := by
  induction kvs with
  | nil => rfl
  | cons a l ih =>
    rw [List.any_cons, ev_getK, ih]
    by_cases h : a.1 = k <;> simp [h]
theorem getK_rep {κ : Type} [DecidableEq κ] (kvs : List (κ × D)) (k k' : κ) (v : D) : getK (kvs.map fun kv => if kv.1 = k then (kv.1, v) else kv) k' = if k' = k then (if (getK kvs k).isSome then some v else none) else getK kvs k' := by
  induction kvs with
  | nil => simp [ev_getK_nil]
  | cons a l ih =>
    obtain ⟨ak, av⟩ := a
    rw [List.map_cons]
    by_cases h : ak = k
    · subst h
      simp only [if_true, ev_getK, ih]
      by_cases h2 : ak = k'
      · subst h2; simp
      · simp [h2, Ne.symm h2]
    · simp only [if_neg h, ev_getK, ih]
      by_cases h2 : ak = k'
      · subst h2; simp [h]
      · simp [h2]
theorem getK_set {κ : Type} [DecidableEq κ] (kvs : List (κ × D)) (k k' : κ) (v : D) : getK (setK kvs k v) k' = if k' = k then some v else getK kvs k' := by
  unfold setK
  split
  · rename_i h
    rw [getK_has] at h
    rw [getK_rep, h]
    simp
  · rename_i h
    have h : (kvs.any fun kv => decide (kv.1 = k)) = false := Bool.eq_false_iff.2 h
    rw [getK_app, ev_getK, ev_getK_nil]
    by_cases h2 : k' = k
    · subst h2
      rw [getK_none h]; simp
    · simp [h2, Ne.symm h2]
theorem setK_len {κ : Type} [DecidableEq κ] (kvs : List (κ × D)) (k : κ) (v : D) : (setK kvs k v).length = if (getK kvs k).isSome then kvs.length else kvs.length + 1 := by
  unfold setK
  rw [getK_has]
  split <;> simp
theorem getK_del {κ : Type} [DecidableEq κ] (kvs : List (κ × D)) (k k' : κ) : getK (delK kvs k) k' = if k' = k then none else getK kvs k' := by
  unfold delK
  induction kvs with
  | nil => simp [ev_getK_nil]
  | cons a l ih =>
    obtain ⟨ak, av⟩ := a
    by_cases h : ak = k
    · subst h
      rw [List.filter_cons_of_neg (by simp), ih, ev_getK]
      by_cases h2 : k' = ak
      · subst h2; simp
      · simp [h2, Ne.symm h2]
    · rw [List.filter_cons_of_pos (by simp [h]), ev_getK, ev_getK, ih]
      by_cases h2 : ak = k'
      · subst h2; simp [h]
      · simp [h2]
theorem delK_len {κ : Type} [DecidableEq κ] (kvs : List (κ × D)) (k : κ) : (delK kvs k).length ≤ kvs.length := List.length_filter_le _ _
def dpopY (x y : TV) : M TV := fun m' => match x, y with
  | .d (.ref n), .d y => match m'[n]? with
    | some (.dic kvs) => match keyD y with
      | some key => match getK kvs key with
        | some d => .ok (.d d) (m'.set n (.dic (delK kvs key)))
        | none => .no
      | none => .no
    | _ => .no
  | _, _ => .no
theorem dpopM_ev (k : EM) (env : Mir.Env) (r : Nat) (m : Mem) : dpopM k env (.d (.ref r)) m = match m[r]? with
    | some (.dic _) => bindM (k env) (dpopY (.d (.ref r))) m
    | some (.dit _) => bindM (k env) (dpopY (.d (.ref r))) m
    | _ => .no := by
  unfold dpopM dpopE
  simp only [bindM_ok, isDic_ev]
  cases m[r]? with
  | none => rfl
  | some o => cases o <;> rfl
theorem dpopY_ok {r : Nat} {y d : D} {m : Mem} {kvs : List (Key × D)} {key : Key} (h : m[r]? = some (.dic kvs)) (hk : keyD y = some key) (hd : getK kvs key = some d) : dpopY (.d (.ref r)) (.d y) m = .ok (.d d) (m.set r (.dic (delK kvs key))) := by
  simp only [dpopY, h, hk, hd]
theorem alt_pop {o k : EM} {a : Mir.Env → M (List TV)} {env : Mir.Env} {m m1 : Mem} {r : Nat} {kvs : List (Key × D)} (ho : o env m = .ok (.d (.ref r)) m1) (hm : m1[r]? = some (.dic kvs)) : altE (bmE "list" lPopAt o a) (dpopE o k) env m = bindM (k env) (dpopY (.d (.ref r))) m1 := by
  have e1 : bmE "list" lPopAt o a env m = .no := by
    simp only [bmE, bindM, ho, chk_list, Mir.listOf, hm]
    rfl
  have e2 : dpopE o k env m = bindM (k env) (dpopY (.d (.ref r))) m1 := by
    rw [dpopE_mk]
    simp only [bindM, ho]
    have := dpopM_ev k env r m1
    rw [hm] at this
    simpa [bindM] using this
  simp only [altE, e1, e2]
/-! texts -/
def goodSigns (x : Str) : Bool := decide (1 ≤ x.length) && decide (x.length ≤ 8) && x.cps.toList.all fun c => decide (32 ≤ c) && decide (c ≤ 126)
theorem opEq_s (a b : Str) : opEq (.d (.str a)) (.d (.str b)) = okM (.d (.bl (decide (a = b)))) := by
  funext m
  simp [opEq, eqT, okM]
theorem opNe_s (a b : Str) : opNe (.d (.str a)) (.d (.str b)) = okM (.d (.bl (!decide (a = b)))) := by
  funext m
  simp [opNe, eqT, okM]
theorem len2_str {x : Str} (h : x.length ≤ 16777216) : bLen2 [.d (.str x)] = okM (.d (.int x.length)) := by
  funext m
  simp [bLen2, altC, bLen, on1, lenOf, retI, okM, h, line_eq]
theorem leX_ss (a b : Str) : opLeX (.d (.str a)) (.d (.str b)) = okM (.d (.bl (leS a b))) := rfl
theorem seqIX_mk (a : EM) (env : Mir.Env) : seqIX a env = bindM (a env) seqSrcX := rfl
theorem srcX_str (z : Str) : seqSrcX (.d (.str z)) = okM (Src.ofL (charsD z)) := rfl
/-! what comes behind is looked at when it is reached: it stands where an instance stands, and simp leaves it alone -/
class Hid (α : Type) where
  val : α
def bindT {α β : Type} (a : M α) [h : Hid (α → M β)] : M β := bindM a h.val
class HidQ (α : Type) where
  q : α → Mem → Prop
  x : XM
def wpT {α : Type} (r : Res α) [h : HidQ α] : Prop := wpR r h.q h.x
section
variable {α β γ : Type}
theorem toBT (a : M α) (f : α → M β) : bindM a f = @bindT α β a ⟨f⟩ := rfl
theorem bt_eq (a : M α) {h : Hid (α → M β)} : @bindT α β a h = bindM a h.val := rfl
theorem bt_ok (v : α) {h : Hid (α → M β)} : @bindT α β (okM v) h = h.val v := rfl
theorem bt_bt (a : M α) {h : Hid (α → M β)} {k : Hid (β → M γ)} : @bindT β γ (@bindT α β a h) k = @bindT α γ a ⟨fun x => bindM (h.val x) k.val⟩ := by
  unfold bindT
  exact (bindM_bind _ _ _).trans rfl
theorem toWT (r : Res α) (q : α → Mem → Prop) (x : XM) : wpR r q x = @wpT α r ⟨q, x⟩ := rfl
theorem wt_eq (r : Res α) {h : HidQ α} : @wpT α r h = wpR r h.q h.x := rfl
theorem wt_bt (a : M α) {k : Hid (α → M β)} (m : Mem) {h : HidQ β} : @wpT β (@bindT α β a k m) h = @wpT α (a m) ⟨fun v m' => wpR (k.val v m') h.q h.x, h.x⟩ := by
  unfold wpT bindT
  exact wp_bind.trans rfl
theorem wt_okM (v : α) (m : Mem) {h : HidQ α} : @wpT α (okM v m) h = h.q v m := rfl
theorem wt_ok (v : α) (m : Mem) {h : HidQ α} : @wpT α (.ok v m) h = h.q v m := rfl
theorem wt_exc (e : Ex) (v : Mir.Env) (m : Mem) {h : HidQ α} : @wpT α (.exc e v m) h = h.x e v m := rfl
theorem wt_ite (c : Prop) [Decidable c] (a b : Res α) {h : HidQ α} : @wpT α (if c then a else b) h = if c then @wpT α a h else @wpT α b h := by
  split <;> rfl
theorem wt_lift (F : M D) (env : Mir.Env) (m : Mem) {h : HidQ TV} : @wpT TV (liftF F env m) h = @wpT D (F m) ⟨fun d m' => h.q (.d d) m', fun e _ m' => h.x e env m'⟩ := by
  unfold wpT
  exact wp_lift.trans rfl
theorem wt_make (c : Nat) (F : FnSem) (a : Mir.Env → M (List D)) (env : Mir.Env) (m : Mem) {h : HidQ TV} : @wpT TV (makeE c F a env m) h = @wpT (List D) (a env m) ⟨fun ds m1 => wpR (F (.ref m1.length :: ds) (m1 ++ [.ins c []])) (fun d m' => d = .non ∧ h.q (.d (.ref m1.length)) m') (fun e _ m' => h.x e env m'), h.x⟩ := by
  unfold wpT
  exact wp_make.trans rfl
theorem wt_try {tab : List (Nat × Bool)} {i : Nat} {b g : SMs} {env : Mir.Env} {m : Mem} {h : HidQ Fl} : @wpT Fl (tryS tab i b g env m) h = @wpT Fl (b env m) ⟨h.q, fun e env' m' => match tab.lookup e.c with
    | some true => wpR (g (env'.set i (some (.ref m'.length))) (m' ++ [.opq e.c e.fs])) (fun fl m2 => h.q (goneF i fl) m2) (fun _ _ _ => False)
    | some false => h.x e env' m'
    | none => False⟩ := by
  unfold wpT
  exact wp_try.trans rfl
end
end Mir

set_option maxHeartbeats 1000000
namespace Mir
open PySem L2
/-- a run told in a word that Lean does not unfold when it looks at a statement -/
structure Wp {α : Type} (r : Res α) (q : α → Mem → Prop) (x : XM) : Prop where
  w : wpR r q x
theorem str_small {i : Int} (h : 0 ≤ i ∧ i < 100000) : bStr [.d (.int i)] = okM (.d (.str (toString i))) := by
  refine str_int ?_
  by_cases h0 : i = 0
  · subst h0; decide
  · have : i.natAbs.log2 < 20 := (Nat.log2_lt (by omega)).2 (by omega)
    omega
theorem strOk_app {a b : Str} (ha : PyData.strOk a = true) (hb : PyData.strOk b = true) : PyData.strOk (a ++ b) = true := by
  unfold PyData.strOk at *
  show (a.cps ++ b.cps).all _ = true
  rw [← Array.all_toList, Array.toList_append, List.all_append, Array.all_toList, Array.all_toList, ha, hb]; rfl
theorem str_app_len (a b : Str) : (a ++ b).length = a.length + b.length := by
  show (_ ++ _ : Array Nat).size = _
  rw [Array.size_append]; rfl
theorem lrE2_mk (a b : EM) (env : Mir.Env) : lrE2 a b env = bindM (a env) fun x => bindM (b env) fun y => lr2 x y := rfl
theorem lrE1_mk (a : EM) (env : Mir.Env) : lrE1 a env = bindM (a env) lr1 := rfl
theorem lr2_ok {i j : Int} (h : -1000000000 ≤ i ∧ i ≤ 1000000000 ∧ -1000000000 ≤ j ∧ j ≤ 1000000000 ∧ j - i ≤ 10000000) : lr2 (.d (.int i)) (.d (.int j)) = okM (.l (rngL i (j - i).toNat)) := by
  show lrng i j = _
  unfold lrng
  rw [if_pos]
  unfold RgOk
  omega
theorem lr1_ok {j : Int} (h : -1000000000 ≤ j ∧ j ≤ 10000000) : lr1 (.d (.int j)) = okM (.l (rngL 0 j.toNat)) := by
  show lrng 0 j = _
  unfold lrng
  rw [if_pos (by unfold RgOk; omega), Int.sub_zero]
end Mir

set_option maxHeartbeats 1000000
namespace Mir
open PySem L2
theorem set_same {m : Mem} {k : Nat} {o : O} (h : m[k]? = some o) : m.set k o = m := by
  apply List.ext_getElem?
  intro i
  by_cases hi : i = k
  · subst hi; rw [get_set h, h]
  · rw [List.getElem?_set_ne (Ne.symm hi)]
theorem nodup_len {α : Type} [DecidableEq α] : ∀ {xs ys : List α}, xs.Nodup → (∀ x ∈ xs, x ∈ ys) → xs.length ≤ ys.length
  | [], _, _, _ => by simp
  | x :: xs, ys, h, s => by
    rw [List.nodup_cons] at h
    have hx := s x List.mem_cons_self
    have hpos : 0 < ys.length := List.length_pos_of_mem hx
    have := nodup_len (ys := ys.erase x) h.2 (fun z hz => (List.mem_erase_of_ne (by rintro rfl; exact h.1 hz)).2 (s z (List.mem_cons_of_mem _ hz)))
    rw [List.length_erase_of_mem hx] at this
    rw [List.length_cons]
    omega
/-! in: texts, numbers -/
theorem eqV_str (a b : Str) : eqV (V.str a) (V.str b) = decide (a = b) := by
  show (a == b) = _
  rw [Bool.eq_iff_iff, beq_iff_eq, decide_eq_true_eq]
theorem inV_strs (n : Str) (S : List Str) : inV (V.str n) (S.map V.str) = decide (n ∈ S) := by
  unfold inV
  rw [Bool.eq_iff_iff, List.any_eq_true, decide_eq_true_iff]
  constructor
  · rintro ⟨v, hv, e⟩
    obtain ⟨s, hs, rfl⟩ := List.mem_map.1 hv
    rw [eqV_str, decide_eq_true_iff] at e
    rw [← e]; exact hs
  · intro h
    exact ⟨_, List.mem_map.2 ⟨n, h, rfl⟩, by rw [eqV_str]; simp⟩
theorem flat_strs (S : List Str) : (S.map D.str).all flatD = true := by
  rw [List.all_eq_true]
  intro d hd
  obtain ⟨_, _, rfl⟩ := List.mem_map.1 hd
  rfl
theorem flV_strs (S : List Str) : (S.map D.str).map flV = S.map V.str := by
  rw [List.map_map]; rfl
theorem inM_strs {m : Mem} {k : Nat} {S : List Str} (n : Str) (h : m[k]? = some (.lst (S.map D.str))) : inM m (.d (.str n)) (.d (.ref k)) = some (decide (n ∈ S)) := by
  unfold inM
  rw [ev_dget, h]
  simp only [inSg, inFl, seqOf, tupOf, Mir.listOf, h]
  rw [if_pos ⟨rfl, flat_strs S⟩, flV_strs]
  show some (inV (V.str n) (S.map V.str)) = _
  rw [inV_strs]
theorem in_strs {m : Mem} {k : Nat} {S : List Str} (n : Str) (h : m[k]? = some (.lst (S.map D.str))) : opIn (.d (.str n)) (.d (.ref k)) m = .ok (.d (.bl (decide (n ∈ S)))) m := by
  simp only [opIn, inM_strs n h]
theorem notin_strs {m : Mem} {k : Nat} {S : List Str} (n : Str) (h : m[k]? = some (.lst (S.map D.str))) : opNotIn (.d (.str n)) (.d (.ref k)) m = .ok (.d (.bl (!decide (n ∈ S)))) m := by
  simp only [opNotIn, inM_strs n h]
theorem eqV_int (a b : Int) : eqV (V.int a) (V.int b) = decide (a = b) := by
  show (a == b) = _
  rw [Bool.eq_iff_iff, beq_iff_eq, decide_eq_true_eq]
theorem inV_ints (n : Int) (S : List Int) : inV (V.int n) (S.map V.int) = decide (n ∈ S) := by
  unfold inV
  rw [Bool.eq_iff_iff, List.any_eq_true, decide_eq_true_iff]
  constructor
  · rintro ⟨v, hv, e⟩
    obtain ⟨s, hs, rfl⟩ := List.mem_map.1 hv
    rw [eqV_int, decide_eq_true_iff] at e
    rw [← e]; exact hs
  · intro h
    exact ⟨_, List.mem_map.2 ⟨n, h, rfl⟩, by rw [eqV_int]; simp⟩
theorem flat_ints (S : List Int) : (S.map D.int).all flatD = true := by
  rw [List.all_eq_true]
  intro d hd
  obtain ⟨_, _, rfl⟩ := List.mem_map.1 hd
  rfl
theorem flV_ints (S : List Int) : (S.map D.int).map flV = S.map V.int := by
  rw [List.map_map]; rfl
theorem inM_ints {m : Mem} {x : TV} {S : List Int} (n : Int) (hs : seqOf m x = some (S.map D.int)) (hd : dget m x (.d (.int n)) = none) : inM m (.d (.int n)) x = some (decide (n ∈ S)) := by
  unfold inM
  rw [hd]
  have e1 : inSg (.d (.int n)) x = none := by
    unfold inSg
    split
    · rename_i h; cases h
    · rfl
  simp only [e1, inFl, hs]
  rw [if_pos ⟨rfl, flat_ints S⟩, flV_ints]
  show some (inV (V.int n) (S.map V.int)) = _
  rw [inV_ints]
theorem in_ints {m : Mem} {k : Nat} {S : List Int} (n : Int) (h : m[k]? = some (.lst (S.map D.int))) : opIn (.d (.int n)) (.d (.ref k)) m = .ok (.d (.bl (decide (n ∈ S)))) m := by
  have e := inM_ints (m := m) (x := .d (.ref k)) (S := S) n (by simp [seqOf, tupOf, Mir.listOf, h]) (by rw [ev_dget, h])
  simp only [opIn, e]
theorem notin_ints {m : Mem} {k : Nat} {S : List Int} (n : Int) (h : m[k]? = some (.lst (S.map D.int))) : opNotIn (.d (.int n)) (.d (.ref k)) m = .ok (.d (.bl (!decide (n ∈ S)))) m := by
  have e := inM_ints (m := m) (x := .d (.ref k)) (S := S) n (by simp [seqOf, tupOf, Mir.listOf, h]) (by rw [ev_dget, h])
  simp only [opNotIn, e]
theorem in_l_ints {m : Mem} {S : List Int} (n : Int) : opIn (.d (.int n)) (.l (S.map D.int)) m = .ok (.d (.bl (decide (n ∈ S)))) m := by
  have e := inM_ints (m := m) (x := .l (S.map D.int)) (S := S) n rfl rfl
  simp only [opIn, e]
/-! lists of the same data compared -/
def Cmp (m : Mem) (d : D) : Prop := ∃ p, toPy m 7 d = some p ∧ noB p = true ∧ p.depth ≤ 7
theorem Cmp.ok {m : Mem} {d : D} (h : okD 7 d) : Cmp m d := ⟨_, toPy_okD m 7 d h⟩
theorem Cmp.ints {m : Mem} {k : Nat} {ns : List Int} (h : m[k]? = some (.lst (ns.map D.int))) : Cmp m (.ref k) := by
  have e : ∀ ns : List Int, (ns.map D.int).mapM (toPy m 6) = some (ns.map PyData.int) := by
    intro ns
    induction ns with
    | nil => rfl
    | cons a l ih => rw [List.map_cons, List.mapM_cons, ih]; rfl
  refine ⟨.list (ns.map PyData.int), by simp only [toPy, h, e ns]; rfl, ?_, ?_⟩
  · simp only [noB]
    induction ns with
    | nil => rfl
    | cons a l ih => clear h; simp only [List.map_cons, noBs, noB, Bool.true_and]; have : ∀ l : List Int, noBs (l.map PyData.int) = true := by
                                                                                       intro l
                                                                                       induction l with
                                                                                       | nil => rfl
                                                                                       | cons a l ih => simp only [List.map_cons, noBs, noB, Bool.true_and, ih]
                     exact this l
  · have : PyData.depthAll (ns.map PyData.int) ≤ 1 := depthAll_le (by
      intro p hp
      obtain ⟨x, _, rfl⟩ := List.mem_map.1 hp
      simp [PyData.depth])
    simp only [PyData.depth]
    omega
theorem Cmp.list {m : Mem} : ∀ {L : List D}, (∀ d ∈ L, Cmp m d) → ∃ ps : List PyData, L.mapM (toPy m 7) = some ps ∧ noBs ps = true ∧ PyData.depthAll ps ≤ 7
  | [], _ => ⟨[], rfl, rfl, by simp [PyData.depthAll]⟩
  | d :: L, h => by
    obtain ⟨p, h1, h2, h3⟩ := h d List.mem_cons_self
    obtain ⟨ps, k1, k2, k3⟩ := Cmp.list (L := L) fun x hx => h x (List.mem_cons_of_mem _ hx)
    refine ⟨p :: ps, by rw [List.mapM_cons, h1, k1]; rfl, by simp only [noBs, h2, k2, Bool.and_self], ?_⟩
    simp only [PyData.depthAll]
    omega
theorem toPyT_cmp {m : Mem} {x : TV} {L : List D} {ps : List PyData} (e : Mir.listOf m x = some L) (h : L.mapM (toPy m 7) = some ps) : toPyT m x = some (.list ps) := by
  cases x with
  | l xs => cases e; simp only [toPyT, h]; rfl
  | d x =>
    cases x with
    | clst xs => cases e; simp only [toPyT, toPy, h]; rfl
    | ref r =>
      simp only [Mir.listOf] at e
      split at e
      · rename_i hm
        cases e
        simp only [toPyT, toPy, hm, h]; rfl
      · cases e
    | _ => cases e
theorem eqG_same {m : Mem} {x y : TV} {L : List D} (hx : Mir.listOf m x = some L) (hy : Mir.listOf m y = some L) (h : ∀ d ∈ L, Cmp m d) : eqG m x y = some true := by
  obtain ⟨ps, h1, h2, h3⟩ := Cmp.list h
  have hn : noB (.list ps) = true := by simp only [noB]; exact h2
  have hs : SeqAt.shaped (.list ps) = true := by
    unfold SeqAt.shaped
    rw [canLay_noB _ hn, Bool.true_and]
    apply decide_eq_true
    simp only [PyData.depth]
    omega
  rw [eqG_kind (toPyT_cmp hx h1) (toPyT_cmp hy h1) hs hs, (eqv_iff _ _ hn hn).2 rfl]
theorem opNe_same {m : Mem} {x y : TV} {L : List D} (hx : Mir.listOf m x = some L) (hy : Mir.listOf m y = some L) (h : ∀ d ∈ L, Cmp m d) : opNe x y m = .ok (.d (.bl false)) m := by
  simp only [opNe, eqT_of (eqG_same hx hy h) (listOf_ne hx).1 (listOf_ne hx).2]
  rfl
theorem opEq_same {m : Mem} {x y : TV} {L : List D} (hx : Mir.listOf m x = some L) (hy : Mir.listOf m y = some L) (h : ∀ d ∈ L, Cmp m d) : opEq x y m = .ok (.d (.bl true)) m := by
  simp only [opEq, eqT_of (eqG_same hx hy h) (listOf_ne hx).1 (listOf_ne hx).2]
/-! loops whose invariant is a word that simp leaves alone -/
theorem opaque_inv (Q : Nat → Mir.Env → Mem → Prop) : ∃ P : Nat → Mir.Env → Mem → Prop, ∀ i env m, P i env m ↔ Q i env m := ⟨Q, fun _ _ _ => Iff.rfl⟩
end Mir

set_option maxHeartbeats 1000000
namespace Mir
open PySem L2
theorem lstSrc_l (ds : List D) (m : Mem) : lstSrc (.l ds) m = .ok (Src.ofL ds) m := rfl
theorem lstSrc_clst (ds : List D) (m : Mem) : lstSrc (.d (.clst ds)) m = .ok (Src.ofL ds) m := rfl
theorem lstSrc_ref {m : Mem} {k : Nat} {ds : List D} (h : m[k]? = some (.lst ds)) : lstSrc (.d (.ref k)) m = .ok (Src.ofR k ds.length) m := by simp only [lstSrc, h]
/-- the turns of an enumeration -/
def enumD : Nat → List D → List D
  | _, [] => []
  | i, d :: ds => .tup [.int i, d] :: enumD (i + 1) ds
theorem enumD_len : ∀ (i : Nat) (ds : List D), (enumD i ds).length = ds.length
  | _, [] => rfl
  | i, d :: ds => by simp [enumD, enumD_len (i + 1) ds]
theorem enumD_get : ∀ (ds : List D) (j i : Nat), (enumD j ds)[i]? = (ds[i]?).map fun d => .tup [.int (((j + i : Nat) : Int)), d]
  | [], _, _ => by simp [enumD]
  | d :: ds, j, 0 => by simp [enumD]
  | d :: ds, j, i + 1 => by
    simp only [enumD, List.getElem?_cons_succ]
    rw [enumD_get ds (j + 1) i, show j + 1 + i = j + (i + 1) by omega]
theorem enum_at {f : Nat → Mem → Option (Option D)} {ds : List D} {m : Mem} {i : Nat} (h : f i m = some ds[i]?) : enumF f i m = some (enumD 0 ds)[i]? := by
  unfold enumF
  rw [h, enumD_get]
  cases ds[i]? with
  | none => rfl
  | some d => simp
theorem zip_at {f g : Nat → Mem → Option (Option D)} {xs ys : List D} {m : Mem} {i : Nat} (hf : f i m = some xs[i]?) (hg : g i m = some ys[i]?) : zipF f g i m = some (List.zipWith (fun a b => D.tup [a, b]) xs ys)[i]? := by
  unfold zipF
  rw [hf, hg, List.getElem?_zipWith]
  cases xs[i]? <;> cases ys[i]? <;> rfl
theorem enum1_l (ds : List D) : enum1 [.l ds] = okM ⟨ds.length + 1, enumF (Src.ofL ds).at_⟩ := rfl
theorem enum1_clst (ds : List D) : enum1 [.d (.clst ds)] = okM ⟨ds.length + 1, enumF (Src.ofL ds).at_⟩ := rfl
end Mir

set_option maxHeartbeats 1000000
/-! a tuple among data -/
namespace Mir
noncomputable local instance (xs : List D) (y : D) : Decidable (y ∈ xs) := Classical.propDecidable _
open PySem L2
theorem pyD_up : ∀ (n : Nat) (d : D), okD n d → pyD (n + 1) d = pyD n d
  | 0, _, h => h.elim
  | n + 1, .non, _ => rfl
  | n + 1, .int i, _ => rfl
  | n + 1, .str x, _ => rfl
  | n + 1, .tup xs, h => by
    have h : ∀ x ∈ xs, okD n x := h
    show PyData.tuple (xs.map (pyD (n + 1))) = .tuple (xs.map (pyD n))
    rw [List.map_congr_left fun x hx => pyD_up n x (h x hx)]
  | n + 1, .bl _, h => h.elim
  | n + 1, .ctup _, h => h.elim
  | n + 1, .clst _, h => h.elim
  | n + 1, .ref _, h => h.elim
theorem any_py {xs : List D} {y : D} (hx : ∀ d ∈ xs, okD 7 d) (hy : okD 7 y) : ((xs.map (pyD 7)).any fun z => PyData.eqv z (pyD 7 y)) = decide (y ∈ xs) := by
  refine bool_iff ?_
  rw [List.any_eq_true, decide_eq_true_eq]
  have hny := (toPy_okD [] 7 y hy).2.1
  constructor
  · rintro ⟨z, hz, e⟩
    obtain ⟨d, hd, rfl⟩ := List.mem_map.1 hz
    have := (eqv_iff _ _ (toPy_okD [] 7 d (hx d hd)).2.1 hny).1 e
    rw [← pyD_inj 7 d y (hx d hd) hy this]; exact hd
  · intro h
    exact ⟨pyD 7 y, List.mem_map.2 ⟨y, h, rfl⟩, (eqv_iff _ _ hny hny).2 rfl⟩
theorem inM_tup {m : Mem} {x : TV} {xs ys : List D} (hx : listOf m x = some xs) (h : ∀ d ∈ xs, okD 7 d) (hy : ∀ d ∈ ys, okD 6 d) : inM m (.d (.tup ys)) x = some (decide (D.tup ys ∈ xs)) := by
  have h1 := toPyT_lst hx h
  have oy : okD 7 (.tup ys) := hy
  have oy8 : okD 8 (.tup ys) := okD_mono 7 _ oy
  have h2 : toPyT m (.d (.tup ys)) = some (pyD 7 (.tup ys)) := by rw [← pyD_up 7 _ oy]; exact (toPy_okD m 8 _ oy8).1
  have s1 := (shaped_lst h).1
  have s2 := (shaped_okD oy8).1
  rw [pyD_up 7 _ oy] at s2
  have hd : inDp m (.d (.tup ys)) x = some (decide (D.tup ys ∈ xs)) := by
    unfold inDp
    rw [h1, h2]
    dsimp only
    rw [if_pos ⟨s2, s1⟩, any_py h oy]
  have hf : inFl m (.d (.tup ys)) x = none := by
    unfold inFl
    cases seqOf m x with
    | none => rfl
    | some ds => exact if_neg (fun z => by cases z.1)
  have hs : inSg (.d (.tup ys)) x = none := by unfold inSg; rfl
  have hg : dget m x (.d (.tup ys)) = none := by
    cases x with
    | l _ => rfl
    | d x =>
      cases x with
      | ref r =>
        rw [ev_listOf] at hx
        rw [ev_dget]
        cases hm : m[r]? with
        | none => rfl
        | some o =>
          rw [hm] at hx
          cases o <;> first | rfl | cases hx
      | _ => rfl
  unfold inM
  rw [hg]
  dsimp only
  rw [hs, hf]
  exact hd
theorem in_tup {m : Mem} {x : TV} {xs ys : List D} {b : Bool} (hx : listOf m x = some xs) (h : ∀ d ∈ xs, okD 7 d) (hy : ∀ d ∈ ys, okD 6 d) (hb : b = true ↔ D.tup ys ∈ xs) : opIn (.d (.tup ys)) x m = .ok (.d (.bl b)) m := by
  unfold opIn; rw [inM_tup hx h hy, bool_iff (hb.trans decide_eq_true_iff.symm)]
theorem notin_tup {m : Mem} {x : TV} {xs ys : List D} {b : Bool} (hx : listOf m x = some xs) (h : ∀ d ∈ xs, okD 7 d) (hy : ∀ d ∈ ys, okD 6 d) (hb : b = true ↔ D.tup ys ∈ xs) : opNotIn (.d (.tup ys)) x m = .ok (.d (.bl (!b))) m := by
  unfold opNotIn; rw [inM_tup hx h hy, bool_iff (hb.trans decide_eq_true_iff.symm)]
theorem inM_strsT {m : Mem} {S : List Str} (n : Str) : inM m (.d (.str n)) (.d (.tup (S.map D.str))) = some (decide (n ∈ S)) := by
  have hg : dget m (.d (.tup (S.map D.str))) (.d (.str n)) = none := rfl
  unfold inM
  rw [hg]
  simp only [inSg, inFl, seqOf, tupOf]
  rw [if_pos ⟨rfl, flat_strs S⟩, flV_strs]
  show some (inV (V.str n) (S.map V.str)) = _
  rw [inV_strs]
theorem in_strsT {m : Mem} {S : List Str} (n : Str) : opIn (.d (.str n)) (.d (.tup (S.map D.str))) m = .ok (.d (.bl (decide (n ∈ S)))) m := by
  simp only [opIn, inM_strsT n]
theorem notin_strsT {m : Mem} {S : List Str} (n : Str) : opNotIn (.d (.str n)) (.d (.tup (S.map D.str))) m = .ok (.d (.bl (!decide (n ∈ S)))) m := by
  simp only [opNotIn, inM_strsT n]
end Mir

set_option maxHeartbeats 4000000
/-! digits of a number, or mixed of it -/
namespace Mir
open PySem L2
theorem bInt_b (b : Bool) : bInt [.d (.bl b)] = okM (.d (.int (if b = true then 1 else 0))) := by cases b <;> rfl
theorem at2b (a b : D) (k : Bool) : L2.atI [a, b] (if k = true then 1 else 0) = some (if k = true then b else a) := by cases k <;> rfl
def digB0 : SMs := (seqS (asgS (matE (binE opMod (binE opMulX (binE opAdd (binE opAdd (varE 4) (binE opMulX (kE (.int 7919)) (varE 6))) (kE (.int 1))) (binE opAdd (binE opDiv (varE 4) (kE (.int 1009))) (kE (.int 69621)))) (kE (.int 2147483647)))) (nmG 4))
    (seqS (dropS (bmE "list" lAppend (varE 3) (tvs (consA (matE (binE opSubs (lstE (consA (matE (binE opMod (binE opDiv (varE 4) (kE (.int 7))) (varE 1))) (consA (matE (binE opMod (varE 5) (varE 1))) nilA))) (callB bInt (consT (andE (binE opEq (binE opMod (varE 0) (kE (.int 2))) (kE (.int 0))) (binE opGt (varE 5) (kE (.int 0)))) nilT)))) nilA))))
    (asgS (matE (binE opDiv (varE 5) (varE 1))) (nmG 5))))
def digB : SMs := (seqS (asgS (matE (lstE nilA)) (nmG 3))
    (seqS (asgS (matE (binE opMod (binE opMulX (binE opAdd (varE 0) (kE (.int 1))) (kE (.int 48271))) (kE (.int 2147483647)))) (nmG 4))
    (seqS (asgS (matE (binE opDiv (varE 0) (kE (.int 2)))) (nmG 5))
    (seqS (forS (fun env => bindM ((consT (varE 2) nilT) env) rng1) (nmG 6) digB0)
    (retS (matE (varE 3)))))))
theorem dig_step {c sz mix rest : Int} {i r : Nat} {m : Mem} {L : List Int} {x2 : Option D} (hs : 1 ≤ sz ∧ sz ≤ 20000) (hm : m[r]? = some (.lst (L.map D.int))) (hl : L.length ≤ 200) (hx : 0 ≤ mix ∧ mix < 2147483647) (hi : i ≤ 200) :
    wpR (digB0 [some (.int c), some (.int sz), x2, some (.ref r), some (.int mix), some (.int rest), some (.int (i : Int))] m) (fun fl m' => ∃ y mix' rest' : Int, 0 ≤ y ∧ y < sz ∧ 0 ≤ mix' ∧ mix' < 2147483647 ∧
      fl = .nxt [some (.int c), some (.int sz), x2, some (.ref r), some (.int mix'), some (.int rest'), some (.int (i : Int))] ∧ m' = m.set r (.lst ((L ++ [y]).map D.int))) noEx := by
  unfold digB0
  have h1 : -18446744073709551616 < mix + 7919 * i + 1 ∧ mix + 7919 * i + 1 < 18446744073709551616 := by omega
  have h2 : 0 ≤ mix / 1009 ∧ mix / 1009 < 2147483647 := by omega
  have b1 := Int.emod_nonneg ((mix + 7919 * i + 1) * (mix / 1009 + 69621)) (show (2147483647 : Int) ≠ 0 by omega)
  have b2 := Int.emod_lt_of_pos ((mix + 7919 * i + 1) * (mix / 1009 + 69621)) (show (0 : Int) < 2147483647 by omega)
  have hmul : opMul (.d (.int (mix + 7919 * i + 1))) (.d (.int (mix / 1009 + 69621))) = okM (.d (.int ((mix + 7919 * i + 1) * (mix / 1009 + 69621)))) := opMul_l h1
  generalize hM : (mix + 7919 * (i : Int) + 1) * (mix / 1009 + 69621) = P at *
  generalize hmx : P % 2147483647 = mix' at *
  have c1 := Int.emod_nonneg (mix' / 7) (show sz ≠ 0 by omega)
  have c2 := Int.emod_lt_of_pos (mix' / 7) (show 0 < sz by omega)
  have d1 := Int.emod_nonneg rest (show sz ≠ 0 by omega)
  have d2 := Int.emod_lt_of_pos rest (show 0 < sz by omega)
  have hll : (L.map D.int).length ≤ 200 := by rw [List.length_map]; exact hl
  have hap : ∀ y : Int, L.map D.int ++ [D.int y] = (L ++ [y]).map D.int := fun y => by simp
  by_cases e : c % 2 = 0
  · by_cases e2 : rest > 0
    · have hat : L2.atI [D.int (mix' / 7 % sz), D.int (rest % sz)] 1 = some (.int (rest % sz)) := rfl
      generalize hQ : L.map D.int = Q at *
      (simp -implicitDefEqProofs (maxSteps := 2000000) (disch := (first | omega | decide +kernel | (simp only [isSome_set, isSome_app, isSome_new, Option.isSome_some, *]; done) | (simp only [isSome_lt, List.length_set, List.length_append, List.length_cons, List.length_nil, decide_eq_true_eq]; omega))) only [seqS_mk, asgS_mk, ifS_mk, retS_mk, retNS_mk, skipS_mk, dropS_mk, brkS_mk, cntS_mk, forS_mk, seqI_mk, matE_mk, callF_mk, callB_mk, consA_mk, nilA_mk, consT_mk, nilT_mk, tvs_mk, binE_mk, varE_0, varE_s, kE_mk, set_0, set_s, nmG_mk, lstE_mk, tupE_mk, bT_mk, tstT_mk, notT_mk, andT_mk, orT_mk, yesT_mk, andE_mk, orE_mk, notE_mk, ifE_mk, negE_mk, sliceE_mk, noP_mk, intP_mk, bmE_mk, bmE0_mk, isiB_mk, lcE_mk, lcT_mk, wipeE_nil, wipeE_cons, liftF_ok, matD_d, matD_l, boolT_mk, truthM_bl, truthM_int, truthM_non, opAdd_i, opSub_i, opLt_i, opLe_i, opGt_i, opGe_i, opEq_i, opNe_i, opMod_p, opDiv_p, seqSrc_l, seqSrc_clst, seqSrc_tup, ofL_n, ofR_n, opCut_l, opCut_tup, opCut_clst, callB_len_clst, callB_len_l, callB_len_tup, isi_int_int, isi_int_bool, isi_bool_bool, isi_bool_int, if_true, List.map_cons, List.map_nil, Int.toNat_natCast, List.length_cons, List.length_nil, List.replicate_succ, List.replicate_zero, List.cons_append, List.nil_append, Nat.sub_self, Nat.reduceSub, Nat.reduceAdd, ite_at, Bool.not_true, Bool.not_false, decide_true, decide_false, Bool.false_eq_true, if_false, reduceIte, fldE_mk, ev_fld, sfldS_mk, ev_setF, ev_putD_nil, ev_putD, methE_mk, ev_meth, augFS_mk, ev_aug, ev_len, ev_len2, len2_clst, len2_l, len2_tup, ev_list, ev_list2, list_tup, list_clst, list_l, list2_tup, list2_l, list2_clst, ev_tuple, tuple_tup, bTuple_l, ev_cut, ev_idx, ev_idxT, ev_idxL, ev_idxC, subS_mk, ev_subs, subs_l, subs_tup, subs_clst, subs_str, key_int, key_str, ev_getK_nil, ev_getK, ev_put, ev_src, ev_append, ev_extend, listOfM_l, ev_listOfM, listOf_l, listOf_clst, ev_listOf, ev_clear, chk_list, chk_str, chk_dic, dgetE_mk, dgetM_ev, dget2E_mk, dget2M_ev, ev_dget, ev_dgetY, ev_dget2Y, dpopE_mk, get_set_ne', get_set_is, get_app_is, get_new, ite_lt, ite_le, at_0, at_1, at_2, at_3, at_4, at_end, tupG_mk, tupG_mk', consG_mk, nilG_mk, sne, sbne, beq_self_eq_true, List.lookup_cons, List.lookup_nil, List.mem_cons, List.not_mem_nil, or_false, false_or, true_or, or_true, and_true, true_and, and_false, false_and, eq_self, Option.isSome_some, Option.isSome_none, Option.map_some, Option.map_none, opIs_nn, opIs_ni, opIsNot_nn, opIsNot_ni, opIsB_b, opIsNotB_b, opMul_l, opMul_r, opEq_b, opNe_b, bMax2_i, bMin2_i, List.map_cons, Sum.inl.injEq, Sum.inr.injEq, isi_l_list, isi_tup_tup, List.length_set, decide_eq_true_eq, negE_mk, Nat.reduceLT, Nat.reduceLeDiff, Nat.reduceEqDiff, Nat.reduceMul, Int.reduceLT, Int.reduceLE, Int.reduceEq, Int.reduceAdd, Int.reduceSub, Int.reduceMul, Int.reduceNeg, Int.reduceToNat, Int.reducePow, Nat.reducePow, Int.reduceMod, Int.reduceDiv, reduceCtorEq, ite_true, List.nil_append, Nat.reduceBEq, isXE_mk, ev_isX, xfE_mk, ev_xf, raiseS_mk, raiseFS_mk, excM_mk, goneF_nxt, goneF_ret, opMulX_i, ev_addRL, ev_addLR, ev_addRR, ite_le2, opAdd_s, opAdd_t, chainE_mk, chainR_b, ev_isl, andE_mk, orE_mk, notE_mk, is_non_int, is_non_bool, is_non_str, is_non_list, is_non_tuple, is_bl_int, is_bl_bool, is_bl_str, is_bl_list, is_bl_tuple, is_int_int, is_int_bool, is_int_str, is_int_list, is_int_tuple, is_str_int, is_str_bool, is_str_str, is_str_list, is_str_tuple, is_tup_int, is_tup_bool, is_tup_str, is_tup_list, is_tup_tuple, is_l_int, is_l_bool, is_l_str, is_l_list, is_l_tuple, unpG_tup, unpG_ref, opEq_s, opNe_s, len2_str, leX_ss, seqIX_mk, srcX_str, ↓toBT, ↓toWT, bt_ok, bt_bt, wt_bt, wt_okM, wt_ok, wt_exc, wt_ite, wt_lift, wt_make, wt_try, hmul, hmx, hm, e, e2, bInt_b, hat, hap] <;> try simp -implicitDefEqProofs only [bt_eq, wt_eq])
      exact ⟨rest % sz, mix', _, d1, d2, b1, b2, rfl, rfl⟩
    · have hat : L2.atI [D.int (mix' / 7 % sz), D.int (rest % sz)] 0 = some (.int (mix' / 7 % sz)) := rfl
      generalize hQ : L.map D.int = Q at *
      (simp -implicitDefEqProofs (maxSteps := 2000000) (disch := (first | omega | decide +kernel | (simp only [isSome_set, isSome_app, isSome_new, Option.isSome_some, *]; done) | (simp only [isSome_lt, List.length_set, List.length_append, List.length_cons, List.length_nil, decide_eq_true_eq]; omega))) only [seqS_mk, asgS_mk, ifS_mk, retS_mk, retNS_mk, skipS_mk, dropS_mk, brkS_mk, cntS_mk, forS_mk, seqI_mk, matE_mk, callF_mk, callB_mk, consA_mk, nilA_mk, consT_mk, nilT_mk, tvs_mk, binE_mk, varE_0, varE_s, kE_mk, set_0, set_s, nmG_mk, lstE_mk, tupE_mk, bT_mk, tstT_mk, notT_mk, andT_mk, orT_mk, yesT_mk, andE_mk, orE_mk, notE_mk, ifE_mk, negE_mk, sliceE_mk, noP_mk, intP_mk, bmE_mk, bmE0_mk, isiB_mk, lcE_mk, lcT_mk, wipeE_nil, wipeE_cons, liftF_ok, matD_d, matD_l, boolT_mk, truthM_bl, truthM_int, truthM_non, opAdd_i, opSub_i, opLt_i, opLe_i, opGt_i, opGe_i, opEq_i, opNe_i, opMod_p, opDiv_p, seqSrc_l, seqSrc_clst, seqSrc_tup, ofL_n, ofR_n, opCut_l, opCut_tup, opCut_clst, callB_len_clst, callB_len_l, callB_len_tup, isi_int_int, isi_int_bool, isi_bool_bool, isi_bool_int, if_true, List.map_cons, List.map_nil, Int.toNat_natCast, List.length_cons, List.length_nil, List.replicate_succ, List.replicate_zero, List.cons_append, List.nil_append, Nat.sub_self, Nat.reduceSub, Nat.reduceAdd, ite_at, Bool.not_true, Bool.not_false, decide_true, decide_false, Bool.false_eq_true, if_false, reduceIte, fldE_mk, ev_fld, sfldS_mk, ev_setF, ev_putD_nil, ev_putD, methE_mk, ev_meth, augFS_mk, ev_aug, ev_len, ev_len2, len2_clst, len2_l, len2_tup, ev_list, ev_list2, list_tup, list_clst, list_l, list2_tup, list2_l, list2_clst, ev_tuple, tuple_tup, bTuple_l, ev_cut, ev_idx, ev_idxT, ev_idxL, ev_idxC, subS_mk, ev_subs, subs_l, subs_tup, subs_clst, subs_str, key_int, key_str, ev_getK_nil, ev_getK, ev_put, ev_src, ev_append, ev_extend, listOfM_l, ev_listOfM, listOf_l, listOf_clst, ev_listOf, ev_clear, chk_list, chk_str, chk_dic, dgetE_mk, dgetM_ev, dget2E_mk, dget2M_ev, ev_dget, ev_dgetY, ev_dget2Y, dpopE_mk, get_set_ne', get_set_is, get_app_is, get_new, ite_lt, ite_le, at_0, at_1, at_2, at_3, at_4, at_end, tupG_mk, tupG_mk', consG_mk, nilG_mk, sne, sbne, beq_self_eq_true, List.lookup_cons, List.lookup_nil, List.mem_cons, List.not_mem_nil, or_false, false_or, true_or, or_true, and_true, true_and, and_false, false_and, eq_self, Option.isSome_some, Option.isSome_none, Option.map_some, Option.map_none, opIs_nn, opIs_ni, opIsNot_nn, opIsNot_ni, opIsB_b, opIsNotB_b, opMul_l, opMul_r, opEq_b, opNe_b, bMax2_i, bMin2_i, List.map_cons, Sum.inl.injEq, Sum.inr.injEq, isi_l_list, isi_tup_tup, List.length_set, decide_eq_true_eq, negE_mk, Nat.reduceLT, Nat.reduceLeDiff, Nat.reduceEqDiff, Nat.reduceMul, Int.reduceLT, Int.reduceLE, Int.reduceEq, Int.reduceAdd, Int.reduceSub, Int.reduceMul, Int.reduceNeg, Int.reduceToNat, Int.reducePow, Nat.reducePow, Int.reduceMod, Int.reduceDiv, reduceCtorEq, ite_true, List.nil_append, Nat.reduceBEq, isXE_mk, ev_isX, xfE_mk, ev_xf, raiseS_mk, raiseFS_mk, excM_mk, goneF_nxt, goneF_ret, opMulX_i, ev_addRL, ev_addLR, ev_addRR, ite_le2, opAdd_s, opAdd_t, chainE_mk, chainR_b, ev_isl, andE_mk, orE_mk, notE_mk, is_non_int, is_non_bool, is_non_str, is_non_list, is_non_tuple, is_bl_int, is_bl_bool, is_bl_str, is_bl_list, is_bl_tuple, is_int_int, is_int_bool, is_int_str, is_int_list, is_int_tuple, is_str_int, is_str_bool, is_str_str, is_str_list, is_str_tuple, is_tup_int, is_tup_bool, is_tup_str, is_tup_list, is_tup_tuple, is_l_int, is_l_bool, is_l_str, is_l_list, is_l_tuple, unpG_tup, unpG_ref, opEq_s, opNe_s, len2_str, leX_ss, seqIX_mk, srcX_str, ↓toBT, ↓toWT, bt_ok, bt_bt, wt_bt, wt_okM, wt_ok, wt_exc, wt_ite, wt_lift, wt_make, wt_try, hmul, hmx, hm, e, e2, bInt_b, hat, hap] <;> try simp -implicitDefEqProofs only [bt_eq, wt_eq])
      exact ⟨mix' / 7 % sz, mix', _, c1, c2, b1, b2, rfl, rfl⟩
  · have hat : L2.atI [D.int (mix' / 7 % sz), D.int (rest % sz)] 0 = some (.int (mix' / 7 % sz)) := rfl
    generalize hQ : L.map D.int = Q at *
    (simp -implicitDefEqProofs (maxSteps := 2000000) (disch := (first | omega | decide +kernel | (simp only [isSome_set, isSome_app, isSome_new, Option.isSome_some, *]; done) | (simp only [isSome_lt, List.length_set, List.length_append, List.length_cons, List.length_nil, decide_eq_true_eq]; omega))) only [seqS_mk, asgS_mk, ifS_mk, retS_mk, retNS_mk, skipS_mk, dropS_mk, brkS_mk, cntS_mk, forS_mk, seqI_mk, matE_mk, callF_mk, callB_mk, consA_mk, nilA_mk, consT_mk, nilT_mk, tvs_mk, binE_mk, varE_0, varE_s, kE_mk, set_0, set_s, nmG_mk, lstE_mk, tupE_mk, bT_mk, tstT_mk, notT_mk, andT_mk, orT_mk, yesT_mk, andE_mk, orE_mk, notE_mk, ifE_mk, negE_mk, sliceE_mk, noP_mk, intP_mk, bmE_mk, bmE0_mk, isiB_mk, lcE_mk, lcT_mk, wipeE_nil, wipeE_cons, liftF_ok, matD_d, matD_l, boolT_mk, truthM_bl, truthM_int, truthM_non, opAdd_i, opSub_i, opLt_i, opLe_i, opGt_i, opGe_i, opEq_i, opNe_i, opMod_p, opDiv_p, seqSrc_l, seqSrc_clst, seqSrc_tup, ofL_n, ofR_n, opCut_l, opCut_tup, opCut_clst, callB_len_clst, callB_len_l, callB_len_tup, isi_int_int, isi_int_bool, isi_bool_bool, isi_bool_int, if_true, List.map_cons, List.map_nil, Int.toNat_natCast, List.length_cons, List.length_nil, List.replicate_succ, List.replicate_zero, List.cons_append, List.nil_append, Nat.sub_self, Nat.reduceSub, Nat.reduceAdd, ite_at, Bool.not_true, Bool.not_false, decide_true, decide_false, Bool.false_eq_true, if_false, reduceIte, fldE_mk, ev_fld, sfldS_mk, ev_setF, ev_putD_nil, ev_putD, methE_mk, ev_meth, augFS_mk, ev_aug, ev_len, ev_len2, len2_clst, len2_l, len2_tup, ev_list, ev_list2, list_tup, list_clst, list_l, list2_tup, list2_l, list2_clst, ev_tuple, tuple_tup, bTuple_l, ev_cut, ev_idx, ev_idxT, ev_idxL, ev_idxC, subS_mk, ev_subs, subs_l, subs_tup, subs_clst, subs_str, key_int, key_str, ev_getK_nil, ev_getK, ev_put, ev_src, ev_append, ev_extend, listOfM_l, ev_listOfM, listOf_l, listOf_clst, ev_listOf, ev_clear, chk_list, chk_str, chk_dic, dgetE_mk, dgetM_ev, dget2E_mk, dget2M_ev, ev_dget, ev_dgetY, ev_dget2Y, dpopE_mk, get_set_ne', get_set_is, get_app_is, get_new, ite_lt, ite_le, at_0, at_1, at_2, at_3, at_4, at_end, tupG_mk, tupG_mk', consG_mk, nilG_mk, sne, sbne, beq_self_eq_true, List.lookup_cons, List.lookup_nil, List.mem_cons, List.not_mem_nil, or_false, false_or, true_or, or_true, and_true, true_and, and_false, false_and, eq_self, Option.isSome_some, Option.isSome_none, Option.map_some, Option.map_none, opIs_nn, opIs_ni, opIsNot_nn, opIsNot_ni, opIsB_b, opIsNotB_b, opMul_l, opMul_r, opEq_b, opNe_b, bMax2_i, bMin2_i, List.map_cons, Sum.inl.injEq, Sum.inr.injEq, isi_l_list, isi_tup_tup, List.length_set, decide_eq_true_eq, negE_mk, Nat.reduceLT, Nat.reduceLeDiff, Nat.reduceEqDiff, Nat.reduceMul, Int.reduceLT, Int.reduceLE, Int.reduceEq, Int.reduceAdd, Int.reduceSub, Int.reduceMul, Int.reduceNeg, Int.reduceToNat, Int.reducePow, Nat.reducePow, Int.reduceMod, Int.reduceDiv, reduceCtorEq, ite_true, List.nil_append, Nat.reduceBEq, isXE_mk, ev_isX, xfE_mk, ev_xf, raiseS_mk, raiseFS_mk, excM_mk, goneF_nxt, goneF_ret, opMulX_i, ev_addRL, ev_addLR, ev_addRR, ite_le2, opAdd_s, opAdd_t, chainE_mk, chainR_b, ev_isl, andE_mk, orE_mk, notE_mk, is_non_int, is_non_bool, is_non_str, is_non_list, is_non_tuple, is_bl_int, is_bl_bool, is_bl_str, is_bl_list, is_bl_tuple, is_int_int, is_int_bool, is_int_str, is_int_list, is_int_tuple, is_str_int, is_str_bool, is_str_str, is_str_list, is_str_tuple, is_tup_int, is_tup_bool, is_tup_str, is_tup_list, is_tup_tuple, is_l_int, is_l_bool, is_l_str, is_l_list, is_l_tuple, unpG_tup, unpG_ref, opEq_s, opNe_s, len2_str, leX_ss, seqIX_mk, srcX_str, ↓toBT, ↓toWT, bt_ok, bt_bt, wt_bt, wt_okM, wt_ok, wt_exc, wt_ite, wt_lift, wt_make, wt_try, hmul, hmx, hm, e, bInt_b, hat, hap] <;> try simp -implicitDefEqProofs only [bt_eq, wt_eq])
    exact ⟨mix' / 7 % sz, mix', _, c1, c2, b1, b2, rfl, rfl⟩
theorem digits_run (c sz : Int) (n : Nat) (hs : 1 ≤ sz ∧ sz ≤ 20000) (hn : n ≤ 200) (m : Mem) :
    wpR (fnM 7 digB [.int c, .int sz, .int (n : Int)] m) (fun d m' => ∃ L : List Int, d = .ref m.length ∧ L.length = n ∧ (∀ x ∈ L, 0 ≤ x ∧ x < sz) ∧ m' = m ++ [.lst (L.map D.int)]) noEx := by
  refine wp_fn ?_
  unfold digB
  generalize hB : digB0 = B
  have b1 := Int.emod_nonneg ((c + 1) * 48271) (show (2147483647 : Int) ≠ 0 by omega)
  have b2 := Int.emod_lt_of_pos ((c + 1) * 48271) (show (0 : Int) < 2147483647 by omega)
  (simp -implicitDefEqProofs (maxSteps := 2000000) (disch := (first | omega | decide +kernel | (simp only [isSome_set, isSome_app, isSome_new, Option.isSome_some, *]; done) | (simp only [isSome_lt, List.length_set, List.length_append, List.length_cons, List.length_nil, decide_eq_true_eq]; omega))) only [seqS_mk, asgS_mk, ifS_mk, retS_mk, retNS_mk, skipS_mk, dropS_mk, brkS_mk, cntS_mk, forS_mk, seqI_mk, matE_mk, callF_mk, callB_mk, consA_mk, nilA_mk, consT_mk, nilT_mk, tvs_mk, binE_mk, varE_0, varE_s, kE_mk, set_0, set_s, nmG_mk, lstE_mk, tupE_mk, bT_mk, tstT_mk, notT_mk, andT_mk, orT_mk, yesT_mk, andE_mk, orE_mk, notE_mk, ifE_mk, negE_mk, sliceE_mk, noP_mk, intP_mk, bmE_mk, bmE0_mk, isiB_mk, lcE_mk, lcT_mk, wipeE_nil, wipeE_cons, liftF_ok, matD_d, matD_l, boolT_mk, truthM_bl, truthM_int, truthM_non, opAdd_i, opSub_i, opLt_i, opLe_i, opGt_i, opGe_i, opEq_i, opNe_i, opMod_p, opDiv_p, seqSrc_l, seqSrc_clst, seqSrc_tup, ofL_n, ofR_n, opCut_l, opCut_tup, opCut_clst, callB_len_clst, callB_len_l, callB_len_tup, isi_int_int, isi_int_bool, isi_bool_bool, isi_bool_int, if_true, List.map_cons, List.map_nil, Int.toNat_natCast, List.length_cons, List.length_nil, List.replicate_succ, List.replicate_zero, List.cons_append, List.nil_append, Nat.sub_self, Nat.reduceSub, Nat.reduceAdd, ite_at, Bool.not_true, Bool.not_false, decide_true, decide_false, Bool.false_eq_true, if_false, reduceIte, fldE_mk, ev_fld, sfldS_mk, ev_setF, ev_putD_nil, ev_putD, methE_mk, ev_meth, augFS_mk, ev_aug, ev_len, ev_len2, len2_clst, len2_l, len2_tup, ev_list, ev_list2, list_tup, list_clst, list_l, list2_tup, list2_l, list2_clst, ev_tuple, tuple_tup, bTuple_l, ev_cut, ev_idx, ev_idxT, ev_idxL, ev_idxC, subS_mk, ev_subs, subs_l, subs_tup, subs_clst, subs_str, key_int, key_str, ev_getK_nil, ev_getK, ev_put, ev_src, ev_append, ev_extend, listOfM_l, ev_listOfM, listOf_l, listOf_clst, ev_listOf, ev_clear, chk_list, chk_str, chk_dic, dgetE_mk, dgetM_ev, dget2E_mk, dget2M_ev, ev_dget, ev_dgetY, ev_dget2Y, dpopE_mk, get_set_ne', get_set_is, get_app_is, get_new, ite_lt, ite_le, at_0, at_1, at_2, at_3, at_4, at_end, tupG_mk, tupG_mk', consG_mk, nilG_mk, sne, sbne, beq_self_eq_true, List.lookup_cons, List.lookup_nil, List.mem_cons, List.not_mem_nil, or_false, false_or, true_or, or_true, and_true, true_and, and_false, false_and, eq_self, Option.isSome_some, Option.isSome_none, Option.map_some, Option.map_none, opIs_nn, opIs_ni, opIsNot_nn, opIsNot_ni, opIsB_b, opIsNotB_b, opMul_l, opMul_r, opEq_b, opNe_b, bMax2_i, bMin2_i, List.map_cons, Sum.inl.injEq, Sum.inr.injEq, isi_l_list, isi_tup_tup, List.length_set, decide_eq_true_eq, negE_mk, Nat.reduceLT, Nat.reduceLeDiff, Nat.reduceEqDiff, Nat.reduceMul, Int.reduceLT, Int.reduceLE, Int.reduceEq, Int.reduceAdd, Int.reduceSub, Int.reduceMul, Int.reduceNeg, Int.reduceToNat, Int.reducePow, Nat.reducePow, Int.reduceMod, Int.reduceDiv, reduceCtorEq, ite_true, List.nil_append, Nat.reduceBEq, isXE_mk, ev_isX, xfE_mk, ev_xf, raiseS_mk, raiseFS_mk, excM_mk, goneF_nxt, goneF_ret, opMulX_i, ev_addRL, ev_addLR, ev_addRR, ite_le2, opAdd_s, opAdd_t, chainE_mk, chainR_b, ev_isl, andE_mk, orE_mk, notE_mk, is_non_int, is_non_bool, is_non_str, is_non_list, is_non_tuple, is_bl_int, is_bl_bool, is_bl_str, is_bl_list, is_bl_tuple, is_int_int, is_int_bool, is_int_str, is_int_list, is_int_tuple, is_str_int, is_str_bool, is_str_str, is_str_list, is_str_tuple, is_tup_int, is_tup_bool, is_tup_str, is_tup_list, is_tup_tuple, is_l_int, is_l_bool, is_l_str, is_l_list, is_l_tuple, unpG_tup, unpG_ref, opEq_s, opNe_s, len2_str, leX_ss, seqIX_mk, srcX_str, ↓toBT, ↓toWT, bt_ok, bt_bt, wt_bt, wt_okM, wt_ok, wt_exc, wt_ite, wt_lift, wt_make, wt_try] <;> try simp -implicitDefEqProofs only [bt_eq, wt_eq])
  generalize (c + 1) * 48271 % 2147483647 = mix at *
  rw [rng1_ok (by omega)]
  (simp -implicitDefEqProofs (maxSteps := 2000000) (disch := (first | omega | decide +kernel | (simp only [isSome_set, isSome_app, isSome_new, Option.isSome_some, *]; done) | (simp only [isSome_lt, List.length_set, List.length_append, List.length_cons, List.length_nil, decide_eq_true_eq]; omega))) only [seqS_mk, asgS_mk, ifS_mk, retS_mk, retNS_mk, skipS_mk, dropS_mk, brkS_mk, cntS_mk, forS_mk, seqI_mk, matE_mk, callF_mk, callB_mk, consA_mk, nilA_mk, consT_mk, nilT_mk, tvs_mk, binE_mk, varE_0, varE_s, kE_mk, set_0, set_s, nmG_mk, lstE_mk, tupE_mk, bT_mk, tstT_mk, notT_mk, andT_mk, orT_mk, yesT_mk, andE_mk, orE_mk, notE_mk, ifE_mk, negE_mk, sliceE_mk, noP_mk, intP_mk, bmE_mk, bmE0_mk, isiB_mk, lcE_mk, lcT_mk, wipeE_nil, wipeE_cons, liftF_ok, matD_d, matD_l, boolT_mk, truthM_bl, truthM_int, truthM_non, opAdd_i, opSub_i, opLt_i, opLe_i, opGt_i, opGe_i, opEq_i, opNe_i, opMod_p, opDiv_p, seqSrc_l, seqSrc_clst, seqSrc_tup, ofL_n, ofR_n, opCut_l, opCut_tup, opCut_clst, callB_len_clst, callB_len_l, callB_len_tup, isi_int_int, isi_int_bool, isi_bool_bool, isi_bool_int, if_true, List.map_cons, List.map_nil, Int.toNat_natCast, List.length_cons, List.length_nil, List.replicate_succ, List.replicate_zero, List.cons_append, List.nil_append, Nat.sub_self, Nat.reduceSub, Nat.reduceAdd, ite_at, Bool.not_true, Bool.not_false, decide_true, decide_false, Bool.false_eq_true, if_false, reduceIte, fldE_mk, ev_fld, sfldS_mk, ev_setF, ev_putD_nil, ev_putD, methE_mk, ev_meth, augFS_mk, ev_aug, ev_len, ev_len2, len2_clst, len2_l, len2_tup, ev_list, ev_list2, list_tup, list_clst, list_l, list2_tup, list2_l, list2_clst, ev_tuple, tuple_tup, bTuple_l, ev_cut, ev_idx, ev_idxT, ev_idxL, ev_idxC, subS_mk, ev_subs, subs_l, subs_tup, subs_clst, subs_str, key_int, key_str, ev_getK_nil, ev_getK, ev_put, ev_src, ev_append, ev_extend, listOfM_l, ev_listOfM, listOf_l, listOf_clst, ev_listOf, ev_clear, chk_list, chk_str, chk_dic, dgetE_mk, dgetM_ev, dget2E_mk, dget2M_ev, ev_dget, ev_dgetY, ev_dget2Y, dpopE_mk, get_set_ne', get_set_is, get_app_is, get_new, ite_lt, ite_le, at_0, at_1, at_2, at_3, at_4, at_end, tupG_mk, tupG_mk', consG_mk, nilG_mk, sne, sbne, beq_self_eq_true, List.lookup_cons, List.lookup_nil, List.mem_cons, List.not_mem_nil, or_false, false_or, true_or, or_true, and_true, true_and, and_false, false_and, eq_self, Option.isSome_some, Option.isSome_none, Option.map_some, Option.map_none, opIs_nn, opIs_ni, opIsNot_nn, opIsNot_ni, opIsB_b, opIsNotB_b, opMul_l, opMul_r, opEq_b, opNe_b, bMax2_i, bMin2_i, List.map_cons, Sum.inl.injEq, Sum.inr.injEq, isi_l_list, isi_tup_tup, List.length_set, decide_eq_true_eq, negE_mk, Nat.reduceLT, Nat.reduceLeDiff, Nat.reduceEqDiff, Nat.reduceMul, Int.reduceLT, Int.reduceLE, Int.reduceEq, Int.reduceAdd, Int.reduceSub, Int.reduceMul, Int.reduceNeg, Int.reduceToNat, Int.reducePow, Nat.reducePow, Int.reduceMod, Int.reduceDiv, reduceCtorEq, ite_true, List.nil_append, Nat.reduceBEq, isXE_mk, ev_isX, xfE_mk, ev_xf, raiseS_mk, raiseFS_mk, excM_mk, goneF_nxt, goneF_ret, opMulX_i, ev_addRL, ev_addLR, ev_addRR, ite_le2, opAdd_s, opAdd_t, chainE_mk, chainR_b, ev_isl, andE_mk, orE_mk, notE_mk, is_non_int, is_non_bool, is_non_str, is_non_list, is_non_tuple, is_bl_int, is_bl_bool, is_bl_str, is_bl_list, is_bl_tuple, is_int_int, is_int_bool, is_int_str, is_int_list, is_int_tuple, is_str_int, is_str_bool, is_str_str, is_str_list, is_str_tuple, is_tup_int, is_tup_bool, is_tup_str, is_tup_list, is_tup_tuple, is_l_int, is_l_bool, is_l_str, is_l_list, is_l_tuple, unpG_tup, unpG_ref, opEq_s, opNe_s, len2_str, leX_ss, seqIX_mk, srcX_str, ↓toBT, ↓toWT, bt_ok, bt_bt, wt_bt, wt_okM, wt_ok, wt_exc, wt_ite, wt_lift, wt_make, wt_try] <;> try simp -implicitDefEqProofs only [bt_eq, wt_eq])
  obtain ⟨I, hI⟩ := opaque_inv fun i env m' => ∃ (L : List Int) (mix rest : Int) (y : Option D), L.length = i ∧ (∀ x ∈ L, 0 ≤ x ∧ x < sz) ∧ 0 ≤ mix ∧ mix < 2147483647 ∧ env = [some (.int c), some (.int sz), some (.int (n : Int)), some (.ref m.length), some (.int mix), some (.int rest), y] ∧ m' = m ++ [.lst (L.map D.int)]
  have hlr : (rngL 0 n).length = n := rngL_len 0 n
  refine wp_loop (ds := rngL 0 n) I ((hI _ _ _).2 ⟨[], _, _, _, rfl, fun x h => by simp at h, b1, b2, rfl, rfl⟩) (fun i env m' p => rfl) ?_ ?_
  · intro i d env m' hi p
    obtain ⟨hlt, rfl⟩ := rngL_of hi
    obtain ⟨L, mix, rest, y, hl, hb, h1, h2, rfl, rfl⟩ := (hI _ _ _).1 p
    have hst := dig_step (c := c) (rest := rest) (i := i) (x2 := some (.int (n : Int))) hs (get_new (m := m) (o := .lst (L.map D.int))) (by omega) ⟨h1, h2⟩ (by omega)
    rw [hB] at hst
    rw [Int.zero_add]
    (simp -implicitDefEqProofs (maxSteps := 2000000) (disch := (first | omega | decide +kernel | (simp only [isSome_set, isSome_app, isSome_new, Option.isSome_some, *]; done) | (simp only [isSome_lt, List.length_set, List.length_append, List.length_cons, List.length_nil, decide_eq_true_eq]; omega))) only [seqS_mk, asgS_mk, ifS_mk, retS_mk, retNS_mk, skipS_mk, dropS_mk, brkS_mk, cntS_mk, forS_mk, seqI_mk, matE_mk, callF_mk, callB_mk, consA_mk, nilA_mk, consT_mk, nilT_mk, tvs_mk, binE_mk, varE_0, varE_s, kE_mk, set_0, set_s, nmG_mk, lstE_mk, tupE_mk, bT_mk, tstT_mk, notT_mk, andT_mk, orT_mk, yesT_mk, andE_mk, orE_mk, notE_mk, ifE_mk, negE_mk, sliceE_mk, noP_mk, intP_mk, bmE_mk, bmE0_mk, isiB_mk, lcE_mk, lcT_mk, wipeE_nil, wipeE_cons, liftF_ok, matD_d, matD_l, boolT_mk, truthM_bl, truthM_int, truthM_non, opAdd_i, opSub_i, opLt_i, opLe_i, opGt_i, opGe_i, opEq_i, opNe_i, opMod_p, opDiv_p, seqSrc_l, seqSrc_clst, seqSrc_tup, ofL_n, ofR_n, opCut_l, opCut_tup, opCut_clst, callB_len_clst, callB_len_l, callB_len_tup, isi_int_int, isi_int_bool, isi_bool_bool, isi_bool_int, if_true, List.map_cons, List.map_nil, Int.toNat_natCast, List.length_cons, List.length_nil, List.replicate_succ, List.replicate_zero, List.cons_append, List.nil_append, Nat.sub_self, Nat.reduceSub, Nat.reduceAdd, ite_at, Bool.not_true, Bool.not_false, decide_true, decide_false, Bool.false_eq_true, if_false, reduceIte, fldE_mk, ev_fld, sfldS_mk, ev_setF, ev_putD_nil, ev_putD, methE_mk, ev_meth, augFS_mk, ev_aug, ev_len, ev_len2, len2_clst, len2_l, len2_tup, ev_list, ev_list2, list_tup, list_clst, list_l, list2_tup, list2_l, list2_clst, ev_tuple, tuple_tup, bTuple_l, ev_cut, ev_idx, ev_idxT, ev_idxL, ev_idxC, subS_mk, ev_subs, subs_l, subs_tup, subs_clst, subs_str, key_int, key_str, ev_getK_nil, ev_getK, ev_put, ev_src, ev_append, ev_extend, listOfM_l, ev_listOfM, listOf_l, listOf_clst, ev_listOf, ev_clear, chk_list, chk_str, chk_dic, dgetE_mk, dgetM_ev, dget2E_mk, dget2M_ev, ev_dget, ev_dgetY, ev_dget2Y, dpopE_mk, get_set_ne', get_set_is, get_app_is, get_new, ite_lt, ite_le, at_0, at_1, at_2, at_3, at_4, at_end, tupG_mk, tupG_mk', consG_mk, nilG_mk, sne, sbne, beq_self_eq_true, List.lookup_cons, List.lookup_nil, List.mem_cons, List.not_mem_nil, or_false, false_or, true_or, or_true, and_true, true_and, and_false, false_and, eq_self, Option.isSome_some, Option.isSome_none, Option.map_some, Option.map_none, opIs_nn, opIs_ni, opIsNot_nn, opIsNot_ni, opIsB_b, opIsNotB_b, opMul_l, opMul_r, opEq_b, opNe_b, bMax2_i, bMin2_i, List.map_cons, Sum.inl.injEq, Sum.inr.injEq, isi_l_list, isi_tup_tup, List.length_set, decide_eq_true_eq, negE_mk, Nat.reduceLT, Nat.reduceLeDiff, Nat.reduceEqDiff, Nat.reduceMul, Int.reduceLT, Int.reduceLE, Int.reduceEq, Int.reduceAdd, Int.reduceSub, Int.reduceMul, Int.reduceNeg, Int.reduceToNat, Int.reducePow, Nat.reducePow, Int.reduceMod, Int.reduceDiv, reduceCtorEq, ite_true, List.nil_append, Nat.reduceBEq, isXE_mk, ev_isX, xfE_mk, ev_xf, raiseS_mk, raiseFS_mk, excM_mk, goneF_nxt, goneF_ret, opMulX_i, ev_addRL, ev_addLR, ev_addRR, ite_le2, opAdd_s, opAdd_t, chainE_mk, chainR_b, ev_isl, andE_mk, orE_mk, notE_mk, is_non_int, is_non_bool, is_non_str, is_non_list, is_non_tuple, is_bl_int, is_bl_bool, is_bl_str, is_bl_list, is_bl_tuple, is_int_int, is_int_bool, is_int_str, is_int_list, is_int_tuple, is_str_int, is_str_bool, is_str_str, is_str_list, is_str_tuple, is_tup_int, is_tup_bool, is_tup_str, is_tup_list, is_tup_tuple, is_l_int, is_l_bool, is_l_str, is_l_list, is_l_tuple, unpG_tup, unpG_ref, opEq_s, opNe_s, len2_str, leX_ss, seqIX_mk, srcX_str, ↓toBT, ↓toWT, bt_ok, bt_bt, wt_bt, wt_okM, wt_ok, wt_exc, wt_ite, wt_lift, wt_make, wt_try] <;> try simp -implicitDefEqProofs only [bt_eq, wt_eq])
    refine wp_then hst ?_
    rintro fl m2 ⟨y, mix', rest', g1, g2, g3, g4, rfl, rfl⟩
    refine (hI _ _ _).2 ⟨L ++ [y], mix', rest', _, by simp [hl], fun x hx => ?_, g3, g4, rfl, by simp⟩
    rcases List.mem_append.mp hx with z | z
    · exact hb x z
    · rw [List.mem_singleton.mp z]; exact ⟨g1, g2⟩
  · intro env m' p
    obtain ⟨L, mix, rest, y, hl, hb, h1, h2, rfl, rfl⟩ := (hI _ _ _).1 p
    rw [hlr] at hl
    (simp -implicitDefEqProofs (maxSteps := 2000000) (disch := (first | omega | decide +kernel | (simp only [isSome_set, isSome_app, isSome_new, Option.isSome_some, *]; done) | (simp only [isSome_lt, List.length_set, List.length_append, List.length_cons, List.length_nil, decide_eq_true_eq]; omega))) only [seqS_mk, asgS_mk, ifS_mk, retS_mk, retNS_mk, skipS_mk, dropS_mk, brkS_mk, cntS_mk, forS_mk, seqI_mk, matE_mk, callF_mk, callB_mk, consA_mk, nilA_mk, consT_mk, nilT_mk, tvs_mk, binE_mk, varE_0, varE_s, kE_mk, set_0, set_s, nmG_mk, lstE_mk, tupE_mk, bT_mk, tstT_mk, notT_mk, andT_mk, orT_mk, yesT_mk, andE_mk, orE_mk, notE_mk, ifE_mk, negE_mk, sliceE_mk, noP_mk, intP_mk, bmE_mk, bmE0_mk, isiB_mk, lcE_mk, lcT_mk, wipeE_nil, wipeE_cons, liftF_ok, matD_d, matD_l, boolT_mk, truthM_bl, truthM_int, truthM_non, opAdd_i, opSub_i, opLt_i, opLe_i, opGt_i, opGe_i, opEq_i, opNe_i, opMod_p, opDiv_p, seqSrc_l, seqSrc_clst, seqSrc_tup, ofL_n, ofR_n, opCut_l, opCut_tup, opCut_clst, callB_len_clst, callB_len_l, callB_len_tup, isi_int_int, isi_int_bool, isi_bool_bool, isi_bool_int, if_true, List.map_cons, List.map_nil, Int.toNat_natCast, List.length_cons, List.length_nil, List.replicate_succ, List.replicate_zero, List.cons_append, List.nil_append, Nat.sub_self, Nat.reduceSub, Nat.reduceAdd, ite_at, Bool.not_true, Bool.not_false, decide_true, decide_false, Bool.false_eq_true, if_false, reduceIte, fldE_mk, ev_fld, sfldS_mk, ev_setF, ev_putD_nil, ev_putD, methE_mk, ev_meth, augFS_mk, ev_aug, ev_len, ev_len2, len2_clst, len2_l, len2_tup, ev_list, ev_list2, list_tup, list_clst, list_l, list2_tup, list2_l, list2_clst, ev_tuple, tuple_tup, bTuple_l, ev_cut, ev_idx, ev_idxT, ev_idxL, ev_idxC, subS_mk, ev_subs, subs_l, subs_tup, subs_clst, subs_str, key_int, key_str, ev_getK_nil, ev_getK, ev_put, ev_src, ev_append, ev_extend, listOfM_l, ev_listOfM, listOf_l, listOf_clst, ev_listOf, ev_clear, chk_list, chk_str, chk_dic, dgetE_mk, dgetM_ev, dget2E_mk, dget2M_ev, ev_dget, ev_dgetY, ev_dget2Y, dpopE_mk, get_set_ne', get_set_is, get_app_is, get_new, ite_lt, ite_le, at_0, at_1, at_2, at_3, at_4, at_end, tupG_mk, tupG_mk', consG_mk, nilG_mk, sne, sbne, beq_self_eq_true, List.lookup_cons, List.lookup_nil, List.mem_cons, List.not_mem_nil, or_false, false_or, true_or, or_true, and_true, true_and, and_false, false_and, eq_self, Option.isSome_some, Option.isSome_none, Option.map_some, Option.map_none, opIs_nn, opIs_ni, opIsNot_nn, opIsNot_ni, opIsB_b, opIsNotB_b, opMul_l, opMul_r, opEq_b, opNe_b, bMax2_i, bMin2_i, List.map_cons, Sum.inl.injEq, Sum.inr.injEq, isi_l_list, isi_tup_tup, List.length_set, decide_eq_true_eq, negE_mk, Nat.reduceLT, Nat.reduceLeDiff, Nat.reduceEqDiff, Nat.reduceMul, Int.reduceLT, Int.reduceLE, Int.reduceEq, Int.reduceAdd, Int.reduceSub, Int.reduceMul, Int.reduceNeg, Int.reduceToNat, Int.reducePow, Nat.reducePow, Int.reduceMod, Int.reduceDiv, reduceCtorEq, ite_true, List.nil_append, Nat.reduceBEq, isXE_mk, ev_isX, xfE_mk, ev_xf, raiseS_mk, raiseFS_mk, excM_mk, goneF_nxt, goneF_ret, opMulX_i, ev_addRL, ev_addLR, ev_addRR, ite_le2, opAdd_s, opAdd_t, chainE_mk, chainR_b, ev_isl, andE_mk, orE_mk, notE_mk, is_non_int, is_non_bool, is_non_str, is_non_list, is_non_tuple, is_bl_int, is_bl_bool, is_bl_str, is_bl_list, is_bl_tuple, is_int_int, is_int_bool, is_int_str, is_int_list, is_int_tuple, is_str_int, is_str_bool, is_str_str, is_str_list, is_str_tuple, is_tup_int, is_tup_bool, is_tup_str, is_tup_list, is_tup_tuple, is_l_int, is_l_bool, is_l_str, is_l_list, is_l_tuple, unpG_tup, unpG_ref, opEq_s, opNe_s, len2_str, leX_ss, seqIX_mk, srcX_str, ↓toBT, ↓toWT, bt_ok, bt_bt, wt_bt, wt_okM, wt_ok, wt_exc, wt_ite, wt_lift, wt_make, wt_try] <;> try simp -implicitDefEqProofs only [bt_eq, wt_eq])
    exact ⟨L, hl, hb, rfl⟩
end Mir














set_option maxHeartbeats 4000000
namespace Law
open PySem L2 Mir
def top (i : Nat) : Stmt := PySem.Challenge.pw_roadnet_k31_what_waits_at_a_gate.main.body.getD i (.Pass ⟨0, 0, 0, 0⟩)
abbrev s_Gate_init : Stmt := inClass (top 1) 0
abbrev N_Gate_init : List Str := ["self", "places"]
theorem sc_Gate_init : FnScope N_Gate_init ["self", "places"] (defScope s_Gate_init) := ⟨rfl, rfl, rfl, by decide +kernel, rfl, by decide +kernel, by decide +kernel⟩
def m_Gate_init : SMs := (seqS (sfldS [0] "places" (varE 0) (matE (varE 1)))
    (seqS (sfldS [0] "kept" (varE 0) (matE mixE))
    (sfldS [0] "line_up" (varE 0) (matE (lstE nilA)))))
def F_Gate_init : FnSem := fnM 2 m_Gate_init
abbrev s_Gate_give : Stmt := inClass (top 1) 2
abbrev N_Gate_give : List Str := ["self", "key", "parcels"]
theorem sc_Gate_give : FnScope N_Gate_give ["self"] (defScope s_Gate_give) := ⟨rfl, rfl, rfl, by decide +kernel, rfl, by decide +kernel, by decide +kernel⟩
def m_Gate_give : SMs := (seqS (asgS (matE (binE opSubs (fldE [0] "line_up" (varE 0)) (kE (.int 0)))) (nmG 1))
    (seqS (asgS (matE (mpopE (fldE [0] "kept" (varE 0)) (varE 1))) (nmG 2))
    (seqS (sfldS [0] "line_up" (varE 0) (matE (sliceE (fldE [0] "line_up" (varE 0)) (intP (kE (.int 1))) noP)))
    (seqS (ifS (bT (binE opGt (callB bLen2 (consT (varE 2) nilT)) (kE (.int 1)))) (seqS (mputS (fldE [0] "kept" (varE 0)) (varE 1) (matE (sliceE (varE 2) (intP (kE (.int 1))) noP)))
    (dropS (bmE "list" lAppend (fldE [0] "line_up" (varE 0)) (tvs (consA (matE (varE 1)) nilA))))) skipS)
    (retS (matE (binE opSubs (varE 2) (kE (.int 0)))))))))
def F_Gate_give : FnSem := fnM 3 m_Gate_give
abbrev s_Gate_out : Stmt := inClass (top 1) 3
abbrev N_Gate_out : List Str := ["self", "many", "found"]
theorem sc_Gate_out : FnScope N_Gate_out ["self", "many"] (defScope s_Gate_out) := ⟨rfl, rfl, rfl, by decide +kernel, rfl, by decide +kernel, by decide +kernel⟩
def m_Gate_out_0 : SMs := (dropS (bmE "list" lAppend (varE 2) (tvs (consA (matE (methE 0 "give" F_Gate_give (varE 0) nilA)) nilA))))
def m_Gate_out : SMs := (seqS (asgS (matE (lstE nilA)) (nmG 2))
    (seqS (whileS (andT (bT (binE opLt (callB bLen2 (consT (varE 2) nilT)) (varE 1))) (bT (binE opNe (fldE [0] "line_up" (varE 0)) (lstE nilA)))) m_Gate_out_0)
    (retS (matE (varE 2)))))
def F_Gate_out : FnSem := fnM 3 m_Gate_out
abbrev s_Gate_waiting : Stmt := inClass (top 1) 4
abbrev N_Gate_waiting : List Str := ["self"]
theorem sc_Gate_waiting : FnScope N_Gate_waiting ["self"] (defScope s_Gate_waiting) := ⟨rfl, rfl, rfl, by decide +kernel, rfl, by decide +kernel, by decide +kernel⟩
def m_Gate_waiting : SMs := (retS (matE (callB bList2 (consT (fldE [0] "line_up" (varE 0)) nilT))))
def F_Gate_waiting : FnSem := fnM 1 m_Gate_waiting
abbrev s_law_cell_at : Stmt := top 3
abbrev N_law_cell_at : List Str := ["_law_script", "_law_k"]
theorem sc_law_cell_at : FnScope N_law_cell_at ["_law_script", "_law_k"] (defScope s_law_cell_at) := ⟨rfl, rfl, rfl, by decide +kernel, rfl, by decide +kernel, by decide +kernel⟩
def m_law_cell_at : SMs := (seqS (ifS (bT (binE opLt (varE 1) (callB bLen2 (consT (varE 0) nilT)))) (retS (matE (binE opSubs (varE 0) (varE 1)))) skipS)
    (retS (matE (kE (.int 0)))))
def F_law_cell_at : FnSem := fnM 2 m_law_cell_at
abbrev s_law_digits : Stmt := top 4
abbrev N_law_digits : List Str := ["_law_cell", "_law_size", "_law_many", "_law_found", "_law_mix", "_law_rest", "_law_k"]
theorem sc_law_digits : FnScope N_law_digits ["_law_cell", "_law_size", "_law_many"] (defScope s_law_digits) := ⟨rfl, rfl, rfl, by decide +kernel, rfl, by decide +kernel, by decide +kernel⟩
def m_law_digits_0 : SMs := (seqS (asgS (matE (binE opMod (binE opMulX (binE opAdd (binE opAdd (varE 4) (binE opMulX (kE (.int 7919)) (varE 6))) (kE (.int 1))) (binE opAdd (binE opDiv (varE 4) (kE (.int 1009))) (kE (.int 69621)))) (kE (.int 2147483647)))) (nmG 4))
    (seqS (dropS (bmE "list" lAppend (varE 3) (tvs (consA (matE (binE opSubs (lstE (consA (matE (binE opMod (binE opDiv (varE 4) (kE (.int 7))) (varE 1))) (consA (matE (binE opMod (varE 5) (varE 1))) nilA))) (callB bInt (consT (andE (binE opEq (binE opMod (varE 0) (kE (.int 2))) (kE (.int 0))) (binE opGt (varE 5) (kE (.int 0)))) nilT)))) nilA))))
    (asgS (matE (binE opDiv (varE 5) (varE 1))) (nmG 5))))
def m_law_digits : SMs := (seqS (asgS (matE (lstE nilA)) (nmG 3))
    (seqS (asgS (matE (binE opMod (binE opMulX (binE opAdd (varE 0) (kE (.int 1))) (kE (.int 48271))) (kE (.int 2147483647)))) (nmG 4))
    (seqS (asgS (matE (binE opDiv (varE 0) (kE (.int 2)))) (nmG 5))
    (seqS (forS (fun env => bindM ((consT (varE 2) nilT) env) rng1) (nmG 6) m_law_digits_0)
    (retS (matE (varE 3)))))))
def F_law_digits : FnSem := fnM 7 m_law_digits
abbrev s_Gate_put : Stmt := inClass (top 1) 1
abbrev N_Gate_put : List Str := ["self", "key", "parcel", "parcels"]
theorem sc_Gate_put : FnScope N_Gate_put ["self", "key", "parcel"] (defScope s_Gate_put) := ⟨rfl, rfl, rfl, by decide +kernel, rfl, by decide +kernel, by decide +kernel⟩
def m_Gate_put : SMs := (seqS (asgS (matE (mget2E (fldE [0] "kept" (varE 0)) (varE 1) (matE (lstE nilA)))) (nmG 3))
    (seqS (ifS (bT (binE opIn (varE 2) (varE 3))) (retS (matE (kE (.bl true)))) skipS)
    (seqS (ifS (bT (binE opEq (callB bLen2 (consT (varE 3) nilT)) (fldE [0] "places" (varE 0)))) (retS (matE (kE (.bl false)))) skipS)
    (seqS (ifS (bT (binE opEq (varE 3) (lstE nilA))) (dropS (bmE "list" lAppend (fldE [0] "line_up" (varE 0)) (tvs (consA (matE (varE 1)) nilA)))) skipS)
    (seqS (mputS (fldE [0] "kept" (varE 0)) (varE 1) (matE (binE opAdd (varE 3) (lstE (consA (matE (varE 2)) nilA)))))
    (retS (matE (kE (.bl true)))))))))
def F_Gate_put : FnSem := fnM 4 m_Gate_put
abbrev s_law_key : Stmt := top 5
abbrev N_law_key : List Str := ["_law_d", "_law_some"]
theorem sc_law_key : FnScope N_law_key ["_law_d"] (defScope s_law_key) := ⟨rfl, rfl, rfl, by decide +kernel, rfl, by decide +kernel, by decide +kernel⟩
def m_law_key : SMs := (seqS (asgS (matE (lstE (consA (matE (tupE (consA (matE (kE (.int 0))) (consA (matE (kE (.int 7))) (consA (matE (kE (.str "piece"))) nilA))))) (consA (matE (tupE (consA (matE (kE (.int 0))) (consA (matE (kE (.int 7))) (consA (matE (kE (.str "got"))) nilA))))) (consA (matE (tupE (consA (matE (kE (.int 0))) (consA (matE (kE (.int 7))) nilA)))) (consA (matE (kE (.str "(0, 7)"))) (consA (matE (kE (.int 7))) (consA (matE (kE (.str "7"))) (consA (matE (tupE (consA (matE (kE (.int 0))) (consA (matE (kE (.int 7))) (consA (matE (kE (.str "told"))) nilA))))) (consA (matE (tupE (consA (matE (kE (.int 0))) (consA (matE (tupE (consA (matE (kE (.int 7))) (consA (matE (kE (.str "got"))) nilA)))) nilA)))) nilA)))))))))) (nmG 1))
    (retS (matE (binE opSubs (binE opAdd (varE 1) (lstE (consA (matE (kE (.int 0))) (consA (matE (kE (.str "a"))) (consA (matE (kE (.str "ab"))) (consA (matE (tupE (consA (matE (kE (.int 0))) (consA (matE (kE (.str "a"))) nilA)))) (consA (matE (tupE (consA (matE (kE (.str "a"))) (consA (matE (tupE (consA (matE (kE (.int 0))) (consA (matE (kE (.int 7))) nilA)))) nilA)))) (consA (matE (tupE (consA (matE (kE (.int 7))) (consA (matE (kE (.int 0))) (consA (matE (kE (.str "piece"))) nilA))))) (consA (matE (tupE (consA (matE (tupE (consA (matE (kE (.int 0))) (consA (matE (kE (.int 7))) nilA)))) (consA (matE (kE (.str "piece"))) nilA)))) nilA))))))))) (binE opMod (varE 0) (kE (.int 15)))))))
def F_law_key : FnSem := fnM 2 m_law_key
abbrev s_law_out : Stmt := top 8
abbrev N_law_out : List Str := ["_law_row", "_law_kept", "_law_many", "_law_found", "_law_k", "_law_key_here"]
theorem sc_law_out : FnScope N_law_out ["_law_row", "_law_kept", "_law_many"] (defScope s_law_out) := ⟨rfl, rfl, rfl, by decide +kernel, rfl, by decide +kernel, by decide +kernel⟩
def m_law_out_0 : SMs := (seqS (asgS (matE (bmE "list" lPopAt (varE 0) (tvs (consA (matE (kE (.int 0))) nilA)))) (nmG 5))
    (seqS (dropS (bmE "list" lAppend (varE 3) (tvs (consA (matE (binE opSubs (binE opMix (varE 1) (varE 5)) (kE (.int 0)))) nilA))))
    (seqS (mputS (varE 1) (varE 5) (matE (sliceE (binE opMix (varE 1) (varE 5)) (intP (kE (.int 1))) noP)))
    (ifS (bT (binE opNe (binE opMix (varE 1) (varE 5)) (lstE nilA))) (dropS (bmE "list" lAppend (varE 0) (tvs (consA (matE (varE 5)) nilA)))) skipS))))
def m_law_out_1 : SMs := (ifS (bT (binE opNe (varE 0) (lstE nilA))) m_law_out_0 skipS)
def m_law_out : SMs := (seqS (asgS (matE (lstE nilA)) (nmG 3))
    (seqS (forS (fun env => bindM ((consT (varE 2) nilT) env) rng1) (nmG 4) m_law_out_1)
    (retS (matE (varE 3)))))
def F_law_out : FnSem := fnM 6 m_law_out
abbrev s_law_parcel : Stmt := top 6
abbrev N_law_parcel : List Str := ["_law_number", "_law_count", "_law_signs"]
theorem sc_law_parcel : FnScope N_law_parcel ["_law_number", "_law_count"] (defScope s_law_parcel) := ⟨rfl, rfl, rfl, by decide +kernel, rfl, by decide +kernel, by decide +kernel⟩
def m_law_parcel : SMs := (seqS (asgS (matE (binE opSubs (kE (.str "abcdefgh")) (binE opMod (varE 0) (kE (.int 8))))) (nmG 2))
    (retS (matE (tupE (consA (matE (binE opMod (varE 0) (kE (.int 5)))) (consA (matE (binE opMod (varE 0) (kE (.int 3)))) (consA (matE (varE 1)) (consA (matE (tupE (consA (matE (kE (.str "piece"))) (consA (matE (binE opMod (varE 0) (kE (.int 13)))) (consA (matE (tupE (consA (matE (kE (.str "signs"))) (consA (matE (varE 2)) nilA)))) nilA))))) nilA))))))))
def F_law_parcel : FnSem := fnM 3 m_law_parcel
abbrev s_law_put : Stmt := top 7
abbrev N_law_put : List Str := ["_law_row", "_law_kept", "_law_places", "_law_key_here", "_law_parcel_here", "_law_parcels"]
theorem sc_law_put : FnScope N_law_put ["_law_row", "_law_kept", "_law_places", "_law_key_here", "_law_parcel_here"] (defScope s_law_put) := ⟨rfl, rfl, rfl, by decide +kernel, rfl, by decide +kernel, by decide +kernel⟩
def m_law_put : SMs := (seqS (asgS (matE (mget2E (varE 1) (varE 3) (matE (lstE nilA)))) (nmG 5))
    (seqS (ifS (bT (binE opIn (varE 4) (varE 5))) (retS (matE (kE (.bl true)))) skipS)
    (seqS (ifS (bT (binE opGe (callB bLen2 (consT (varE 5) nilT)) (varE 2))) (retS (matE (kE (.bl false)))) skipS)
    (seqS (ifS (bT (binE opEq (varE 5) (lstE nilA))) (dropS (bmE "list" lAppend (varE 0) (tvs (consA (matE (varE 3)) nilA)))) skipS)
    (seqS (mputS (varE 1) (varE 3) (matE (binE opAdd (varE 5) (lstE (consA (matE (varE 4)) nilA)))))
    (retS (matE (kE (.bl true)))))))))
def F_law_put : FnSem := fnM 6 m_law_put
abbrev s_law_does : Stmt := top 10
abbrev N_law_does : List Str := ["_law_gate", "_law_row", "_law_kept", "_law_places", "_law_ds", "_law_first", "_law_key_here", "_law_parcel_here", "_law_found", "_law_many"]
theorem sc_law_does : FnScope N_law_does ["_law_gate", "_law_row", "_law_kept", "_law_places", "_law_ds", "_law_first"] (defScope s_law_does) := ⟨rfl, rfl, rfl, by decide +kernel, rfl, by decide +kernel, by decide +kernel⟩
def m_law_does_0 : SMs := (seqS (asgS (matE (callF F_law_key (consA (matE (binE opMod (binE opSubs (varE 4) (kE (.int 1))) (binE opAdd (kE (.int 1)) (binE opMod (binE opDiv (varE 5) (kE (.int 16))) (kE (.int 15)))))) nilA))) (nmG 6))
    (seqS (asgS (matE (callF F_law_parcel (consA (matE (binE opMod (binE opSubs (varE 4) (kE (.int 2))) (binE opSubs (lstE (consA (matE (kE (.int 10000))) (consA (matE (kE (.int 60))) (consA (matE (kE (.int 7))) nilA)))) (binE opMod (binE opDiv (varE 5) (kE (.int 240))) (kE (.int 3)))))) (consA (matE (binE opMod (binE opSubs (varE 4) (kE (.int 3))) (binE opSubs (lstE (consA (matE (kE (.int 61))) (consA (matE (kE (.int 3))) nilA))) (binE opMod (binE opSubs (varE 4) (kE (.int 4))) (kE (.int 2)))))) nilA)))) (nmG 7))
    (seqS (asgS (matE (methE 0 "put" F_Gate_put (varE 0) (consA (matE (varE 6)) (consA (matE (varE 7)) nilA)))) (nmG 8))
    (retS (matE (andE (isiE "bool" (varE 8)) (binE opEq (varE 8) (callF F_law_put (consA (matE (varE 1)) (consA (matE (varE 2)) (consA (matE (varE 3)) (consA (matE (varE 6)) (consA (matE (varE 7)) nilA)))))))))))))
def m_law_does : SMs := (seqS (ifS (bT (binE opLt (binE opMod (binE opSubs (varE 4) (kE (.int 0))) (kE (.int 8))) (kE (.int 5)))) m_law_does_0 skipS)
    (seqS (asgS (matE (binE opMod (binE opSubs (varE 4) (kE (.int 1))) (binE opSubs (lstE (consA (matE (kE (.int 10))) (consA (matE (kE (.int 3))) nilA))) (binE opMod (binE opDiv (varE 5) (kE (.int 720))) (kE (.int 2)))))) (nmG 9))
    (seqS (asgS (matE (methE 0 "out" F_Gate_out (varE 0) (consA (matE (varE 9)) nilA))) (nmG 8))
    (seqS (ifS (orT (notT (tstT (isiE "list" (varE 8)))) (bT (binE opNe (varE 8) (callF F_law_out (consA (matE (varE 1)) (consA (matE (varE 2)) (consA (matE (varE 9)) nilA))))))) (retS (matE (kE (.bl false)))) skipS)
    (seqS (dropS (bmE "list" lAppend (varE 8) (tvs (consA (matE (kE (.int 1))) nilA))))
    (retS (matE (kE (.bl true)))))))))
def F_law_does : FnSem := fnM 10 m_law_does
abbrev s_Gate_waits : Stmt := inClass (top 1) 5
abbrev N_Gate_waits : List Str := ["self", "key"]
theorem sc_Gate_waits : FnScope N_Gate_waits ["self", "key"] (defScope s_Gate_waits) := ⟨rfl, rfl, rfl, by decide +kernel, rfl, by decide +kernel, by decide +kernel⟩
def m_Gate_waits : SMs := (retS (matE (callB bLen2 (consT (mget2E (fldE [0] "kept" (varE 0)) (varE 1) (matE (lstE nilA))) nilT))))
def F_Gate_waits : FnSem := fnM 2 m_Gate_waits
abbrev s_law_right : Stmt := top 9
abbrev N_law_right : List Str := ["_law_gate", "_law_row", "_law_kept", "_law_d"]
theorem sc_law_right : FnScope N_law_right ["_law_gate", "_law_row", "_law_kept"] (defScope s_law_right) := ⟨rfl, rfl, rfl, by decide +kernel, rfl, by decide +kernel, by decide +kernel⟩
def m_law_right_0 : SMs := (ifS (bT (binE opNe (methE 0 "waits" F_Gate_waits (varE 0) (consA (matE (callF F_law_key (consA (matE (varE 3)) nilA))) nilA)) (callB bLen2 (consT (mget2E (varE 2) (callF F_law_key (consA (matE (varE 3)) nilA)) (matE (lstE nilA))) nilT)))) (retS (matE (kE (.bl false)))) skipS)
def m_law_right : SMs := (seqS (ifS (orT (bT (binE opNe (methE 0 "waiting" F_Gate_waiting (varE 0) nilA) (varE 1))) (notT (tstT (isiE "list" (methE 0 "waiting" F_Gate_waiting (varE 0) nilA))))) (retS (matE (kE (.bl false)))) skipS)
    (seqS (forS (fun env => bindM ((consT (kE (.int 15)) nilT) env) rng1) (nmG 3) m_law_right_0)
    (seqS (dropS (bmE "list" lAppend (methE 0 "waiting" F_Gate_waiting (varE 0) nilA) (tvs (consA (matE (kE (.int 1))) nilA))))
    (retS (matE (binE opEq (methE 0 "waiting" F_Gate_waiting (varE 0) nilA) (varE 1)))))))
def F_law_right : FnSem := fnM 4 m_law_right
abbrev s_law : Stmt := top 11
abbrev N_law : List Str := ["_law_script", "_law_first", "_law_places", "_law_gates", "_law_rows", "_law_kept", "_law_cell", "_law_ds", "_law_at", "_law_k"]
theorem sc_law : FnScope N_law ["_law_script"] (defScope s_law) := ⟨rfl, rfl, rfl, by decide +kernel, rfl, by decide +kernel, by decide +kernel⟩
def m_law_0 : SMs := (ifS (notT (tstT (callF F_law_right (consA (matE (binE opSubs (varE 3) (varE 9))) (consA (matE (binE opSubs (varE 4) (varE 9))) (consA (matE (binE opSubs (varE 5) (varE 9))) nilA)))))) (retS (matE (kE (.bl false)))) skipS)
def m_law_1 : SMs := (seqS (asgS (matE (callF F_law_digits (consA (matE (varE 6)) (consA (matE (kE (.int 10007))) (consA (matE (kE (.int 6))) nilA))))) (nmG 7))
    (seqS (asgS (matE (callB bInt (consT (binE opEq (binE opMod (binE opSubs (varE 7) (kE (.int 5))) (kE (.int 4))) (kE (.int 0))) nilT))) (nmG 8))
    (seqS (ifS (notT (tstT (callF F_law_does (consA (matE (binE opSubs (varE 3) (varE 8))) (consA (matE (binE opSubs (varE 4) (varE 8))) (consA (matE (binE opSubs (varE 5) (varE 8))) (consA (matE (binE opSubs (varE 2) (varE 8))) (consA (matE (varE 7)) (consA (matE (varE 1)) nilA))))))))) (retS (matE (kE (.bl false)))) skipS)
    (forS (fun env => bindM ((consT (kE (.int 2)) nilT) env) rng1) (nmG 9) m_law_0))))
def m_law_2 : SMs := (seqS (ifS (bT (binE opNe (methE 0 "out" F_Gate_out (binE opSubs (varE 3) (varE 9)) (consA (matE (kE (.int 1000))) nilA)) (callF F_law_out (consA (matE (binE opSubs (varE 4) (varE 9))) (consA (matE (binE opSubs (varE 5) (varE 9))) (consA (matE (kE (.int 1000))) nilA)))))) (retS (matE (kE (.bl false)))) skipS)
    (ifS (orT (bT (binE opNe (methE 0 "out" F_Gate_out (binE opSubs (varE 3) (varE 9)) (consA (matE (kE (.int 5))) nilA)) (lstE nilA))) (bT (binE opNe (methE 0 "waiting" F_Gate_waiting (binE opSubs (varE 3) (varE 9)) nilA) (lstE nilA)))) (retS (matE (kE (.bl false)))) skipS))
def m_law : SMs := (seqS (asgS (matE (callF F_law_cell_at (consA (matE (varE 0)) (consA (matE (kE (.int 0))) nilA)))) (nmG 1))
    (seqS (asgS (matE (lstE (consA (matE (binE opAdd (kE (.int 1)) (binE opMod (varE 1) (kE (.int 16))))) (consA (matE (binE opAdd (kE (.int 1)) (binE opMod (binE opDiv (varE 1) (kE (.int 3))) (kE (.int 16))))) nilA)))) (nmG 2))
    (seqS (asgS (matE (lstE (consA (matE (makeE 0 F_Gate_init (consA (matE (binE opSubs (varE 2) (kE (.int 0)))) nilA))) (consA (matE (makeE 0 F_Gate_init (consA (matE (binE opSubs (varE 2) (kE (.int 1)))) nilA))) nilA)))) (nmG 3))
    (seqS (asgS (matE (lstE (consA (matE (lstE nilA)) (consA (matE (lstE nilA)) nilA)))) (nmG 4))
    (seqS (asgS (matE (lstE (consA (matE mixE) (consA (matE mixE) nilA)))) (nmG 5))
    (seqS (forS (seqI (sliceE (varE 0) (intP (kE (.int 1))) (intP (kE (.int 61))))) (nmG 6) m_law_1)
    (seqS (forS (fun env => bindM ((consT (kE (.int 2)) nilT) env) rng1) (nmG 9) m_law_2)
    (retS (matE (kE (.bl true)))))))))))
def F_law : FnSem := fnM 10 m_law
structure Tx (W : Wd) : Prop where
  t0 : True
  n_bool : W.mg "bool" = none
  n_int : W.mg "int" = none
  n_isinstance : W.mg "isinstance" = none
  n_len : W.mg "len" = none
  n_list : W.mg "list" = none
  n_range : W.mg "range" = none
  fd_places : FldOk W [0] "places"
  fd_kept : FldOk W [0] "kept"
  fd_line_up : FldOk W [0] "line_up"
set_option maxRecDepth 100000 in
theorem b_Gate_init {W : Wd} (T : Tx W)  : SB W ⟨N_Gate_init, defScope s_Gate_init, fun _ => true, 0, false⟩ (defBody s_Gate_init) m_Gate_init :=
  (sb_cons (ss_fld T.fd_places (se_var 0) (sd (se_var 1)))
    (sb_cons (ss_fld T.fd_kept (se_var 0) (sd se_mix))
    (sb_one (ss_fld T.fd_line_up (se_var 0) (sd (se_lst sa_nil))))))
set_option maxRecDepth 100000 in
theorem b_Gate_give {W : Wd} (T : Tx W)  : SB W ⟨N_Gate_give, defScope s_Gate_give, fun _ => true, 0, false⟩ (defBody s_Gate_give) m_Gate_give :=
  (sb_cons (ss_asg (sd (se_sub (se_fld T.fd_line_up (se_var 0)) se_int)) (sg_name 1))
    (sb_cons (ss_asg (sd (se_mpop (se_fld T.fd_kept (se_var 0)) (se_var 1))) (sg_name 2))
    (sb_cons (ss_fld T.fd_line_up (se_var 0) (sd (se_slice (se_fld T.fd_line_up (se_var 0)) (sp_some se_int) sp_none)))
    (sb_cons (ss_if (st_cmp o_gt (se_callB T.n_len b_len2 (st_cons (se_var 2) st_nil) PySem.boot_len) se_int) (sb_cons (ss_mput (se_fld T.fd_kept (se_var 0)) (se_var 1) (sd (se_slice (se_var 2) (sp_some se_int) sp_none)))
    (sb_one (ss_expr (se_bm PySem.F.plainAttrs_list PySem.F.slot_list_append PySem.F.type_list_append l_append (se_fld T.fd_line_up (se_var 0)) (sat_sa (sa_cons (sd (se_var 1)) sa_nil)))))) sb_nil)
    (sb_one (ss_ret (sd (se_sub (se_var 2) se_int))))))))
set_option maxRecDepth 100000 in
theorem b_Gate_out {W : Wd} (T : Tx W) (h_Gate_give : MethFn W 0 "give" 1 1 F_Gate_give) : SB W ⟨N_Gate_out, defScope s_Gate_out, fun _ => true, 1, false⟩ (defBody s_Gate_out) m_Gate_out :=
  (sb_cons (ss_asg (sd (se_lst sa_nil)) (sg_name 2))
    (sb_cons (ss_while (st_w (sw_and (st_cmp o_lt (se_callB T.n_len b_len2 (st_cons (se_var 2) st_nil) PySem.boot_len) (se_var 1)) (sw_and1 (st_cmp o_ne (se_fld T.fd_line_up (se_var 0)) (se_lst sa_nil))))) (sb_one (ss_expr (se_bm PySem.F.plainAttrs_list PySem.F.slot_list_append PySem.F.type_list_append l_append (se_var 2) (sat_sa (sa_cons (sd (se_meth0 h_Gate_give (se_var 0))) sa_nil))))))
    (sb_one (ss_ret (sd (se_var 2))))))
set_option maxRecDepth 100000 in
theorem b_Gate_waiting {W : Wd} (T : Tx W)  : SB W ⟨N_Gate_waiting, defScope s_Gate_waiting, fun _ => true, 0, false⟩ (defBody s_Gate_waiting) m_Gate_waiting :=
  (sb_one (ss_ret (sd (se_callTy T.n_list b_list2 (st_cons (se_fld T.fd_line_up (se_var 0)) st_nil) PyProof.Rows.boot_list))))
set_option maxRecDepth 100000 in
theorem b_law_cell_at {W : Wd} (T : Tx W)  : SB W ⟨N_law_cell_at, defScope s_law_cell_at, fun _ => true, 0, false⟩ (defBody s_law_cell_at) m_law_cell_at :=
  (sb_cons (ss_if (st_cmp o_lt (se_var 1) (se_callB T.n_len b_len2 (st_cons (se_var 0) st_nil) PySem.boot_len)) (sb_one (ss_ret (sd (se_sub (se_var 0) (se_var 1))))) sb_nil)
    (sb_one (ss_ret (sd se_int))))
set_option maxRecDepth 100000 in
theorem b_law_digits {W : Wd} (T : Tx W)  : SB W ⟨N_law_digits, defScope s_law_digits, fun _ => true, 0, false⟩ (defBody s_law_digits) m_law_digits :=
  (sb_cons (ss_asg (sd (se_lst sa_nil)) (sg_name 3))
    (sb_cons (ss_asg (sd (se_bin o_mod (se_bin o_mulX (se_bin o_add (se_var 0) se_int) se_int) se_int)) (sg_name 4))
    (sb_cons (ss_asg (sd (se_bin o_div (se_var 0) se_int)) (sg_name 5))
    (sb_cons (ss_for (si_range1 T.n_range (st_cons (se_var 2) st_nil)) (sg_name 6) (sb_cons (ss_asg (sd (se_bin o_mod (se_bin o_mulX (se_bin o_add (se_bin o_add (se_var 4) (se_bin o_mulX se_int (se_var 6))) se_int) (se_bin o_add (se_bin o_div (se_var 4) se_int) se_int)) se_int)) (sg_name 4))
    (sb_cons (ss_expr (se_bm PySem.F.plainAttrs_list PySem.F.slot_list_append PySem.F.type_list_append l_append (se_var 3) (sat_sa (sa_cons (sd (se_sub (se_lst (sa_cons (sd (se_bin o_mod (se_bin o_div (se_var 4) se_int) (se_var 1))) (sa_cons (sd (se_bin o_mod (se_var 5) (se_var 1))) sa_nil))) (se_callTy T.n_int b_int (st_cons (se_and (se_cmp o_eq (se_bin o_mod (se_var 0) se_int) se_int) (se_one (se_cmp o_gt (se_var 5) se_int))) st_nil) PyProof.Rows.boot_int))) sa_nil))))
    (sb_one (ss_asg (sd (se_bin o_div (se_var 5) (se_var 1))) (sg_name 5))))))
    (sb_one (ss_ret (sd (se_var 3))))))))
set_option maxRecDepth 100000 in
theorem b_Gate_put {W : Wd} (T : Tx W)  : SB W ⟨N_Gate_put, defScope s_Gate_put, fun _ => true, 0, false⟩ (defBody s_Gate_put) m_Gate_put :=
  (sb_cons (ss_asg (sd (se_mget2 (se_fld T.fd_kept (se_var 0)) (se_var 1) (sd (se_lst sa_nil)))) (sg_name 3))
    (sb_cons (ss_if (st_cmp o_in (se_var 2) (se_var 3)) (sb_one (ss_ret (sd se_bl))) sb_nil)
    (sb_cons (ss_if (st_cmp o_eq (se_callB T.n_len b_len2 (st_cons (se_var 3) st_nil) PySem.boot_len) (se_fld T.fd_places (se_var 0))) (sb_one (ss_ret (sd se_bl))) sb_nil)
    (sb_cons (ss_if (st_cmp o_eq (se_var 3) (se_lst sa_nil)) (sb_one (ss_expr (se_bm PySem.F.plainAttrs_list PySem.F.slot_list_append PySem.F.type_list_append l_append (se_fld T.fd_line_up (se_var 0)) (sat_sa (sa_cons (sd (se_var 1)) sa_nil))))) sb_nil)
    (sb_cons (ss_mput (se_fld T.fd_kept (se_var 0)) (se_var 1) (sd (se_bin o_add (se_var 3) (se_lst (sa_cons (sd (se_var 2)) sa_nil)))))
    (sb_one (ss_ret (sd se_bl))))))))
set_option maxRecDepth 100000 in
theorem b_law_key {W : Wd} (T : Tx W)  : SB W ⟨N_law_key, defScope s_law_key, fun _ => true, 0, false⟩ (defBody s_law_key) m_law_key :=
  (sb_cons (ss_asg (sd (se_lst (sa_cons (sd (se_tup (sa_cons (sd se_int) (sa_cons (sd se_int) (sa_cons (sd se_str) sa_nil))))) (sa_cons (sd (se_tup (sa_cons (sd se_int) (sa_cons (sd se_int) (sa_cons (sd se_str) sa_nil))))) (sa_cons (sd (se_tup (sa_cons (sd se_int) (sa_cons (sd se_int) sa_nil)))) (sa_cons (sd se_str) (sa_cons (sd se_int) (sa_cons (sd se_str) (sa_cons (sd (se_tup (sa_cons (sd se_int) (sa_cons (sd se_int) (sa_cons (sd se_str) sa_nil))))) (sa_cons (sd (se_tup (sa_cons (sd se_int) (sa_cons (sd (se_tup (sa_cons (sd se_int) (sa_cons (sd se_str) sa_nil)))) sa_nil)))) sa_nil)))))))))) (sg_name 1))
    (sb_one (ss_ret (sd (se_sub (se_bin o_add (se_var 1) (se_lst (sa_cons (sd se_int) (sa_cons (sd se_str) (sa_cons (sd se_str) (sa_cons (sd (se_tup (sa_cons (sd se_int) (sa_cons (sd se_str) sa_nil)))) (sa_cons (sd (se_tup (sa_cons (sd se_str) (sa_cons (sd (se_tup (sa_cons (sd se_int) (sa_cons (sd se_int) sa_nil)))) sa_nil)))) (sa_cons (sd (se_tup (sa_cons (sd se_int) (sa_cons (sd se_int) (sa_cons (sd se_str) sa_nil))))) (sa_cons (sd (se_tup (sa_cons (sd (se_tup (sa_cons (sd se_int) (sa_cons (sd se_int) sa_nil)))) (sa_cons (sd se_str) sa_nil)))) sa_nil))))))))) (se_bin o_mod (se_var 0) se_int))))))
set_option maxRecDepth 100000 in
theorem b_law_out {W : Wd} (T : Tx W)  : SB W ⟨N_law_out, defScope s_law_out, fun _ => true, 0, false⟩ (defBody s_law_out) m_law_out :=
  (sb_cons (ss_asg (sd (se_lst sa_nil)) (sg_name 3))
    (sb_cons (ss_for (si_range1 T.n_range (st_cons (se_var 2) st_nil)) (sg_name 4) (sb_one (ss_if (st_cmp o_ne (se_var 0) (se_lst sa_nil)) (sb_cons (ss_asg (sd (se_bm PySem.F.plainAttrs_list PySem.F.slot_list_pop PySem.F.type_list_pop l_popAt (se_var 0) (sat_sa (sa_cons (sd se_int) sa_nil)))) (sg_name 5))
    (sb_cons (ss_expr (se_bm PySem.F.plainAttrs_list PySem.F.slot_list_append PySem.F.type_list_append l_append (se_var 3) (sat_sa (sa_cons (sd (se_sub (se_mitem (se_var 1) (se_var 5)) se_int)) sa_nil))))
    (sb_cons (ss_mput (se_var 1) (se_var 5) (sd (se_slice (se_mitem (se_var 1) (se_var 5)) (sp_some se_int) sp_none)))
    (sb_one (ss_if (st_cmp o_ne (se_mitem (se_var 1) (se_var 5)) (se_lst sa_nil)) (sb_one (ss_expr (se_bm PySem.F.plainAttrs_list PySem.F.slot_list_append PySem.F.type_list_append l_append (se_var 0) (sat_sa (sa_cons (sd (se_var 5)) sa_nil))))) sb_nil))))) sb_nil)))
    (sb_one (ss_ret (sd (se_var 3))))))
set_option maxRecDepth 100000 in
theorem b_law_parcel {W : Wd} (T : Tx W)  : SB W ⟨N_law_parcel, defScope s_law_parcel, fun _ => true, 0, false⟩ (defBody s_law_parcel) m_law_parcel :=
  (sb_cons (ss_asg (sd (se_sub se_str (se_bin o_mod (se_var 0) se_int))) (sg_name 2))
    (sb_one (ss_ret (sd (se_tup (sa_cons (sd (se_bin o_mod (se_var 0) se_int)) (sa_cons (sd (se_bin o_mod (se_var 0) se_int)) (sa_cons (sd (se_var 1)) (sa_cons (sd (se_tup (sa_cons (sd se_str) (sa_cons (sd (se_bin o_mod (se_var 0) se_int)) (sa_cons (sd (se_tup (sa_cons (sd se_str) (sa_cons (sd (se_var 2)) sa_nil)))) sa_nil))))) sa_nil)))))))))
set_option maxRecDepth 100000 in
theorem b_law_put {W : Wd} (T : Tx W)  : SB W ⟨N_law_put, defScope s_law_put, fun _ => true, 0, false⟩ (defBody s_law_put) m_law_put :=
  (sb_cons (ss_asg (sd (se_mget2 (se_var 1) (se_var 3) (sd (se_lst sa_nil)))) (sg_name 5))
    (sb_cons (ss_if (st_cmp o_in (se_var 4) (se_var 5)) (sb_one (ss_ret (sd se_bl))) sb_nil)
    (sb_cons (ss_if (st_cmp o_ge (se_callB T.n_len b_len2 (st_cons (se_var 5) st_nil) PySem.boot_len) (se_var 2)) (sb_one (ss_ret (sd se_bl))) sb_nil)
    (sb_cons (ss_if (st_cmp o_eq (se_var 5) (se_lst sa_nil)) (sb_one (ss_expr (se_bm PySem.F.plainAttrs_list PySem.F.slot_list_append PySem.F.type_list_append l_append (se_var 0) (sat_sa (sa_cons (sd (se_var 3)) sa_nil))))) sb_nil)
    (sb_cons (ss_mput (se_var 1) (se_var 3) (sd (se_bin o_add (se_var 5) (se_lst (sa_cons (sd (se_var 4)) sa_nil)))))
    (sb_one (ss_ret (sd se_bl))))))))
set_option maxRecDepth 100000 in
theorem b_law_does {W : Wd} (T : Tx W) (h_Gate_out : MethFn W 0 "out" 2 2 F_Gate_out) (h_Gate_put : MethFn W 0 "put" 1 3 F_Gate_put) (c_law_key : Fn W "_law_key" 1 1 F_law_key) (c_law_out : Fn W "_law_out" 1 3 F_law_out) (c_law_parcel : Fn W "_law_parcel" 1 2 F_law_parcel) (c_law_put : Fn W "_law_put" 1 5 F_law_put) : SB W ⟨N_law_does, defScope s_law_does, fun _ => true, 2, false⟩ (defBody s_law_does) m_law_does :=
  (sb_cons (ss_if (st_cmp o_lt (se_bin o_mod (se_sub (se_var 4) se_int) se_int) se_int) (sb_cons (ss_asg (sd (se_call c_law_key (sa_cons (sd (se_bin o_mod (se_sub (se_var 4) se_int) (se_bin o_add se_int (se_bin o_mod (se_bin o_div (se_var 5) se_int) se_int)))) sa_nil))) (sg_name 6))
    (sb_cons (ss_asg (sd (se_call c_law_parcel (sa_cons (sd (se_bin o_mod (se_sub (se_var 4) se_int) (se_sub (se_lst (sa_cons (sd se_int) (sa_cons (sd se_int) (sa_cons (sd se_int) sa_nil)))) (se_bin o_mod (se_bin o_div (se_var 5) se_int) se_int)))) (sa_cons (sd (se_bin o_mod (se_sub (se_var 4) se_int) (se_sub (se_lst (sa_cons (sd se_int) (sa_cons (sd se_int) sa_nil))) (se_bin o_mod (se_sub (se_var 4) se_int) se_int)))) sa_nil)))) (sg_name 7))
    (sb_cons (ss_asg (sd (se_meth h_Gate_put (se_var 0) (sa_cons (sd (se_var 6)) (sa_cons (sd (se_var 7)) sa_nil)))) (sg_name 8))
    (sb_one (ss_ret (sd (se_and (se_isi T.n_isinstance T.n_bool (se_var 8)) (se_one (se_cmp o_eq (se_var 8) (se_call c_law_put (sa_cons (sd (se_var 1)) (sa_cons (sd (se_var 2)) (sa_cons (sd (se_var 3)) (sa_cons (sd (se_var 6)) (sa_cons (sd (se_var 7)) sa_nil))))))))))))))) sb_nil)
    (sb_cons (ss_asg (sd (se_bin o_mod (se_sub (se_var 4) se_int) (se_sub (se_lst (sa_cons (sd se_int) (sa_cons (sd se_int) sa_nil))) (se_bin o_mod (se_bin o_div (se_var 5) se_int) se_int)))) (sg_name 9))
    (sb_cons (ss_asg (sd (se_meth h_Gate_out (se_var 0) (sa_cons (sd (se_var 9)) sa_nil))) (sg_name 8))
    (sb_cons (ss_if (st_w (sw_or (st_not (st_val (se_isi T.n_isinstance T.n_list (se_var 8)))) (sw_or1 (st_cmp o_ne (se_var 8) (se_call c_law_out (sa_cons (sd (se_var 1)) (sa_cons (sd (se_var 2)) (sa_cons (sd (se_var 9)) sa_nil)))))))) (sb_one (ss_ret (sd se_bl))) sb_nil)
    (sb_cons (ss_expr (se_bm PySem.F.plainAttrs_list PySem.F.slot_list_append PySem.F.type_list_append l_append (se_var 8) (sat_sa (sa_cons (sd se_int) sa_nil))))
    (sb_one (ss_ret (sd se_bl))))))))
set_option maxRecDepth 100000 in
theorem b_Gate_waits {W : Wd} (T : Tx W)  : SB W ⟨N_Gate_waits, defScope s_Gate_waits, fun _ => true, 0, false⟩ (defBody s_Gate_waits) m_Gate_waits :=
  (sb_one (ss_ret (sd (se_callB T.n_len b_len2 (st_cons (se_mget2 (se_fld T.fd_kept (se_var 0)) (se_var 1) (sd (se_lst sa_nil))) st_nil) PySem.boot_len))))
set_option maxRecDepth 100000 in
theorem b_law_right {W : Wd} (T : Tx W) (h_Gate_waiting : MethFn W 0 "waiting" 1 1 F_Gate_waiting) (c_law_key : Fn W "_law_key" 1 1 F_law_key) (h_Gate_waits : MethFn W 0 "waits" 1 2 F_Gate_waits) : SB W ⟨N_law_right, defScope s_law_right, fun _ => true, 1, false⟩ (defBody s_law_right) m_law_right :=
  (sb_cons (ss_if (st_w (sw_or (st_cmp o_ne (se_meth0 h_Gate_waiting (se_var 0)) (se_var 1)) (sw_or1 (st_not (st_val (se_isi T.n_isinstance T.n_list (se_meth0 h_Gate_waiting (se_var 0)))))))) (sb_one (ss_ret (sd se_bl))) sb_nil)
    (sb_cons (ss_for (si_range1 T.n_range (st_cons se_int st_nil)) (sg_name 3) (sb_one (ss_if (st_cmp o_ne (se_meth h_Gate_waits (se_var 0) (sa_cons (sd (se_call c_law_key (sa_cons (sd (se_var 3)) sa_nil))) sa_nil)) (se_callB T.n_len b_len2 (st_cons (se_mget2 (se_var 2) (se_call c_law_key (sa_cons (sd (se_var 3)) sa_nil)) (sd (se_lst sa_nil))) st_nil) PySem.boot_len)) (sb_one (ss_ret (sd se_bl))) sb_nil)))
    (sb_cons (ss_expr (se_bm PySem.F.plainAttrs_list PySem.F.slot_list_append PySem.F.type_list_append l_append (se_meth0 h_Gate_waiting (se_var 0)) (sat_sa (sa_cons (sd se_int) sa_nil))))
    (sb_one (ss_ret (sd (se_cmp o_eq (se_meth0 h_Gate_waiting (se_var 0)) (se_var 1))))))))
set_option maxRecDepth 100000 in
theorem b_law {W : Wd} (T : Tx W) (g_Gate : MakeFn W "Gate" 0 1 2 F_Gate_init) (h_Gate_out : MethFn W 0 "out" 2 2 F_Gate_out) (h_Gate_waiting : MethFn W 0 "waiting" 1 1 F_Gate_waiting) (c_law_cell_at : Fn W "_law_cell_at" 1 2 F_law_cell_at) (c_law_digits : Fn W "_law_digits" 1 3 F_law_digits) (c_law_out : Fn W "_law_out" 1 3 F_law_out) (c_law_does : Fn W "_law_does" 3 6 F_law_does) (c_law_right : Fn W "_law_right" 2 3 F_law_right) : SB W ⟨N_law, defScope s_law, fun _ => true, 3, false⟩ (defBody s_law) m_law :=
  (sb_cons (ss_asg (sd (se_call c_law_cell_at (sa_cons (sd (se_var 0)) (sa_cons (sd se_int) sa_nil)))) (sg_name 1))
    (sb_cons (ss_asg (sd (se_lst (sa_cons (sd (se_bin o_add se_int (se_bin o_mod (se_var 1) se_int))) (sa_cons (sd (se_bin o_add se_int (se_bin o_mod (se_bin o_div (se_var 1) se_int) se_int))) sa_nil)))) (sg_name 2))
    (sb_cons (ss_asg (sd (se_lst (sa_cons (sd (se_make g_Gate (sa_cons (sd (se_sub (se_var 2) se_int)) sa_nil))) (sa_cons (sd (se_make g_Gate (sa_cons (sd (se_sub (se_var 2) se_int)) sa_nil))) sa_nil)))) (sg_name 3))
    (sb_cons (ss_asg (sd (se_lst (sa_cons (sd (se_lst sa_nil)) (sa_cons (sd (se_lst sa_nil)) sa_nil)))) (sg_name 4))
    (sb_cons (ss_asg (sd (se_lst (sa_cons (sd se_mix) (sa_cons (sd se_mix) sa_nil)))) (sg_name 5))
    (sb_cons (ss_for (si_seq (se_slice (se_var 0) (sp_some se_int) (sp_some se_int))) (sg_name 6) (sb_cons (ss_asg (sd (se_call c_law_digits (sa_cons (sd (se_var 6)) (sa_cons (sd se_int) (sa_cons (sd se_int) sa_nil))))) (sg_name 7))
    (sb_cons (ss_asg (sd (se_callTy T.n_int b_int (st_cons (se_cmp o_eq (se_bin o_mod (se_sub (se_var 7) se_int) se_int) se_int) st_nil) PyProof.Rows.boot_int)) (sg_name 8))
    (sb_cons (ss_if (st_not (st_val (se_call c_law_does (sa_cons (sd (se_sub (se_var 3) (se_var 8))) (sa_cons (sd (se_sub (se_var 4) (se_var 8))) (sa_cons (sd (se_sub (se_var 5) (se_var 8))) (sa_cons (sd (se_sub (se_var 2) (se_var 8))) (sa_cons (sd (se_var 7)) (sa_cons (sd (se_var 1)) sa_nil))))))))) (sb_one (ss_ret (sd se_bl))) sb_nil)
    (sb_one (ss_for (si_range1 T.n_range (st_cons se_int st_nil)) (sg_name 9) (sb_one (ss_if (st_not (st_val (se_call c_law_right (sa_cons (sd (se_sub (se_var 3) (se_var 9))) (sa_cons (sd (se_sub (se_var 4) (se_var 9))) (sa_cons (sd (se_sub (se_var 5) (se_var 9))) sa_nil)))))) (sb_one (ss_ret (sd se_bl))) sb_nil))))))))
    (sb_cons (ss_for (si_range1 T.n_range (st_cons se_int st_nil)) (sg_name 9) (sb_cons (ss_if (st_cmp o_ne (se_meth h_Gate_out (se_sub (se_var 3) (se_var 9)) (sa_cons (sd se_int) sa_nil)) (se_call c_law_out (sa_cons (sd (se_sub (se_var 4) (se_var 9))) (sa_cons (sd (se_sub (se_var 5) (se_var 9))) (sa_cons (sd se_int) sa_nil))))) (sb_one (ss_ret (sd se_bl))) sb_nil)
    (sb_one (ss_if (st_w (sw_or (st_cmp o_ne (se_meth h_Gate_out (se_sub (se_var 3) (se_var 9)) (sa_cons (sd se_int) sa_nil)) (se_lst sa_nil)) (sw_or1 (st_cmp o_ne (se_meth0 h_Gate_waiting (se_sub (se_var 3) (se_var 9))) (se_lst sa_nil))))) (sb_one (ss_ret (sd se_bl))) sb_nil))))
    (sb_one (ss_ret (sd se_bl))))))))))
theorem all_mk {l : PySem.W.OpenLaw} {w : World} {K : PySem.W.Frag} {h : Heap} {mg : Str → Option Value} {fa : Addr} (X : K.In h) (G : h.Ns mainGlobals mg) (hfa : mg "law" = some (.ref fa))
    {C_Gate : Addr} (ac_Gate : PySem.W.nsIn K mainGlobals "Gate" = some (some (.ref C_Gate)))
    (pg_Gate : PySem.W.plainGet K C_Gate Str.empty = true) (hd_Gate : PySem.W.hasDictIn K C_Gate = true) (po_Gate : PySem.W.plainOver K C_Gate = true) (sa_Gate : PySem.W.findIn K (.ref C_Gate) "__setattr__" = some (some (.builtin "object.__setattr__")))
    (mk_Gate : PySem.W.makesIn K C_Gate = true) (kc_Gate : PySem.W.keepIn K (.ref C_Gate) = true)
    (nf_places_Gate : PySem.W.findIn K (.ref C_Gate) "places" = some none)
    (nf_kept_Gate : PySem.W.findIn K (.ref C_Gate) "kept" = some none)
    (nf_line_up_Gate : PySem.W.findIn K (.ref C_Gate) "line_up" = some none)
    {f0 : Addr} {oc0 : Value} {od0 : Option Addr} {kV0 dc0 pm0 : Value} {an0 : Option Addr} {cd0 ct0 : Value} {sl0 : Array (Option Value)} (a0 : PySem.W.findIn K (.ref C_Gate) "__init__" = some (some (.ref f0))) (i0 : PySem.W.isFn K (.ref f0) = true) (l0 : K.lookup f0 = some ⟨oc0, od0, .func (PySem.W.fnOf "__init__" "Gate.__init__" (defArgs s_Gate_init) (defBody s_Gate_init) (defScope s_Gate_init) .none kV0 dc0 pm0 an0 cd0 ct0), sl0⟩) (c0 : PySem.W.codeIn K cd0 "Gate.__init__" = true) (k0 : PySem.W.keepIn K (.ref f0) = true)
    {f1 : Addr} {oc1 : Value} {od1 : Option Addr} {kV1 dc1 pm1 : Value} {an1 : Option Addr} {cd1 ct1 : Value} {sl1 : Array (Option Value)} (a1 : PySem.W.findIn K (.ref C_Gate) "give" = some (some (.ref f1))) (i1 : PySem.W.isFn K (.ref f1) = true) (l1 : K.lookup f1 = some ⟨oc1, od1, .func (PySem.W.fnOf "give" "Gate.give" (defArgs s_Gate_give) (defBody s_Gate_give) (defScope s_Gate_give) .none kV1 dc1 pm1 an1 cd1 ct1), sl1⟩) (c1 : PySem.W.codeIn K cd1 "Gate.give" = true) (k1 : PySem.W.keepIn K (.ref f1) = true)
    {f2 : Addr} {oc2 : Value} {od2 : Option Addr} {kV2 dc2 pm2 : Value} {an2 : Option Addr} {cd2 ct2 : Value} {sl2 : Array (Option Value)} (a2 : PySem.W.findIn K (.ref C_Gate) "out" = some (some (.ref f2))) (i2 : PySem.W.isFn K (.ref f2) = true) (l2 : K.lookup f2 = some ⟨oc2, od2, .func (PySem.W.fnOf "out" "Gate.out" (defArgs s_Gate_out) (defBody s_Gate_out) (defScope s_Gate_out) .none kV2 dc2 pm2 an2 cd2 ct2), sl2⟩) (c2 : PySem.W.codeIn K cd2 "Gate.out" = true) (k2 : PySem.W.keepIn K (.ref f2) = true)
    {f3 : Addr} {oc3 : Value} {od3 : Option Addr} {kV3 dc3 pm3 : Value} {an3 : Option Addr} {cd3 ct3 : Value} {sl3 : Array (Option Value)} (a3 : PySem.W.findIn K (.ref C_Gate) "waiting" = some (some (.ref f3))) (i3 : PySem.W.isFn K (.ref f3) = true) (l3 : K.lookup f3 = some ⟨oc3, od3, .func (PySem.W.fnOf "waiting" "Gate.waiting" (defArgs s_Gate_waiting) (defBody s_Gate_waiting) (defScope s_Gate_waiting) .none kV3 dc3 pm3 an3 cd3 ct3), sl3⟩) (c3 : PySem.W.codeIn K cd3 "Gate.waiting" = true) (k3 : PySem.W.keepIn K (.ref f3) = true)
    {f4 : Addr} {oc4 : Value} {od4 : Option Addr} {kV4 dc4 pm4 : Value} {an4 : Option Addr} {cd4 ct4 : Value} {sl4 : Array (Option Value)} (a4 : PySem.W.nsIn K mainGlobals "_law_cell_at" = some (some (.ref f4))) (l4 : K.lookup f4 = some ⟨oc4, od4, .func (PySem.W.fnOf "_law_cell_at" "_law_cell_at" (defArgs s_law_cell_at) (defBody s_law_cell_at) (defScope s_law_cell_at) .none kV4 dc4 pm4 an4 cd4 ct4), sl4⟩) (c4 : PySem.W.codeIn K cd4 "_law_cell_at" = true) (k4 : PySem.W.keepIn K (.ref f4) = true)
    {f5 : Addr} {oc5 : Value} {od5 : Option Addr} {kV5 dc5 pm5 : Value} {an5 : Option Addr} {cd5 ct5 : Value} {sl5 : Array (Option Value)} (a5 : PySem.W.nsIn K mainGlobals "_law_digits" = some (some (.ref f5))) (l5 : K.lookup f5 = some ⟨oc5, od5, .func (PySem.W.fnOf "_law_digits" "_law_digits" (defArgs s_law_digits) (defBody s_law_digits) (defScope s_law_digits) .none kV5 dc5 pm5 an5 cd5 ct5), sl5⟩) (c5 : PySem.W.codeIn K cd5 "_law_digits" = true) (k5 : PySem.W.keepIn K (.ref f5) = true)
    {f6 : Addr} {oc6 : Value} {od6 : Option Addr} {kV6 dc6 pm6 : Value} {an6 : Option Addr} {cd6 ct6 : Value} {sl6 : Array (Option Value)} (a6 : PySem.W.findIn K (.ref C_Gate) "put" = some (some (.ref f6))) (i6 : PySem.W.isFn K (.ref f6) = true) (l6 : K.lookup f6 = some ⟨oc6, od6, .func (PySem.W.fnOf "put" "Gate.put" (defArgs s_Gate_put) (defBody s_Gate_put) (defScope s_Gate_put) .none kV6 dc6 pm6 an6 cd6 ct6), sl6⟩) (c6 : PySem.W.codeIn K cd6 "Gate.put" = true) (k6 : PySem.W.keepIn K (.ref f6) = true)
    {f7 : Addr} {oc7 : Value} {od7 : Option Addr} {kV7 dc7 pm7 : Value} {an7 : Option Addr} {cd7 ct7 : Value} {sl7 : Array (Option Value)} (a7 : PySem.W.nsIn K mainGlobals "_law_key" = some (some (.ref f7))) (l7 : K.lookup f7 = some ⟨oc7, od7, .func (PySem.W.fnOf "_law_key" "_law_key" (defArgs s_law_key) (defBody s_law_key) (defScope s_law_key) .none kV7 dc7 pm7 an7 cd7 ct7), sl7⟩) (c7 : PySem.W.codeIn K cd7 "_law_key" = true) (k7 : PySem.W.keepIn K (.ref f7) = true)
    {f8 : Addr} {oc8 : Value} {od8 : Option Addr} {kV8 dc8 pm8 : Value} {an8 : Option Addr} {cd8 ct8 : Value} {sl8 : Array (Option Value)} (a8 : PySem.W.nsIn K mainGlobals "_law_out" = some (some (.ref f8))) (l8 : K.lookup f8 = some ⟨oc8, od8, .func (PySem.W.fnOf "_law_out" "_law_out" (defArgs s_law_out) (defBody s_law_out) (defScope s_law_out) .none kV8 dc8 pm8 an8 cd8 ct8), sl8⟩) (c8 : PySem.W.codeIn K cd8 "_law_out" = true) (k8 : PySem.W.keepIn K (.ref f8) = true)
    {f9 : Addr} {oc9 : Value} {od9 : Option Addr} {kV9 dc9 pm9 : Value} {an9 : Option Addr} {cd9 ct9 : Value} {sl9 : Array (Option Value)} (a9 : PySem.W.nsIn K mainGlobals "_law_parcel" = some (some (.ref f9))) (l9 : K.lookup f9 = some ⟨oc9, od9, .func (PySem.W.fnOf "_law_parcel" "_law_parcel" (defArgs s_law_parcel) (defBody s_law_parcel) (defScope s_law_parcel) .none kV9 dc9 pm9 an9 cd9 ct9), sl9⟩) (c9 : PySem.W.codeIn K cd9 "_law_parcel" = true) (k9 : PySem.W.keepIn K (.ref f9) = true)
    {f10 : Addr} {oc10 : Value} {od10 : Option Addr} {kV10 dc10 pm10 : Value} {an10 : Option Addr} {cd10 ct10 : Value} {sl10 : Array (Option Value)} (a10 : PySem.W.nsIn K mainGlobals "_law_put" = some (some (.ref f10))) (l10 : K.lookup f10 = some ⟨oc10, od10, .func (PySem.W.fnOf "_law_put" "_law_put" (defArgs s_law_put) (defBody s_law_put) (defScope s_law_put) .none kV10 dc10 pm10 an10 cd10 ct10), sl10⟩) (c10 : PySem.W.codeIn K cd10 "_law_put" = true) (k10 : PySem.W.keepIn K (.ref f10) = true)
    {f11 : Addr} {oc11 : Value} {od11 : Option Addr} {kV11 dc11 pm11 : Value} {an11 : Option Addr} {cd11 ct11 : Value} {sl11 : Array (Option Value)} (a11 : PySem.W.nsIn K mainGlobals "_law_does" = some (some (.ref f11))) (l11 : K.lookup f11 = some ⟨oc11, od11, .func (PySem.W.fnOf "_law_does" "_law_does" (defArgs s_law_does) (defBody s_law_does) (defScope s_law_does) .none kV11 dc11 pm11 an11 cd11 ct11), sl11⟩) (c11 : PySem.W.codeIn K cd11 "_law_does" = true) (k11 : PySem.W.keepIn K (.ref f11) = true)
    {f12 : Addr} {oc12 : Value} {od12 : Option Addr} {kV12 dc12 pm12 : Value} {an12 : Option Addr} {cd12 ct12 : Value} {sl12 : Array (Option Value)} (a12 : PySem.W.findIn K (.ref C_Gate) "waits" = some (some (.ref f12))) (i12 : PySem.W.isFn K (.ref f12) = true) (l12 : K.lookup f12 = some ⟨oc12, od12, .func (PySem.W.fnOf "waits" "Gate.waits" (defArgs s_Gate_waits) (defBody s_Gate_waits) (defScope s_Gate_waits) .none kV12 dc12 pm12 an12 cd12 ct12), sl12⟩) (c12 : PySem.W.codeIn K cd12 "Gate.waits" = true) (k12 : PySem.W.keepIn K (.ref f12) = true)
    {f13 : Addr} {oc13 : Value} {od13 : Option Addr} {kV13 dc13 pm13 : Value} {an13 : Option Addr} {cd13 ct13 : Value} {sl13 : Array (Option Value)} (a13 : PySem.W.nsIn K mainGlobals "_law_right" = some (some (.ref f13))) (l13 : K.lookup f13 = some ⟨oc13, od13, .func (PySem.W.fnOf "_law_right" "_law_right" (defArgs s_law_right) (defBody s_law_right) (defScope s_law_right) .none kV13 dc13 pm13 an13 cd13 ct13), sl13⟩) (c13 : PySem.W.codeIn K cd13 "_law_right" = true) (k13 : PySem.W.keepIn K (.ref f13) = true)
    {f14 : Addr} {oc14 : Value} {od14 : Option Addr} {kV14 dc14 pm14 : Value} {an14 : Option Addr} {cd14 ct14 : Value} {sl14 : Array (Option Value)} (a14 : PySem.W.nsIn K mainGlobals "law" = some (some (.ref f14))) (l14 : K.lookup f14 = some ⟨oc14, od14, .func (PySem.W.fnOf "law" "law" (defArgs s_law) (defBody s_law) (defScope s_law) .none kV14 dc14 pm14 an14 cd14 ct14), sl14⟩) (c14 : PySem.W.codeIn K cd14 "law" = true) (k14 : PySem.W.keepIn K (.ref f14) = true)
    (z_bool : PySem.W.nsIn K mainGlobals "bool" = some none)
    (z_int : PySem.W.nsIn K mainGlobals "int" = some none)
    (z_isinstance : PySem.W.nsIn K mainGlobals "isinstance" = some none)
    (z_len : PySem.W.nsIn K mainGlobals "len" = some none)
    (z_list : PySem.W.nsIn K mainGlobals "list" = some none)
    (z_range : PySem.W.nsIn K mainGlobals "range" = some none) :
    ∃ (fd : FuncData) (cA : Nat → Addr), (∀ (s : Shared) (v : Value), BindsTo s fd ⟨[v], []⟩ [("_law_script", v)]) ∧ ∀ base : Heap, K.In base → base.Ns mainGlobals mg → FnOk l.prog w K mg base (L2.CX l.prog w) 4 fa fd ["_law_script"] (spOf ⟨l.prog, w, K, mg, base, cA, opX cA, []⟩ 1 F_law) := by
  have e := hfa.symm.trans (PySem.W.mg_of X G a14)
  cases e
  refine ⟨PySem.W.fnOf "law" "law" (defArgs s_law) (defBody s_law) (defScope s_law) .none kV14 dc14 pm14 an14 cd14 ct14, fun i => match i with | 0 => C_Gate | _ => 0, fun s v => .of_eq rfl, fun base X' G' => ?_⟩
  generalize hcA : (fun i => match i with | 0 => C_Gate | _ => 0 : Nat → Addr) = cA
  have e_Gate : cA 0 = C_Gate := by subst hcA; rfl
  have cl_Gate : Cls K (cA 0) := by rw [e_Gate]; exact ⟨pg_Gate, hd_Gate, po_Gate, sa_Gate⟩
  have T : Tx ⟨l.prog, w, K, mg, base, cA, opX cA, []⟩ := ⟨trivial, PySem.W.mg_none_of X G z_bool, PySem.W.mg_none_of X G z_int, PySem.W.mg_none_of X G z_isinstance, PySem.W.mg_none_of X G z_len, PySem.W.mg_none_of X G z_list, PySem.W.mg_none_of X G z_range, ⟨by intro c hc; simp only [List.mem_cons, List.not_mem_nil, or_false] at hc; (subst hc; exact ⟨cl_Gate, by show PySem.W.findIn K (.ref (cA 0)) _ = _; rw [e_Gate]; exact nf_places_Gate⟩)⟩, ⟨by intro c hc; simp only [List.mem_cons, List.not_mem_nil, or_false] at hc; (subst hc; exact ⟨cl_Gate, by show PySem.W.findIn K (.ref (cA 0)) _ = _; rw [e_Gate]; exact nf_kept_Gate⟩)⟩, ⟨by intro c hc; simp only [List.mem_cons, List.not_mem_nil, or_false] at hc; (subst hc; exact ⟨cl_Gate, by show PySem.W.findIn K (.ref (cA 0)) _ = _; rw [e_Gate]; exact nf_line_up_Gate⟩)⟩⟩
  have F0 := fun_mk (st := s_Gate_init) l0 c0 k0
  have g_Gate : MakeFn ⟨l.prog, w, K, mg, base, cA, opX cA, []⟩ "Gate" 0 1 2 F_Gate_init := ⟨f0, _, ["self", "places"], by show mg _ = some (.ref (cA 0)); rw [e_Gate]; exact PySem.W.mg_of X' G' ac_Gate, by show Mk K (cA 0) _; rw [e_Gate]; exact ⟨mk_Gate, a0, i0, kc_Gate⟩, F0.binds (fun _ _ _ _ _ _ us hl => match us, hl with | [_, _], _ => rfl), rfl, fn_ok F0 sc_Gate_init (b_Gate_init T )⟩
  have F1 := fun_mk (st := s_Gate_give) l1 c1 k1
  have h_Gate_give : MethFn ⟨l.prog, w, K, mg, base, cA, opX cA, []⟩ 0 "give" 1 1 F_Gate_give := ⟨f1, _, ["self"], cl_Gate, by show Meth K (cA 0) _ _; rw [e_Gate]; exact ⟨a1, i1, k1⟩, F1.binds (fun _ _ _ _ _ _ us hl => match us, hl with | [_], _ => rfl), rfl, fn_ok F1 sc_Gate_give (b_Gate_give T )⟩
  have F2 := fun_mk (st := s_Gate_out) l2 c2 k2
  have h_Gate_out : MethFn ⟨l.prog, w, K, mg, base, cA, opX cA, []⟩ 0 "out" 2 2 F_Gate_out := ⟨f2, _, ["self", "many"], cl_Gate, by show Meth K (cA 0) _ _; rw [e_Gate]; exact ⟨a2, i2, k2⟩, F2.binds (fun _ _ _ _ _ _ us hl => match us, hl with | [_, _], _ => rfl), rfl, fn_ok F2 sc_Gate_out (b_Gate_out T h_Gate_give)⟩
  have F3 := fun_mk (st := s_Gate_waiting) l3 c3 k3
  have h_Gate_waiting : MethFn ⟨l.prog, w, K, mg, base, cA, opX cA, []⟩ 0 "waiting" 1 1 F_Gate_waiting := ⟨f3, _, ["self"], cl_Gate, by show Meth K (cA 0) _ _; rw [e_Gate]; exact ⟨a3, i3, k3⟩, F3.binds (fun _ _ _ _ _ _ us hl => match us, hl with | [_], _ => rfl), rfl, fn_ok F3 sc_Gate_waiting (b_Gate_waiting T )⟩
  have F4 := fun_mk (st := s_law_cell_at) l4 c4 k4
  have c_law_cell_at : Fn ⟨l.prog, w, K, mg, base, cA, opX cA, []⟩ "_law_cell_at" 1 2 F_law_cell_at := ⟨f4, _, ["_law_script", "_law_k"], PySem.W.mg_of X' G' a4, k4, F4.binds (fun _ _ _ _ _ _ us hl => match us, hl with | [_, _], _ => rfl), rfl, fn_ok F4 sc_law_cell_at (b_law_cell_at T )⟩
  have F5 := fun_mk (st := s_law_digits) l5 c5 k5
  have c_law_digits : Fn ⟨l.prog, w, K, mg, base, cA, opX cA, []⟩ "_law_digits" 1 3 F_law_digits := ⟨f5, _, ["_law_cell", "_law_size", "_law_many"], PySem.W.mg_of X' G' a5, k5, F5.binds (fun _ _ _ _ _ _ us hl => match us, hl with | [_, _, _], _ => rfl), rfl, fn_ok F5 sc_law_digits (b_law_digits T )⟩
  have F6 := fun_mk (st := s_Gate_put) l6 c6 k6
  have h_Gate_put : MethFn ⟨l.prog, w, K, mg, base, cA, opX cA, []⟩ 0 "put" 1 3 F_Gate_put := ⟨f6, _, ["self", "key", "parcel"], cl_Gate, by show Meth K (cA 0) _ _; rw [e_Gate]; exact ⟨a6, i6, k6⟩, F6.binds (fun _ _ _ _ _ _ us hl => match us, hl with | [_, _, _], _ => rfl), rfl, fn_ok F6 sc_Gate_put (b_Gate_put T )⟩
  have F7 := fun_mk (st := s_law_key) l7 c7 k7
  have c_law_key : Fn ⟨l.prog, w, K, mg, base, cA, opX cA, []⟩ "_law_key" 1 1 F_law_key := ⟨f7, _, ["_law_d"], PySem.W.mg_of X' G' a7, k7, F7.binds (fun _ _ _ _ _ _ us hl => match us, hl with | [_], _ => rfl), rfl, fn_ok F7 sc_law_key (b_law_key T )⟩
  have F8 := fun_mk (st := s_law_out) l8 c8 k8
  have c_law_out : Fn ⟨l.prog, w, K, mg, base, cA, opX cA, []⟩ "_law_out" 1 3 F_law_out := ⟨f8, _, ["_law_row", "_law_kept", "_law_many"], PySem.W.mg_of X' G' a8, k8, F8.binds (fun _ _ _ _ _ _ us hl => match us, hl with | [_, _, _], _ => rfl), rfl, fn_ok F8 sc_law_out (b_law_out T )⟩
  have F9 := fun_mk (st := s_law_parcel) l9 c9 k9
  have c_law_parcel : Fn ⟨l.prog, w, K, mg, base, cA, opX cA, []⟩ "_law_parcel" 1 2 F_law_parcel := ⟨f9, _, ["_law_number", "_law_count"], PySem.W.mg_of X' G' a9, k9, F9.binds (fun _ _ _ _ _ _ us hl => match us, hl with | [_, _], _ => rfl), rfl, fn_ok F9 sc_law_parcel (b_law_parcel T )⟩
  have F10 := fun_mk (st := s_law_put) l10 c10 k10
  have c_law_put : Fn ⟨l.prog, w, K, mg, base, cA, opX cA, []⟩ "_law_put" 1 5 F_law_put := ⟨f10, _, ["_law_row", "_law_kept", "_law_places", "_law_key_here", "_law_parcel_here"], PySem.W.mg_of X' G' a10, k10, F10.binds (fun _ _ _ _ _ _ us hl => match us, hl with | [_, _, _, _, _], _ => rfl), rfl, fn_ok F10 sc_law_put (b_law_put T )⟩
  have F11 := fun_mk (st := s_law_does) l11 c11 k11
  have c_law_does : Fn ⟨l.prog, w, K, mg, base, cA, opX cA, []⟩ "_law_does" 3 6 F_law_does := ⟨f11, _, ["_law_gate", "_law_row", "_law_kept", "_law_places", "_law_ds", "_law_first"], PySem.W.mg_of X' G' a11, k11, F11.binds (fun _ _ _ _ _ _ us hl => match us, hl with | [_, _, _, _, _, _], _ => rfl), rfl, fn_ok F11 sc_law_does (b_law_does T h_Gate_out h_Gate_put c_law_key c_law_out c_law_parcel c_law_put)⟩
  have F12 := fun_mk (st := s_Gate_waits) l12 c12 k12
  have h_Gate_waits : MethFn ⟨l.prog, w, K, mg, base, cA, opX cA, []⟩ 0 "waits" 1 2 F_Gate_waits := ⟨f12, _, ["self", "key"], cl_Gate, by show Meth K (cA 0) _ _; rw [e_Gate]; exact ⟨a12, i12, k12⟩, F12.binds (fun _ _ _ _ _ _ us hl => match us, hl with | [_, _], _ => rfl), rfl, fn_ok F12 sc_Gate_waits (b_Gate_waits T )⟩
  have F13 := fun_mk (st := s_law_right) l13 c13 k13
  have c_law_right : Fn ⟨l.prog, w, K, mg, base, cA, opX cA, []⟩ "_law_right" 2 3 F_law_right := ⟨f13, _, ["_law_gate", "_law_row", "_law_kept"], PySem.W.mg_of X' G' a13, k13, F13.binds (fun _ _ _ _ _ _ us hl => match us, hl with | [_, _, _], _ => rfl), rfl, fn_ok F13 sc_law_right (b_law_right T h_Gate_waiting c_law_key h_Gate_waits)⟩
  exact fn_ok (fun_mk (st := s_law) l14 c14 k14) sc_law (b_law T g_Gate h_Gate_out h_Gate_waiting c_law_cell_at c_law_digits c_law_out c_law_does c_law_right)
theorem walk {l : PySem.W.OpenLaw} {q : Program} {loose : List Str} {XP : (Str → Option Value) → Heap → Prop} {YP : World → Heap → Prop} {d : DefRec} {K : Params → PySem.W.Frag} (hn : l.most = some 63) (hdf : d.params.defaults = [])
    (hlaw : ∀ ns : List Int, ns.length ≤ 63 → ∃ m', F_law [.clst (ns.map D.int)] [] = .ok (.bl true) m') (hY : ∀ (w : World) (h : Heap), YP w h → (K w.params).In h)
    (F : ∀ (w : World) (mg : Str → Option Value) (fa : Addr) (h : Heap), (K w.params).In h → h.Ns mainGlobals mg → mg d.name = some (.ref fa) →
      ∃ (fd : FuncData) (cA : Nat → Addr), (∀ (s : Shared) (u : Value), BindsTo s fd ⟨[u], []⟩ [("_law_script", u)]) ∧ ∀ base : Heap, (K w.params).In base → base.Ns mainGlobals mg → FnOk l.prog w (K w.params) mg base (L2.CX l.prog w) 4 fa fd ["_law_script"] (spOf ⟨l.prog, w, K w.params, mg, base, cA, opX cA, []⟩ 1 F_law)) :
    PySem.W.WalkO q loose XP YP l.row.toRowW d [] (fun f vs => PySem.call f vs) :=
  L2.walk_of (n := 63) (k := 4) (x := "_law_script") (CX := fun w => L2.CX l.prog w) (sp := fun w => spLaw (K w.params)) hn (by decide) hdf ⟨rfl, by decide, by decide⟩ hY
    (fun w mg fa h a b c => by
      obtain ⟨fd, cA, h1, h2⟩ := F w mg fa h a b c
      exact ⟨fd, h1, fun base x y => (h2 base x y).imp fun vs H Q E z => law_sp (W := ⟨l.prog, w, K w.params, mg, base, cA, opX cA, []⟩) hlaw vs H Q E z⟩)
    (fun _ H a ns hl ho hS => ⟨a, ns, rfl, ho, hS, hl, fun _ => rfl⟩) fun _ _ _ _ _ z => by
      obtain ⟨_, _, _, _, _, _, _, _, _, _, _, _, z⟩ := z
      exact z
end Law

set_option maxHeartbeats 1000000
namespace Law
open PySem L2 Mir
/-! ### runs of the words for dicts of mixed keys -/
def mgetZ (x y : TV) (dz : D) : M TV := fun m' => match mixAt m' x y with
  | some (_, kvs, k) => match getK kvs k with
    | some d => .ok (.d d) m'
    | none => .ok (.d dz) m'
  | none => .no
def mgetM (k : EM) (z : Mir.Env → M D) (env : Mir.Env) (x : TV) : M TV := fun m => if isMix m x = true then bindM (k env) (fun y => bindM (z env) (mgetZ x y)) m else .no
theorem mget2E_mk (o k : EM) (z : Mir.Env → M D) (env : Mir.Env) : mget2E o k z env = bindM (o env) (mgetM k z env) := rfl
def mpopY (x y : TV) : M TV := fun m' => match mixAt m' x y with
  | some (n, kvs, k) => match getK kvs k with
    | some d => .ok (.d d) (m'.set n (.mix (delK kvs k)))
    | none => .no
  | none => .no
def mpopM (k : EM) (env : Mir.Env) (x : TV) : M TV := fun m => if isMix m x = true then bindM (k env) (mpopY x) m else .no
theorem mpopE_mk (o k : EM) (env : Mir.Env) : mpopE o k env = bindM (o env) (mpopM k env) := rfl
theorem mputS_mk (o i : EM) (e : Mir.Env → M D) (env : Mir.Env) : mputS o i e env = bindM (e env) fun d => bindM (o env) fun x => bindM (i env) fun y => bindM (mput x y d) fun _ => okM (.nxt env) := rfl
theorem mixE_mk (env : Mir.Env) (m : Mem) : mixE env m = .ok (.d (.ref m.length)) (m ++ [.mix []]) := rfl
section
variable {m : Mem} {n : Nat} {kvs : List (NestedKey × D)} {y : D} {k : NestedKey}
theorem mixAt_ok (h : m[n]? = some (.mix kvs)) (hk : nkD y = some k) (hd : k.depth ≤ 8) : mixAt m (.d (.ref n)) (.d y) = some (n, kvs, k) := by
  unfold mixAt
  simp only [h, hk, hd, if_true]
theorem mgetM_ev (h : m[n]? = some (.mix kvs)) (e : EM) (z : Mir.Env → M D) (env : Mir.Env) : mgetM e z env (.d (.ref n)) m = bindM (e env) (fun y => bindM (z env) (mgetZ (.d (.ref n)) y)) m := by
  unfold mgetM isMix
  simp only [h, if_true]
theorem mpopM_ev (h : m[n]? = some (.mix kvs)) (e : EM) (env : Mir.Env) : mpopM e env (.d (.ref n)) m = bindM (e env) (mpopY (.d (.ref n))) m := by
  unfold mpopM isMix
  simp only [h, if_true]
theorem mgetZ_some {d dz : D} (h : m[n]? = some (.mix kvs)) (hk : nkD y = some k) (hd : k.depth ≤ 8) (g : getK kvs k = some d) : mgetZ (.d (.ref n)) (.d y) dz m = .ok (.d d) m := by
  unfold mgetZ
  simp only [mixAt_ok h hk hd, g]
theorem mgetZ_none {dz : D} (h : m[n]? = some (.mix kvs)) (hk : nkD y = some k) (hd : k.depth ≤ 8) (g : getK kvs k = none) : mgetZ (.d (.ref n)) (.d y) dz m = .ok (.d dz) m := by
  unfold mgetZ
  simp only [mixAt_ok h hk hd, g]
theorem mpopY_ok {d : D} (h : m[n]? = some (.mix kvs)) (hk : nkD y = some k) (hd : k.depth ≤ 8) (g : getK kvs k = some d) : mpopY (.d (.ref n)) (.d y) m = .ok (.d d) (m.set n (.mix (delK kvs k))) := by
  unfold mpopY
  simp only [mixAt_ok h hk hd, g]
theorem opMix_ok {d : D} (h : m[n]? = some (.mix kvs)) (hk : nkD y = some k) (hd : k.depth ≤ 8) (g : getK kvs k = some d) : opMix (.d (.ref n)) (.d y) m = .ok (.d d) m := by
  unfold opMix
  simp only [mixAt_ok h hk hd, g]
theorem mput_ok {d : D} (h : m[n]? = some (.mix kvs)) (hk : nkD y = some k) (hd : k.depth ≤ 8) (hz : kvs.length < sizeLine) : mput (.d (.ref n)) (.d y) d m = .ok () (m.set n (.mix (setK kvs k d))) := by
  unfold mput
  simp only [mixAt_ok h hk hd, hz, if_true]
end
/-! ### the keys -/
def kL : List D := [.tup [.int 0, .int 7, .str "piece"], .tup [.int 0, .int 7, .str "got"], .tup [.int 0, .int 7], .str "(0, 7)", .int 7, .str "7", .tup [.int 0, .int 7, .str "told"], .tup [.int 0, .tup [.int 7, .str "got"]], .int 0, .str "a", .str "ab", .tup [.int 0, .str "a"], .tup [.str "a", .tup [.int 0, .int 7]], .tup [.int 7, .int 0, .str "piece"], .tup [.tup [.int 0, .int 7], .str "piece"]]
def nL : List NestedKey := [.tup [.num 0, .num 7, .text "piece"], .tup [.num 0, .num 7, .text "got"], .tup [.num 0, .num 7], .text "(0, 7)", .num 7, .text "7", .tup [.num 0, .num 7, .text "told"], .tup [.num 0, .tup [.num 7, .text "got"]], .num 0, .text "a", .text "ab", .tup [.num 0, .text "a"], .tup [.text "a", .tup [.num 0, .num 7]], .tup [.num 7, .num 0, .text "piece"], .tup [.tup [.num 0, .num 7], .text "piece"]]
def kD (i : Nat) : D := (kL[i]?).getD .non
def nK (i : Nat) : NestedKey := (nL[i]?).getD .none
theorem k_nk : ∀ i, i < 15 → nkD (kD i) = some (nK i)
  | 0, _ | 1, _ | 2, _ | 3, _ | 4, _ | 5, _ | 6, _ | 7, _ | 8, _ | 9, _ | 10, _ | 11, _ | 12, _ | 13, _ | 14, _ => by simp [kD, nK, kL, nL, nkD, nkDs]
  | _ + 15, h => by omega
theorem n_dep : ∀ i, i < 15 → (nK i).depth ≤ 8 := fun i h => (show ∀ j : Fin 15, (nK j.1).depth ≤ 8 by decide +kernel) ⟨i, h⟩
theorem n_inj : ∀ i j, i < 15 → j < 15 → nK i = nK j → i = j := fun i j hi hj e => by
  have := (show ∀ a b : Fin 15, nK a.1 = nK b.1 → a.1 = b.1 by decide +kernel) ⟨i, hi⟩ ⟨j, hj⟩ e
  exact this
theorem k_ok : ∀ i, i < 15 → okD 7 (kD i)
  | 0, _ | 1, _ | 2, _ | 3, _ | 4, _ | 5, _ | 6, _ | 7, _ | 8, _ | 9, _ | 10, _ | 11, _ | 12, _ | 13, _ | 14, _ => by simp [kD, kL, okD] <;> decide +kernel
  | _ + 15, h => by omega
theorem keys_ok (row : List Nat) (h : ∀ i ∈ row, i < 15) : ∀ d ∈ row.map kD, okD 7 d := fun d hd => by
  obtain ⟨i, hi, rfl⟩ := List.mem_map.mp hd
  exact k_ok i (h i hi)
def IsP (d : D) : Prop := ∃ ys, d = .tup ys ∧ ∀ y ∈ ys, okD 6 y
theorem IsP.ok {d : D} (h : IsP d) : okD 7 d := by
  obtain ⟨ys, rfl, h⟩ := h
  exact h
/-! ### the pure gate -/
def fset (f : Nat → List D) (k : Nat) (l : List D) : Nat → List D := fun j => if j = k then l else f j
theorem fset_same {f : Nat → List D} {k : Nat} {l : List D} : fset f k l k = l := if_pos rfl
theorem fset_ne {f : Nat → List D} {k j : Nat} {l : List D} (h : j ≠ k) : fset f k l j = f j := if_neg h
structure RS (pl : Int) (row : List Nat) (f : Nat → List D) : Prop where
  rn : row.Nodup
  rb : ∀ i ∈ row, i < 15
  fe : ∀ i, i < 15 → (i ∈ row ↔ f i ≠ [])
  fl : ∀ i, i < 15 → ((f i).length : Int) ≤ pl
  pb : 1 ≤ pl ∧ pl ≤ 16
  fo : ∀ i, i < 15 → ∀ d ∈ f i, IsP d
theorem RS.len {pl : Int} {row : List Nat} {f : Nat → List D} (R : RS pl row f) : row.length ≤ 15 := by
  have h : row ⊆ List.range 15 := fun i hi => List.mem_range.mpr (R.rb i hi)
  have := nodup_len R.rn (fun x hx => h hx)
  simpa using this
theorem RS.okP {pl : Int} {row : List Nat} {f : Nat → List D} (R : RS pl row f) {i : Nat} (h : i < 15) : ∀ d ∈ f i, okD 7 d := fun d hd => (R.fo i h d hd).ok
theorem RS.put {pl : Int} {row : List Nat} {f : Nat → List D} (R : RS pl row f) {i : Nat} (hi : i < 15) {p : D} (hp : IsP p) (hl : ((f i).length : Int) < pl) : RS pl (if f i = [] then row ++ [i] else row) (fset f i (f i ++ [p])) := by
  have hm : ∀ j, j < 15 → (j ∈ (if f i = [] then row ++ [i] else row) ↔ j = i ∨ j ∈ row) := fun j hj => by
    by_cases e : f i = []
    · rw [if_pos e, List.mem_append, List.mem_singleton]; exact or_comm
    · rw [if_neg e]
      exact ⟨.inr, fun z => z.elim (fun z => by rw [z]; exact (R.fe i hi).2 e) id⟩
  refine ⟨?_, ?_, ?_, ?_, R.pb, ?_⟩
  · by_cases e : f i = []
    · rw [if_pos e, List.nodup_append]
      refine ⟨R.rn, by simp, fun a ha b hb z => ?_⟩
      have : b = i := by simpa using hb
      subst this; subst z
      exact (R.fe a hi).1 ha e
    · rw [if_neg e]; exact R.rn
  · intro j hj
    by_cases e : f i = []
    · rw [if_pos e] at hj
      rcases List.mem_append.mp hj with z | z
      · exact R.rb j z
      · have : j = i := by simpa using z
        omega
    · rw [if_neg e] at hj; exact R.rb j hj
  · intro j hj
    rw [hm j hj]
    by_cases e : j = i
    · subst e; rw [fset_same]; simp
    · rw [fset_ne e, ← R.fe j hj]
      exact ⟨fun z => z.resolve_left e, .inr⟩
  · intro j hj
    by_cases e : j = i
    · subst e; rw [fset_same, List.length_append, List.length_singleton]; omega
    · rw [fset_ne e]; exact R.fl j hj
  · intro j hj d hd
    by_cases e : j = i
    · subst e; rw [fset_same] at hd
      rcases List.mem_append.mp hd with z | z
      · exact R.fo j hj d z
      · have : d = p := by simpa using z
        subst this; exact hp
    · rw [fset_ne e] at hd; exact R.fo j hj d hd
theorem RS.out {pl : Int} {k : Nat} {rest : List Nat} {f : Nat → List D} (R : RS pl (k :: rest) f) {p : D} {t : List D} (hf : f k = p :: t) : RS pl (if t = [] then rest else rest ++ [k]) (fset f k t) := by
  have hk := R.rb k (by simp)
  have hnd := List.nodup_cons.mp R.rn
  have hm : ∀ j, j ∈ (if t = [] then rest else rest ++ [k]) ↔ j ∈ rest ∨ (t ≠ [] ∧ j = k) := fun j => by
    by_cases e : t = []
    · rw [if_pos e]; simp [e]
    · rw [if_neg e]; simp [e]
  refine ⟨?_, ?_, ?_, ?_, R.pb, ?_⟩
  · by_cases e : t = []
    · rw [if_pos e]; exact hnd.2
    · rw [if_neg e, List.nodup_append]
      refine ⟨hnd.2, by simp, fun a ha b hb z => ?_⟩
      have : b = k := by simpa using hb
      subst this; subst z
      exact hnd.1 ha
  · intro j hj
    rcases (hm j).1 hj with z | z
    · exact R.rb j (List.mem_cons_of_mem _ z)
    · omega
  · intro j hj
    rw [hm]
    by_cases e : j = k
    · subst e; rw [fset_same]
      exact ⟨fun z => z.elim (fun z => absurd z hnd.1) (·.1), fun z => .inr ⟨z, rfl⟩⟩
    · rw [fset_ne e, ← R.fe j hj, List.mem_cons]
      exact ⟨fun z => z.elim .inr fun z => absurd z.2 e, fun z => .inl (z.resolve_left e)⟩
  · intro j hj
    by_cases e : j = k
    · subst e; rw [fset_same]
      have := R.fl j hj
      rw [hf, List.length_cons] at this
      omega
    · rw [fset_ne e]; exact R.fl j hj
  · intro j hj d hd
    by_cases e : j = k
    · subst e; rw [fset_same] at hd
      exact R.fo j hj d (by rw [hf]; exact List.mem_cons_of_mem _ hd)
    · rw [fset_ne e] at hd; exact R.fo j hj d hd
end Law

set_option maxHeartbeats 1000000
namespace Law
open PySem L2 Mir
/-- what is kept: a dict of lists -/
def Row1 (m : Mem) (X : List Nat) (kvs : List (NestedKey × D)) (i : Nat) (l : List D) : Prop := (getK kvs (nK i) = none ∧ l = []) ∨ ∃ r, getK kvs (nK i) = some (.ref r) ∧ m[r]? = some (.lst l) ∧ r ∉ X
structure KP (m : Mem) (X : List Nat) (kd : Nat) (f : Nat → List D) (c : Nat) (kvs : List (NestedKey × D)) : Prop where
  d : m[kd]? = some (.mix kvs)
  len : kvs.length ≤ c
  row : ∀ i, i < 15 → Row1 m X kvs i (f i)
section
variable {m m' : Mem} {X J : List Nat} {kd : Nat} {f : Nat → List D} {c : Nat} {kvs kvs' : List (NestedKey × D)}
theorem lt_of {i : Nat} {o : O} (h : m[i]? = some o) : i < m.length := (List.getElem?_eq_some_iff.1 h).1
theorem Row1.frm {i : Nat} {l : List D} (h : Row1 m X kvs i l) (e : Frm J m m') (hJ : ∀ x ∈ J, x ∈ X) : Row1 m' X kvs i l :=
  h.imp id fun ⟨r, h1, h2, h3⟩ => ⟨r, h1, e.2 _ _ (fun z => h3 (hJ _ z)) h2, h3⟩
theorem KP.frm (h : KP m X kd f c kvs) (e : Frm J m m') (hJ : ∀ x ∈ J, x ∈ X) (hk : kd ∉ J) : KP m' X kd f c kvs :=
  ⟨e.2 _ _ hk h.d, h.len, fun i hi => (h.row i hi).frm e hJ⟩
theorem KP.grow (h : KP m X kd f c kvs) {e : Nat} (he : m.length ≤ e) : KP m (e :: X) kd f c kvs :=
  ⟨h.d, h.len, fun i hi => (h.row i hi).imp id fun ⟨r, h1, h2, h3⟩ => ⟨r, h1, h2, fun z => by
    have := lt_of h2
    rcases List.mem_cons.mp z with z | z
    · omega
    · exact h3 z⟩⟩
theorem KP.mono (h : KP m X kd f c kvs) {c' : Nat} (hc : c ≤ c') : KP m X kd f c' kvs := ⟨h.d, Nat.le_trans h.len hc, h.row⟩
theorem KP.set (h : KP m X kd f c kvs) {i : Nat} {l : List D} {c' : Nat} (hi : i < 15) (e : Frm J m m') (hJ : ∀ x ∈ J, x ∈ X) (hd : m'[kd]? = some (.mix kvs')) (hk : ∀ j, j < 15 → j ≠ i → getK kvs' (nK j) = getK kvs (nK j)) (hr : Row1 m' X kvs' i l) (hc : kvs'.length ≤ c') :
    KP m' X kd (fset f i l) c' kvs' := ⟨hd, hc, fun j hj => by
  by_cases q : j = i
  · subst q; rw [fset_same]; exact hr
  · rw [fset_ne q]
    have := (h.row j hj).frm e hJ
    unfold Row1 at this ⊢
    rw [hk j hj q]; exact this⟩
theorem set_other {i j : Nat} (hi : i < 15) (hj : j < 15) (q : j ≠ i) (v : D) : getK (setK kvs (nK i) v) (nK j) = getK kvs (nK j) := by
  rw [getK_set, if_neg fun z => q (n_inj j i hj hi z)]
theorem del_other {i j : Nat} (hi : i < 15) (hj : j < 15) (q : j ≠ i) : getK (delK kvs (nK i)) (nK j) = getK kvs (nK j) := by
  rw [getK_del, if_neg fun z => q (n_inj j i hj hi z)]
theorem KP.get (h : KP m X kd f c kvs) {i : Nat} (hi : i < 15) (hX : ∀ x ∈ X, x < m.length) : ∃ a, (m ++ [O.lst []])[a]? = some (.lst (f i)) ∧ a ∉ X ∧ a < m.length + 1 ∧ mgetZ (.d (.ref kd)) (.d (kD i)) (.ref m.length) (m ++ [O.lst []]) = .ok (.d (.ref a)) (m ++ [O.lst []]) := by
  have hd := get_app [O.lst []] h.d
  rcases h.row i hi with ⟨h1, h2⟩ | ⟨r, h1, h2, h3⟩
  · refine ⟨m.length, by rw [h2]; exact get_new, fun z => by have := hX _ z; omega, by omega, mgetZ_none hd (k_nk i hi) (n_dep i hi) h1⟩
  · exact ⟨r, get_app _ h2, h3, by have := lt_of h2; omega, mgetZ_some hd (k_nk i hi) (n_dep i hi) h1⟩
end
open Classical in
noncomputable def putS (pl : Int) (row : List Nat) (f : Nat → List D) (i : Nat) (p : D) : Bool × List Nat × (Nat → List D) :=
  if p ∈ f i then (true, row, f) else if pl ≤ ((f i).length : Int) then (false, row, f) else (true, (if f i = [] then row ++ [i] else row), fset f i (f i ++ [p]))
theorem RS.putS {pl : Int} {row : List Nat} {f : Nat → List D} (R : RS pl row f) {i : Nat} (hi : i < 15) {p : D} (hp : IsP p) : RS pl (putS pl row f i p).2.1 (Law.putS pl row f i p).2.2 := by
  unfold Law.putS
  split
  · exact R
  · split
    · exact R
    · exact R.put hi hp (by omega)
/-! ### the gate -/
def gate (pl : Int) (kd lu : Nat) : O := .ins 0 [("places", .int pl), ("kept", .ref kd), ("line_up", .ref lu)]
structure GJ (m : Mem) (X : List Nat) (G kd lu : Nat) (pl : Int) (row : List Nat) (f : Nat → List D) (c : Nat) (kvs : List (NestedKey × D)) : Prop where
  g : m[G]? = some (gate pl kd lu)
  l : m[lu]? = some (.lst (row.map kD))
  k : KP m X kd f c kvs
  gx : G ∈ X
  dx : kd ∈ X
  lx : lu ∈ X
section
variable {m m' : Mem} {X J : List Nat} {G kd lu : Nat} {pl : Int} {row : List Nat} {f : Nat → List D} {c : Nat} {kvs : List (NestedKey × D)}
theorem GJ.ne (h : GJ m X G kd lu pl row f c kvs) : G ≠ kd ∧ G ≠ lu ∧ kd ≠ lu := by
  have kne : ∀ {i j : Nat} {o u : O}, m[i]? = some o → m[j]? = some u → o ≠ u → i ≠ j := by
    rintro i j o u h1 h2 hne rfl
    exact hne (Option.some.inj (h1.symm.trans h2))
  exact ⟨kne h.g h.k.d (by intro z; cases z), kne h.g h.l (by intro z; cases z), kne h.k.d h.l (by intro z; cases z)⟩
theorem GJ.frm (h : GJ m X G kd lu pl row f c kvs) (e : Frm J m m') (hJ : ∀ x ∈ J, x ∈ X) (h1 : G ∉ J) (h2 : kd ∉ J) (h3 : lu ∉ J) : GJ m' X G kd lu pl row f c kvs :=
  ⟨e.2 _ _ h1 h.g, e.2 _ _ h3 h.l, h.k.frm e hJ h2, h.gx, h.dx, h.lx⟩
theorem GJ.ext (h : GJ m X G kd lu pl row f c kvs) (e : Ext m m') : GJ m' X G kd lu pl row f c kvs := h.frm (J := []) (Frm.of e) (by simp) (by simp) (by simp) (by simp)
theorem GJ.grow (h : GJ m X G kd lu pl row f c kvs) {e : Nat} (he : m.length ≤ e) : GJ m (e :: X) G kd lu pl row f c kvs :=
  ⟨h.g, h.l, h.k.grow he, List.mem_cons_of_mem _ h.gx, List.mem_cons_of_mem _ h.dx, List.mem_cons_of_mem _ h.lx⟩
theorem init_ok (m : Mem) (n : Nat) (hn : m.length = n) (pl : Int) : wpR (F_Gate_init [.ref n, .int pl] (m ++ [.ins 0 []])) (fun d m' => d = .non ∧ m'.length = n + 3 ∧ m'[n]? = some (gate pl (n + 1) (n + 2)) ∧ m'[n + 1]? = some (.mix []) ∧ m'[n + 2]? = some (.lst []) ∧ Ext m m') noEx := by
  subst hn
  refine wp_fn ?_
  unfold m_Gate_init
  have e2 : ∀ (a b : O) (l : Mem), (m ++ a :: l).set m.length b = m ++ b :: l := fun a b l => by simp
  have g1 : ∀ (a : O) (l : Mem), (m ++ a :: l)[m.length]? = some a := fun a l => by simp
  have l1 : ∀ (a : O), (m ++ [a]).length = m.length + 1 := fun a => by simp
  have l2 : ∀ (a b : O), (m ++ [a, b]).length = m.length + 2 := fun a b => by simp
  have a1 : ∀ (a b : O), m ++ [a] ++ [b] = m ++ [a, b] := fun a b => by simp
  have a2 : ∀ (a b c : O), m ++ [a, b] ++ [c] = m ++ [a, b, c] := fun a b c => by simp
  (simp -implicitDefEqProofs (maxSteps := 2000000) (disch := (first | omega | decide +kernel | (simp only [isSome_set, isSome_app, isSome_new, Option.isSome_some, *]; done) | (simp only [isSome_lt, List.length_set, List.length_append, List.length_cons, List.length_nil, decide_eq_true_eq]; omega))) only [seqS_mk, asgS_mk, ifS_mk, retS_mk, retNS_mk, skipS_mk, dropS_mk, brkS_mk, cntS_mk, forS_mk, seqI_mk, matE_mk, callF_mk, callB_mk, consA_mk, nilA_mk, consT_mk, nilT_mk, tvs_mk, binE_mk, varE_0, varE_s, kE_mk, set_0, set_s, nmG_mk, lstE_mk, tupE_mk, bT_mk, tstT_mk, notT_mk, andT_mk, orT_mk, yesT_mk, andE_mk, orE_mk, notE_mk, ifE_mk, negE_mk, sliceE_mk, noP_mk, intP_mk, bmE_mk, bmE0_mk, isiB_mk, lcE_mk, lcT_mk, wipeE_nil, wipeE_cons, liftF_ok, matD_d, matD_l, boolT_mk, truthM_bl, truthM_int, truthM_non, opAdd_i, opSub_i, opLt_i, opLe_i, opGt_i, opGe_i, opEq_i, opNe_i, opMod_p, opDiv_p, seqSrc_l, seqSrc_clst, seqSrc_tup, ofL_n, ofR_n, opCut_l, opCut_tup, opCut_clst, callB_len_clst, callB_len_l, callB_len_tup, isi_int_int, isi_int_bool, isi_bool_bool, isi_bool_int, if_true, List.map_cons, List.map_nil, Int.toNat_natCast, List.length_cons, List.length_nil, List.replicate_succ, List.replicate_zero, List.cons_append, List.nil_append, Nat.sub_self, Nat.reduceSub, Nat.reduceAdd, ite_at, Bool.not_true, Bool.not_false, decide_true, decide_false, Bool.false_eq_true, if_false, reduceIte, fldE_mk, ev_fld, sfldS_mk, ev_setF, ev_putD_nil, ev_putD, methE_mk, ev_meth, augFS_mk, ev_aug, ev_len, ev_len2, len2_clst, len2_l, len2_tup, ev_list, ev_list2, list_tup, list_clst, list_l, list2_tup, list2_l, list2_clst, ev_tuple, tuple_tup, bTuple_l, ev_cut, ev_idx, ev_idxT, ev_idxL, ev_idxC, subS_mk, ev_subs, subs_l, subs_tup, subs_clst, subs_str, key_int, key_str, ev_getK_nil, ev_getK, ev_put, ev_src, ev_append, ev_extend, listOfM_l, ev_listOfM, listOf_l, listOf_clst, ev_listOf, ev_clear, chk_list, chk_str, chk_dic, dgetE_mk, dgetM_ev, dget2E_mk, dget2M_ev, ev_dget, ev_dgetY, ev_dget2Y, dpopE_mk, get_set_ne', get_set_is, get_app_is, get_new, ite_lt, ite_le, at_0, at_1, at_2, at_3, at_4, at_end, tupG_mk, tupG_mk', consG_mk, nilG_mk, sne, sbne, beq_self_eq_true, List.lookup_cons, List.lookup_nil, List.mem_cons, List.not_mem_nil, or_false, false_or, true_or, or_true, and_true, true_and, and_false, false_and, eq_self, Option.isSome_some, Option.isSome_none, Option.map_some, Option.map_none, opIs_nn, opIs_ni, opIsNot_nn, opIsNot_ni, opIsB_b, opIsNotB_b, opMul_l, opMul_r, opEq_b, opNe_b, bMax2_i, bMin2_i, List.map_cons, Sum.inl.injEq, Sum.inr.injEq, isi_l_list, isi_tup_tup, List.length_set, decide_eq_true_eq, negE_mk, Nat.reduceLT, Nat.reduceLeDiff, Nat.reduceEqDiff, Nat.reduceMul, Int.reduceLT, Int.reduceLE, Int.reduceEq, Int.reduceAdd, Int.reduceSub, Int.reduceMul, Int.reduceNeg, Int.reduceToNat, Int.reducePow, Nat.reducePow, Int.reduceMod, Int.reduceDiv, reduceCtorEq, ite_true, List.nil_append, Nat.reduceBEq, isXE_mk, ev_isX, xfE_mk, ev_xf, raiseS_mk, raiseFS_mk, excM_mk, goneF_nxt, goneF_ret, opMulX_i, ev_addRL, ev_addLR, ev_addRR, ite_le2, opAdd_s, opAdd_t, chainE_mk, chainR_b, ev_isl, andE_mk, orE_mk, notE_mk, is_non_int, is_non_bool, is_non_str, is_non_list, is_non_tuple, is_bl_int, is_bl_bool, is_bl_str, is_bl_list, is_bl_tuple, is_int_int, is_int_bool, is_int_str, is_int_list, is_int_tuple, is_str_int, is_str_bool, is_str_str, is_str_list, is_str_tuple, is_tup_int, is_tup_bool, is_tup_str, is_tup_list, is_tup_tuple, is_l_int, is_l_bool, is_l_str, is_l_list, is_l_tuple, unpG_tup, unpG_ref, opEq_s, opNe_s, len2_str, leX_ss, seqIX_mk, srcX_str, ↓toBT, ↓toWT, bt_ok, bt_bt, wt_bt, wt_okM, wt_ok, wt_exc, wt_ite, wt_lift, wt_make, wt_try, e2, g1, a1, l1, mixE_mk, l2, a2] <;> try simp -implicitDefEqProofs only [bt_eq, wt_eq])
  exact ⟨by simp, by simp [gate], by simp, by simp, Ext.app _ _⟩
/-- what waits under a key -/
theorem waits_ok (h : GJ m X G kd lu pl row f c kvs) (hX : ∀ x ∈ X, x < m.length) {i : Nat} (hi : i < 15) : wpR (F_Gate_waits [.ref G, kD i] m) (fun d m' => d = .int ((f i).length : Int) ∧ m' = m ++ [.lst []]) noEx := by
  refine wp_fn ?_
  unfold m_Gate_waits
  have hg0 := h.g
  have hd0 := h.k.d
  obtain ⟨a, ha, _, _, hz⟩ := h.k.get hi hX
  unfold gate at hg0
  generalize kD i = K at *
  generalize f i = Q at *
  have ev := fun e z env => mgetM_ev hd0 e z env
  (simp -implicitDefEqProofs (maxSteps := 2000000) (disch := (first | omega | decide +kernel | (simp only [isSome_set, isSome_app, isSome_new, Option.isSome_some, *]; done) | (simp only [isSome_lt, List.length_set, List.length_append, List.length_cons, List.length_nil, decide_eq_true_eq]; omega))) only [seqS_mk, asgS_mk, ifS_mk, retS_mk, retNS_mk, skipS_mk, dropS_mk, brkS_mk, cntS_mk, forS_mk, seqI_mk, matE_mk, callF_mk, callB_mk, consA_mk, nilA_mk, consT_mk, nilT_mk, tvs_mk, binE_mk, varE_0, varE_s, kE_mk, set_0, set_s, nmG_mk, lstE_mk, tupE_mk, bT_mk, tstT_mk, notT_mk, andT_mk, orT_mk, yesT_mk, andE_mk, orE_mk, notE_mk, ifE_mk, negE_mk, sliceE_mk, noP_mk, intP_mk, bmE_mk, bmE0_mk, isiB_mk, lcE_mk, lcT_mk, wipeE_nil, wipeE_cons, liftF_ok, matD_d, matD_l, boolT_mk, truthM_bl, truthM_int, truthM_non, opAdd_i, opSub_i, opLt_i, opLe_i, opGt_i, opGe_i, opEq_i, opNe_i, opMod_p, opDiv_p, seqSrc_l, seqSrc_clst, seqSrc_tup, ofL_n, ofR_n, opCut_l, opCut_tup, opCut_clst, callB_len_clst, callB_len_l, callB_len_tup, isi_int_int, isi_int_bool, isi_bool_bool, isi_bool_int, if_true, List.map_cons, List.map_nil, Int.toNat_natCast, List.length_cons, List.length_nil, List.replicate_succ, List.replicate_zero, List.cons_append, List.nil_append, Nat.sub_self, Nat.reduceSub, Nat.reduceAdd, ite_at, Bool.not_true, Bool.not_false, decide_true, decide_false, Bool.false_eq_true, if_false, reduceIte, fldE_mk, ev_fld, sfldS_mk, ev_setF, ev_putD_nil, ev_putD, methE_mk, ev_meth, augFS_mk, ev_aug, ev_len, ev_len2, len2_clst, len2_l, len2_tup, ev_list, ev_list2, list_tup, list_clst, list_l, list2_tup, list2_l, list2_clst, ev_tuple, tuple_tup, bTuple_l, ev_cut, ev_idx, ev_idxT, ev_idxL, ev_idxC, subS_mk, ev_subs, subs_l, subs_tup, subs_clst, subs_str, key_int, key_str, ev_getK_nil, ev_getK, ev_put, ev_src, ev_append, ev_extend, listOfM_l, ev_listOfM, listOf_l, listOf_clst, ev_listOf, ev_clear, chk_list, chk_str, chk_dic, dgetE_mk, dgetM_ev, dget2E_mk, dget2M_ev, ev_dget, ev_dgetY, ev_dget2Y, dpopE_mk, get_set_ne', get_set_is, get_app_is, get_new, ite_lt, ite_le, at_0, at_1, at_2, at_3, at_4, at_end, tupG_mk, tupG_mk', consG_mk, nilG_mk, sne, sbne, beq_self_eq_true, List.lookup_cons, List.lookup_nil, List.mem_cons, List.not_mem_nil, or_false, false_or, true_or, or_true, and_true, true_and, and_false, false_and, eq_self, Option.isSome_some, Option.isSome_none, Option.map_some, Option.map_none, opIs_nn, opIs_ni, opIsNot_nn, opIsNot_ni, opIsB_b, opIsNotB_b, opMul_l, opMul_r, opEq_b, opNe_b, bMax2_i, bMin2_i, List.map_cons, Sum.inl.injEq, Sum.inr.injEq, isi_l_list, isi_tup_tup, List.length_set, decide_eq_true_eq, negE_mk, Nat.reduceLT, Nat.reduceLeDiff, Nat.reduceEqDiff, Nat.reduceMul, Int.reduceLT, Int.reduceLE, Int.reduceEq, Int.reduceAdd, Int.reduceSub, Int.reduceMul, Int.reduceNeg, Int.reduceToNat, Int.reducePow, Nat.reducePow, Int.reduceMod, Int.reduceDiv, reduceCtorEq, ite_true, List.nil_append, Nat.reduceBEq, isXE_mk, ev_isX, xfE_mk, ev_xf, raiseS_mk, raiseFS_mk, excM_mk, goneF_nxt, goneF_ret, opMulX_i, ev_addRL, ev_addLR, ev_addRR, ite_le2, opAdd_s, opAdd_t, chainE_mk, chainR_b, ev_isl, andE_mk, orE_mk, notE_mk, is_non_int, is_non_bool, is_non_str, is_non_list, is_non_tuple, is_bl_int, is_bl_bool, is_bl_str, is_bl_list, is_bl_tuple, is_int_int, is_int_bool, is_int_str, is_int_list, is_int_tuple, is_str_int, is_str_bool, is_str_str, is_str_list, is_str_tuple, is_tup_int, is_tup_bool, is_tup_str, is_tup_list, is_tup_tuple, is_l_int, is_l_bool, is_l_str, is_l_list, is_l_tuple, unpG_tup, unpG_ref, opEq_s, opNe_s, len2_str, leX_ss, seqIX_mk, srcX_str, ↓toBT, ↓toWT, bt_ok, bt_bt, wt_bt, wt_okM, wt_ok, wt_exc, wt_ite, wt_lift, wt_make, wt_try, mget2E_mk, hg0, ev, hz, ha] <;> try simp -implicitDefEqProofs only [bt_eq, wt_eq])
theorem waiting_ok (h : GJ m X G kd lu pl row f c kvs) : F_Gate_waiting [.ref G] m = .ok (.ref m.length) (m ++ [.lst (row.map kD)]) := by
  refine eq_of_wp (wp_fn ?_)
  unfold m_Gate_waiting
  have hg0 := h.g
  have hl := h.l
  unfold gate at hg0
  generalize row.map kD = Q at *
  (simp -implicitDefEqProofs (maxSteps := 2000000) (disch := (first | omega | decide +kernel | (simp only [isSome_set, isSome_app, isSome_new, Option.isSome_some, *]; done) | (simp only [isSome_lt, List.length_set, List.length_append, List.length_cons, List.length_nil, decide_eq_true_eq]; omega))) only [seqS_mk, asgS_mk, ifS_mk, retS_mk, retNS_mk, skipS_mk, dropS_mk, brkS_mk, cntS_mk, forS_mk, seqI_mk, matE_mk, callF_mk, callB_mk, consA_mk, nilA_mk, consT_mk, nilT_mk, tvs_mk, binE_mk, varE_0, varE_s, kE_mk, set_0, set_s, nmG_mk, lstE_mk, tupE_mk, bT_mk, tstT_mk, notT_mk, andT_mk, orT_mk, yesT_mk, andE_mk, orE_mk, notE_mk, ifE_mk, negE_mk, sliceE_mk, noP_mk, intP_mk, bmE_mk, bmE0_mk, isiB_mk, lcE_mk, lcT_mk, wipeE_nil, wipeE_cons, liftF_ok, matD_d, matD_l, boolT_mk, truthM_bl, truthM_int, truthM_non, opAdd_i, opSub_i, opLt_i, opLe_i, opGt_i, opGe_i, opEq_i, opNe_i, opMod_p, opDiv_p, seqSrc_l, seqSrc_clst, seqSrc_tup, ofL_n, ofR_n, opCut_l, opCut_tup, opCut_clst, callB_len_clst, callB_len_l, callB_len_tup, isi_int_int, isi_int_bool, isi_bool_bool, isi_bool_int, if_true, List.map_cons, List.map_nil, Int.toNat_natCast, List.length_cons, List.length_nil, List.replicate_succ, List.replicate_zero, List.cons_append, List.nil_append, Nat.sub_self, Nat.reduceSub, Nat.reduceAdd, ite_at, Bool.not_true, Bool.not_false, decide_true, decide_false, Bool.false_eq_true, if_false, reduceIte, fldE_mk, ev_fld, sfldS_mk, ev_setF, ev_putD_nil, ev_putD, methE_mk, ev_meth, augFS_mk, ev_aug, ev_len, ev_len2, len2_clst, len2_l, len2_tup, ev_list, ev_list2, list_tup, list_clst, list_l, list2_tup, list2_l, list2_clst, ev_tuple, tuple_tup, bTuple_l, ev_cut, ev_idx, ev_idxT, ev_idxL, ev_idxC, subS_mk, ev_subs, subs_l, subs_tup, subs_clst, subs_str, key_int, key_str, ev_getK_nil, ev_getK, ev_put, ev_src, ev_append, ev_extend, listOfM_l, ev_listOfM, listOf_l, listOf_clst, ev_listOf, ev_clear, chk_list, chk_str, chk_dic, dgetE_mk, dgetM_ev, dget2E_mk, dget2M_ev, ev_dget, ev_dgetY, ev_dget2Y, dpopE_mk, get_set_ne', get_set_is, get_app_is, get_new, ite_lt, ite_le, at_0, at_1, at_2, at_3, at_4, at_end, tupG_mk, tupG_mk', consG_mk, nilG_mk, sne, sbne, beq_self_eq_true, List.lookup_cons, List.lookup_nil, List.mem_cons, List.not_mem_nil, or_false, false_or, true_or, or_true, and_true, true_and, and_false, false_and, eq_self, Option.isSome_some, Option.isSome_none, Option.map_some, Option.map_none, opIs_nn, opIs_ni, opIsNot_nn, opIsNot_ni, opIsB_b, opIsNotB_b, opMul_l, opMul_r, opEq_b, opNe_b, bMax2_i, bMin2_i, List.map_cons, Sum.inl.injEq, Sum.inr.injEq, isi_l_list, isi_tup_tup, List.length_set, decide_eq_true_eq, negE_mk, Nat.reduceLT, Nat.reduceLeDiff, Nat.reduceEqDiff, Nat.reduceMul, Int.reduceLT, Int.reduceLE, Int.reduceEq, Int.reduceAdd, Int.reduceSub, Int.reduceMul, Int.reduceNeg, Int.reduceToNat, Int.reducePow, Nat.reducePow, Int.reduceMod, Int.reduceDiv, reduceCtorEq, ite_true, List.nil_append, Nat.reduceBEq, isXE_mk, ev_isX, xfE_mk, ev_xf, raiseS_mk, raiseFS_mk, excM_mk, goneF_nxt, goneF_ret, opMulX_i, ev_addRL, ev_addLR, ev_addRR, ite_le2, opAdd_s, opAdd_t, chainE_mk, chainR_b, ev_isl, andE_mk, orE_mk, notE_mk, is_non_int, is_non_bool, is_non_str, is_non_list, is_non_tuple, is_bl_int, is_bl_bool, is_bl_str, is_bl_list, is_bl_tuple, is_int_int, is_int_bool, is_int_str, is_int_list, is_int_tuple, is_str_int, is_str_bool, is_str_str, is_str_list, is_str_tuple, is_tup_int, is_tup_bool, is_tup_str, is_tup_list, is_tup_tuple, is_l_int, is_l_bool, is_l_str, is_l_list, is_l_tuple, unpG_tup, unpG_ref, opEq_s, opNe_s, len2_str, leX_ss, seqIX_mk, srcX_str, ↓toBT, ↓toWT, bt_ok, bt_bt, wt_bt, wt_okM, wt_ok, wt_exc, wt_ite, wt_lift, wt_make, wt_try, hg0, hl] <;> try simp -implicitDefEqProofs only [bt_eq, wt_eq])
end
end Law

set_option maxHeartbeats 1000000
namespace Law
open PySem L2 Mir
section
variable {m m' : Mem} {X J : List Nat} {G kd lu : Nat} {pl : Int} {row : List Nat} {f : Nat → List D} {c : Nat} {kvs : List (NestedKey × D)}
theorem row_set {kvs : List (NestedKey × D)} {i r : Nat} {l : List D} (hm : m[r]? = some (.lst l)) (hr : r ∉ X) : Row1 m X (setK kvs (nK i) (.ref r)) i l := .inr ⟨r, by rw [getK_set, if_pos rfl], hm, hr⟩
theorem set_le {kvs : List (NestedKey × D)} {k : NestedKey} {v : D} (h : kvs.length ≤ c) : (setK kvs k v).length ≤ c + 1 := by
  rw [setK_len]
  split <;> omega
theorem put_ok (h : GJ m X G kd lu pl row f c kvs) (R : RS pl row f) (hX : ∀ x ∈ X, x < m.length) (hc : c ≤ 100000) {i : Nat} (hi : i < 15) {ys : List D} (hy : ∀ y ∈ ys, okD 6 y) :
    wpR (F_Gate_put [.ref G, kD i, .tup ys] m) (fun d m' => d = .bl (putS pl row f i (.tup ys)).1 ∧ (∃ kvs', GJ m' X G kd lu pl (putS pl row f i (.tup ys)).2.1 (putS pl row f i (.tup ys)).2.2 (c + 1) kvs') ∧ Frm [kd, lu] m m') noEx := by
  refine wp_fn ?_
  unfold m_Gate_put
  obtain ⟨n1, n2, n3⟩ := h.ne
  have hcb := h.k.len
  have hg0 := h.g
  have hd0 := h.k.d
  have hg := get_app [O.lst []] h.g
  have hd := get_app [O.lst []] h.k.d
  have hl := get_app [O.lst []] h.l
  have hlg := lt_of h.g
  have hld := lt_of h.k.d
  have hll := lt_of h.l
  have hfl := R.fl i hi
  have hpb := R.pb
  have hrl := R.len
  obtain ⟨a, ha, hax, hal, hz⟩ := h.k.get hi hX
  have hal' : a ≠ lu := fun z => hax (z ▸ h.lx)
  have hak : a ≠ kd := fun z => hax (z ▸ h.dx)
  have ev := fun e z env => mgetM_ev hd0 e z env
  have hm1 : (m ++ [O.lst []]).length = m.length + 1 := by simp
  have fr1 : Frm [kd, lu] m (m ++ [O.lst []]) := Frm.app _ _ _
  have ki := k_nk i hi
  have kd8 := n_dep i hi
  have hfin := fun (kvs' : List (NestedKey × D)) m' hfr (hh : m'[kd]? = some (.mix kvs')) => @KP.set m m' X [kd, lu] kd f c kvs kvs' h.k i (f i ++ [.tup ys]) (c + 1) hi hfr (by simp [h.dx, h.lx]) hh
  have hK0 := h.k
  have hGx := h.gx
  have hDx := h.dx
  have hLx := h.lx
  have hfull : GJ (m ++ [O.lst []]) X G kd lu pl row f (c + 1) kvs := ⟨hg, hl, (h.k.frm (J := []) (Frm.app _ _ _) (by simp) (by simp)).mono (by omega), hGx, hDx, hLx⟩
  generalize hm1e : m ++ [O.lst []] = m1 at *
  by_cases hin : D.tup ys ∈ f i
  · have hii := in_tup (m := m1) (x := .d (.ref a)) (b := true) (listOf_ref ha) (R.okP hi) hy ⟨fun _ => hin, fun _ => rfl⟩
    have hp : putS pl row f i (.tup ys) = (true, row, f) := by unfold putS; rw [if_pos hin]
    rw [hp]
    unfold gate at hg0 hg
    generalize kD i = K at *
    generalize f i = Q at *
    (simp -implicitDefEqProofs (maxSteps := 2000000) (disch := (first | omega | decide +kernel | (simp only [isSome_set, isSome_app, isSome_new, Option.isSome_some, *]; done) | (simp only [isSome_lt, List.length_set, List.length_append, List.length_cons, List.length_nil, decide_eq_true_eq]; omega))) only [seqS_mk, asgS_mk, ifS_mk, retS_mk, retNS_mk, skipS_mk, dropS_mk, brkS_mk, cntS_mk, forS_mk, seqI_mk, matE_mk, callF_mk, callB_mk, consA_mk, nilA_mk, consT_mk, nilT_mk, tvs_mk, binE_mk, varE_0, varE_s, kE_mk, set_0, set_s, nmG_mk, lstE_mk, tupE_mk, bT_mk, tstT_mk, notT_mk, andT_mk, orT_mk, yesT_mk, andE_mk, orE_mk, notE_mk, ifE_mk, negE_mk, sliceE_mk, noP_mk, intP_mk, bmE_mk, bmE0_mk, isiB_mk, lcE_mk, lcT_mk, wipeE_nil, wipeE_cons, liftF_ok, matD_d, matD_l, boolT_mk, truthM_bl, truthM_int, truthM_non, opAdd_i, opSub_i, opLt_i, opLe_i, opGt_i, opGe_i, opEq_i, opNe_i, opMod_p, opDiv_p, seqSrc_l, seqSrc_clst, seqSrc_tup, ofL_n, ofR_n, opCut_l, opCut_tup, opCut_clst, callB_len_clst, callB_len_l, callB_len_tup, isi_int_int, isi_int_bool, isi_bool_bool, isi_bool_int, if_true, List.map_cons, List.map_nil, Int.toNat_natCast, List.length_cons, List.length_nil, List.replicate_succ, List.replicate_zero, List.cons_append, List.nil_append, Nat.sub_self, Nat.reduceSub, Nat.reduceAdd, ite_at, Bool.not_true, Bool.not_false, decide_true, decide_false, Bool.false_eq_true, if_false, reduceIte, fldE_mk, ev_fld, sfldS_mk, ev_setF, ev_putD_nil, ev_putD, methE_mk, ev_meth, augFS_mk, ev_aug, ev_len, ev_len2, len2_clst, len2_l, len2_tup, ev_list, ev_list2, list_tup, list_clst, list_l, list2_tup, list2_l, list2_clst, ev_tuple, tuple_tup, bTuple_l, ev_cut, ev_idx, ev_idxT, ev_idxL, ev_idxC, subS_mk, ev_subs, subs_l, subs_tup, subs_clst, subs_str, key_int, key_str, ev_getK_nil, ev_getK, ev_put, ev_src, ev_append, ev_extend, listOfM_l, ev_listOfM, listOf_l, listOf_clst, ev_listOf, ev_clear, chk_list, chk_str, chk_dic, dgetE_mk, dgetM_ev, dget2E_mk, dget2M_ev, ev_dget, ev_dgetY, ev_dget2Y, dpopE_mk, get_set_ne', get_set_is, get_app_is, get_new, ite_lt, ite_le, at_0, at_1, at_2, at_3, at_4, at_end, tupG_mk, tupG_mk', consG_mk, nilG_mk, sne, sbne, beq_self_eq_true, List.lookup_cons, List.lookup_nil, List.mem_cons, List.not_mem_nil, or_false, false_or, true_or, or_true, and_true, true_and, and_false, false_and, eq_self, Option.isSome_some, Option.isSome_none, Option.map_some, Option.map_none, opIs_nn, opIs_ni, opIsNot_nn, opIsNot_ni, opIsB_b, opIsNotB_b, opMul_l, opMul_r, opEq_b, opNe_b, bMax2_i, bMin2_i, List.map_cons, Sum.inl.injEq, Sum.inr.injEq, isi_l_list, isi_tup_tup, List.length_set, decide_eq_true_eq, negE_mk, Nat.reduceLT, Nat.reduceLeDiff, Nat.reduceEqDiff, Nat.reduceMul, Int.reduceLT, Int.reduceLE, Int.reduceEq, Int.reduceAdd, Int.reduceSub, Int.reduceMul, Int.reduceNeg, Int.reduceToNat, Int.reducePow, Nat.reducePow, Int.reduceMod, Int.reduceDiv, reduceCtorEq, ite_true, List.nil_append, Nat.reduceBEq, isXE_mk, ev_isX, xfE_mk, ev_xf, raiseS_mk, raiseFS_mk, excM_mk, goneF_nxt, goneF_ret, opMulX_i, ev_addRL, ev_addLR, ev_addRR, ite_le2, opAdd_s, opAdd_t, chainE_mk, chainR_b, ev_isl, andE_mk, orE_mk, notE_mk, is_non_int, is_non_bool, is_non_str, is_non_list, is_non_tuple, is_bl_int, is_bl_bool, is_bl_str, is_bl_list, is_bl_tuple, is_int_int, is_int_bool, is_int_str, is_int_list, is_int_tuple, is_str_int, is_str_bool, is_str_str, is_str_list, is_str_tuple, is_tup_int, is_tup_bool, is_tup_str, is_tup_list, is_tup_tuple, is_l_int, is_l_bool, is_l_str, is_l_list, is_l_tuple, unpG_tup, unpG_ref, opEq_s, opNe_s, len2_str, leX_ss, seqIX_mk, srcX_str, ↓toBT, ↓toWT, bt_ok, bt_bt, wt_bt, wt_okM, wt_ok, wt_exc, wt_ite, wt_lift, wt_make, wt_try, mget2E_mk, hg0, ev, hm1e, hz, hii] <;> try simp -implicitDefEqProofs only [bt_eq, wt_eq])
    exact ⟨⟨kvs, hfull⟩, fr1⟩
  · have hii := in_tup (m := m1) (x := .d (.ref a)) (b := false) (listOf_ref ha) (R.okP hi) hy ⟨fun z => (by cases z), fun z => absurd z hin⟩
    by_cases hpl : pl ≤ ((f i).length : Int)
    · have hp : putS pl row f i (.tup ys) = (false, row, f) := by unfold putS; rw [if_neg hin, if_pos hpl]
      rw [hp]
      have hpe : ((f i).length : Int) = pl := by omega
      unfold gate at hg0 hg
      generalize kD i = K at *
      generalize f i = Q at *
      (simp -implicitDefEqProofs (maxSteps := 2000000) (disch := (first | omega | decide +kernel | (simp only [isSome_set, isSome_app, isSome_new, Option.isSome_some, *]; done) | (simp only [isSome_lt, List.length_set, List.length_append, List.length_cons, List.length_nil, decide_eq_true_eq]; omega))) only [seqS_mk, asgS_mk, ifS_mk, retS_mk, retNS_mk, skipS_mk, dropS_mk, brkS_mk, cntS_mk, forS_mk, seqI_mk, matE_mk, callF_mk, callB_mk, consA_mk, nilA_mk, consT_mk, nilT_mk, tvs_mk, binE_mk, varE_0, varE_s, kE_mk, set_0, set_s, nmG_mk, lstE_mk, tupE_mk, bT_mk, tstT_mk, notT_mk, andT_mk, orT_mk, yesT_mk, andE_mk, orE_mk, notE_mk, ifE_mk, negE_mk, sliceE_mk, noP_mk, intP_mk, bmE_mk, bmE0_mk, isiB_mk, lcE_mk, lcT_mk, wipeE_nil, wipeE_cons, liftF_ok, matD_d, matD_l, boolT_mk, truthM_bl, truthM_int, truthM_non, opAdd_i, opSub_i, opLt_i, opLe_i, opGt_i, opGe_i, opEq_i, opNe_i, opMod_p, opDiv_p, seqSrc_l, seqSrc_clst, seqSrc_tup, ofL_n, ofR_n, opCut_l, opCut_tup, opCut_clst, callB_len_clst, callB_len_l, callB_len_tup, isi_int_int, isi_int_bool, isi_bool_bool, isi_bool_int, if_true, List.map_cons, List.map_nil, Int.toNat_natCast, List.length_cons, List.length_nil, List.replicate_succ, List.replicate_zero, List.cons_append, List.nil_append, Nat.sub_self, Nat.reduceSub, Nat.reduceAdd, ite_at, Bool.not_true, Bool.not_false, decide_true, decide_false, Bool.false_eq_true, if_false, reduceIte, fldE_mk, ev_fld, sfldS_mk, ev_setF, ev_putD_nil, ev_putD, methE_mk, ev_meth, augFS_mk, ev_aug, ev_len, ev_len2, len2_clst, len2_l, len2_tup, ev_list, ev_list2, list_tup, list_clst, list_l, list2_tup, list2_l, list2_clst, ev_tuple, tuple_tup, bTuple_l, ev_cut, ev_idx, ev_idxT, ev_idxL, ev_idxC, subS_mk, ev_subs, subs_l, subs_tup, subs_clst, subs_str, key_int, key_str, ev_getK_nil, ev_getK, ev_put, ev_src, ev_append, ev_extend, listOfM_l, ev_listOfM, listOf_l, listOf_clst, ev_listOf, ev_clear, chk_list, chk_str, chk_dic, dgetE_mk, dgetM_ev, dget2E_mk, dget2M_ev, ev_dget, ev_dgetY, ev_dget2Y, dpopE_mk, get_set_ne', get_set_is, get_app_is, get_new, ite_lt, ite_le, at_0, at_1, at_2, at_3, at_4, at_end, tupG_mk, tupG_mk', consG_mk, nilG_mk, sne, sbne, beq_self_eq_true, List.lookup_cons, List.lookup_nil, List.mem_cons, List.not_mem_nil, or_false, false_or, true_or, or_true, and_true, true_and, and_false, false_and, eq_self, Option.isSome_some, Option.isSome_none, Option.map_some, Option.map_none, opIs_nn, opIs_ni, opIsNot_nn, opIsNot_ni, opIsB_b, opIsNotB_b, opMul_l, opMul_r, opEq_b, opNe_b, bMax2_i, bMin2_i, List.map_cons, Sum.inl.injEq, Sum.inr.injEq, isi_l_list, isi_tup_tup, List.length_set, decide_eq_true_eq, negE_mk, Nat.reduceLT, Nat.reduceLeDiff, Nat.reduceEqDiff, Nat.reduceMul, Int.reduceLT, Int.reduceLE, Int.reduceEq, Int.reduceAdd, Int.reduceSub, Int.reduceMul, Int.reduceNeg, Int.reduceToNat, Int.reducePow, Nat.reducePow, Int.reduceMod, Int.reduceDiv, reduceCtorEq, ite_true, List.nil_append, Nat.reduceBEq, isXE_mk, ev_isX, xfE_mk, ev_xf, raiseS_mk, raiseFS_mk, excM_mk, goneF_nxt, goneF_ret, opMulX_i, ev_addRL, ev_addLR, ev_addRR, ite_le2, opAdd_s, opAdd_t, chainE_mk, chainR_b, ev_isl, andE_mk, orE_mk, notE_mk, is_non_int, is_non_bool, is_non_str, is_non_list, is_non_tuple, is_bl_int, is_bl_bool, is_bl_str, is_bl_list, is_bl_tuple, is_int_int, is_int_bool, is_int_str, is_int_list, is_int_tuple, is_str_int, is_str_bool, is_str_str, is_str_list, is_str_tuple, is_tup_int, is_tup_bool, is_tup_str, is_tup_list, is_tup_tuple, is_l_int, is_l_bool, is_l_str, is_l_list, is_l_tuple, unpG_tup, unpG_ref, opEq_s, opNe_s, len2_str, leX_ss, seqIX_mk, srcX_str, ↓toBT, ↓toWT, bt_ok, bt_bt, wt_bt, wt_okM, wt_ok, wt_exc, wt_ite, wt_lift, wt_make, wt_try, mget2E_mk, hg0, hg, ev, hm1e, hz, hii, ha, hpe] <;> try simp -implicitDefEqProofs only [bt_eq, wt_eq])
      exact ⟨⟨kvs, hfull⟩, fr1⟩
    · have hp : putS pl row f i (.tup ys) = (true, (if f i = [] then row ++ [i] else row), fset f i (f i ++ [.tup ys])) := by unfold putS; rw [if_neg hin, if_neg hpl]
      rw [hp]
      dsimp only
      have hpe : ¬ ((f i).length : Int) = pl := by omega
      have heq := opEq_nil ha (R.okP hi)
      have hQ1 : (f i).length ≤ 16777215 := by omega
      have hz1 : kvs.length < sizeLine := by rw [sizeLine_eq]; omega
      by_cases e : f i = []
      · have hdn : decide ((f i).length = 0) = true := by rw [e]; rfl
        rw [hdn] at heq
        rw [if_pos e]
        have hlr : (row.map kD).length < 16777216 := by rw [List.length_map]; omega
        have hmk : row.map kD ++ [kD i] = (row ++ [i]).map kD := by simp
        obtain ⟨m2, hm2⟩ : ∃ m2, m2 = m1.set lu (.lst (row.map kD ++ [kD i])) := ⟨_, rfl⟩
        have ha2 : m2[a]? = some (.lst (f i)) := by rw [hm2, get_set_ne' (Ne.symm hal')]; exact ha
        have hg2 : m2[G]? = some (gate pl kd lu) := by rw [hm2, get_set_ne' (Ne.symm n2)]; exact hg
        have hd2 : m2[kd]? = some (.mix kvs) := by rw [hm2, get_set_ne' (Ne.symm n3)]; exact hd
        have hl2 : m2[lu]? = some (.lst ((row ++ [i]).map kD)) := by rw [hm2, ← hmk]; exact get_set hl
        have ml2 : m2.length = m.length + 1 := by rw [hm2, List.length_set]; exact hm1
        have fr2 : Frm [kd, lu] m m2 := by rw [hm2]; exact fr1.set (.inl (by simp)) _
        obtain ⟨m3, hm3⟩ : ∃ m3, m3 = m2 ++ [O.lst (f i ++ [.tup ys])] := ⟨_, rfl⟩
        have hd3 : m3[kd]? = some (.mix kvs) := by rw [hm3]; exact get_app _ hd2
        have hg3 : m3[G]? = some (gate pl kd lu) := by rw [hm3]; exact get_app _ hg2
        have hl3 : m3[lu]? = some (.lst ((row ++ [i]).map kD)) := by rw [hm3]; exact get_app _ hl2
        have hn3 : m3[m.length + 1]? = some (.lst (f i ++ [.tup ys])) := by rw [hm3, ← ml2]; exact get_new
        have fr3 : Frm [kd, lu] m m3 := by rw [hm3]; exact fr2.trans (Frm.app _ _ _)
        have hput : mput (.d (.ref kd)) (.d (kD i)) (.ref (m.length + 1)) m3 = .ok () (m3.set kd (.mix (setK kvs (nK i) (.ref (m.length + 1))))) := mput_ok hd3 ki kd8 hz1
        have fin : GJ (m3.set kd (.mix (setK kvs (nK i) (.ref (m.length + 1))))) X G kd lu pl (row ++ [i]) (fset f i (f i ++ [.tup ys])) (c + 1) (setK kvs (nK i) (.ref (m.length + 1))) := by
          have fr4 : Frm [kd, lu] m (m3.set kd (.mix (setK kvs (nK i) (.ref (m.length + 1))))) := fr3.set (.inl (by simp)) _
          refine ⟨by rw [get_set_ne' (Ne.symm n1)]; exact hg3, by rw [get_set_ne' n3]; exact hl3, hfin _ _ fr4 (get_set hd3) (fun j hj q => set_other hi hj q _) (row_set (by rw [get_set_ne' (by omega)]; exact hn3) fun z => by have := hX _ z; omega) (set_le hcb), hGx, hDx, hLx⟩
        have fr4 : Frm [kd, lu] m (m3.set kd (.mix (setK kvs (nK i) (.ref (m.length + 1))))) := fr3.set (.inl (by simp)) _
        have hg2' := hg2
        have hg3' := hg3
        unfold gate at hg0 hg hg2' hg3'
        generalize m3.set kd (.mix (setK kvs (nK i) (.ref (m.length + 1)))) = m4 at *
        generalize row.map kD = RW at *
        generalize kD i = K at *
        generalize hQe : f i = Q at *
        (simp -implicitDefEqProofs (maxSteps := 2000000) (disch := (first | omega | decide +kernel | (simp only [isSome_set, isSome_app, isSome_new, Option.isSome_some, *]; done) | (simp only [isSome_lt, List.length_set, List.length_append, List.length_cons, List.length_nil, decide_eq_true_eq]; omega))) only [seqS_mk, asgS_mk, ifS_mk, retS_mk, retNS_mk, skipS_mk, dropS_mk, brkS_mk, cntS_mk, forS_mk, seqI_mk, matE_mk, callF_mk, callB_mk, consA_mk, nilA_mk, consT_mk, nilT_mk, tvs_mk, binE_mk, varE_0, varE_s, kE_mk, set_0, set_s, nmG_mk, lstE_mk, tupE_mk, bT_mk, tstT_mk, notT_mk, andT_mk, orT_mk, yesT_mk, andE_mk, orE_mk, notE_mk, ifE_mk, negE_mk, sliceE_mk, noP_mk, intP_mk, bmE_mk, bmE0_mk, isiB_mk, lcE_mk, lcT_mk, wipeE_nil, wipeE_cons, liftF_ok, matD_d, matD_l, boolT_mk, truthM_bl, truthM_int, truthM_non, opAdd_i, opSub_i, opLt_i, opLe_i, opGt_i, opGe_i, opEq_i, opNe_i, opMod_p, opDiv_p, seqSrc_l, seqSrc_clst, seqSrc_tup, ofL_n, ofR_n, opCut_l, opCut_tup, opCut_clst, callB_len_clst, callB_len_l, callB_len_tup, isi_int_int, isi_int_bool, isi_bool_bool, isi_bool_int, if_true, List.map_cons, List.map_nil, Int.toNat_natCast, List.length_cons, List.length_nil, List.replicate_succ, List.replicate_zero, List.cons_append, List.nil_append, Nat.sub_self, Nat.reduceSub, Nat.reduceAdd, ite_at, Bool.not_true, Bool.not_false, decide_true, decide_false, Bool.false_eq_true, if_false, reduceIte, fldE_mk, ev_fld, sfldS_mk, ev_setF, ev_putD_nil, ev_putD, methE_mk, ev_meth, augFS_mk, ev_aug, ev_len, ev_len2, len2_clst, len2_l, len2_tup, ev_list, ev_list2, list_tup, list_clst, list_l, list2_tup, list2_l, list2_clst, ev_tuple, tuple_tup, bTuple_l, ev_cut, ev_idx, ev_idxT, ev_idxL, ev_idxC, subS_mk, ev_subs, subs_l, subs_tup, subs_clst, subs_str, key_int, key_str, ev_getK_nil, ev_getK, ev_put, ev_src, ev_append, ev_extend, listOfM_l, ev_listOfM, listOf_l, listOf_clst, ev_listOf, ev_clear, chk_list, chk_str, chk_dic, dgetE_mk, dgetM_ev, dget2E_mk, dget2M_ev, ev_dget, ev_dgetY, ev_dget2Y, dpopE_mk, get_set_ne', get_set_is, get_app_is, get_new, ite_lt, ite_le, at_0, at_1, at_2, at_3, at_4, at_end, tupG_mk, tupG_mk', consG_mk, nilG_mk, sne, sbne, beq_self_eq_true, List.lookup_cons, List.lookup_nil, List.mem_cons, List.not_mem_nil, or_false, false_or, true_or, or_true, and_true, true_and, and_false, false_and, eq_self, Option.isSome_some, Option.isSome_none, Option.map_some, Option.map_none, opIs_nn, opIs_ni, opIsNot_nn, opIsNot_ni, opIsB_b, opIsNotB_b, opMul_l, opMul_r, opEq_b, opNe_b, bMax2_i, bMin2_i, List.map_cons, Sum.inl.injEq, Sum.inr.injEq, isi_l_list, isi_tup_tup, List.length_set, decide_eq_true_eq, negE_mk, Nat.reduceLT, Nat.reduceLeDiff, Nat.reduceEqDiff, Nat.reduceMul, Int.reduceLT, Int.reduceLE, Int.reduceEq, Int.reduceAdd, Int.reduceSub, Int.reduceMul, Int.reduceNeg, Int.reduceToNat, Int.reducePow, Nat.reducePow, Int.reduceMod, Int.reduceDiv, reduceCtorEq, ite_true, List.nil_append, Nat.reduceBEq, isXE_mk, ev_isX, xfE_mk, ev_xf, raiseS_mk, raiseFS_mk, excM_mk, goneF_nxt, goneF_ret, opMulX_i, ev_addRL, ev_addLR, ev_addRR, ite_le2, opAdd_s, opAdd_t, chainE_mk, chainR_b, ev_isl, andE_mk, orE_mk, notE_mk, is_non_int, is_non_bool, is_non_str, is_non_list, is_non_tuple, is_bl_int, is_bl_bool, is_bl_str, is_bl_list, is_bl_tuple, is_int_int, is_int_bool, is_int_str, is_int_list, is_int_tuple, is_str_int, is_str_bool, is_str_str, is_str_list, is_str_tuple, is_tup_int, is_tup_bool, is_tup_str, is_tup_list, is_tup_tuple, is_l_int, is_l_bool, is_l_str, is_l_list, is_l_tuple, unpG_tup, unpG_ref, opEq_s, opNe_s, len2_str, leX_ss, seqIX_mk, srcX_str, ↓toBT, ↓toWT, bt_ok, bt_bt, wt_bt, wt_okM, wt_ok, wt_exc, wt_ite, wt_lift, wt_make, wt_try, mget2E_mk, mputS_mk, hg0, hg, ev, hm1e, hz, hii, ha, hpe, heq, hl, hlr, hm2.symm, ha2, hQ1, hm3.symm, ml2, hg3', hg2', hput] <;> try simp -implicitDefEqProofs only [bt_eq, wt_eq])
        exact ⟨⟨_, fin⟩, fr4⟩
      · have hdn : decide ((f i).length = 0) = false := by
          refine decide_eq_false fun z => e (List.eq_nil_of_length_eq_zero z)
        rw [hdn] at heq
        rw [if_neg e]
        obtain ⟨m3, hm3⟩ : ∃ m3, m3 = m1 ++ [O.lst (f i ++ [.tup ys])] := ⟨_, rfl⟩
        have hd3 : m3[kd]? = some (.mix kvs) := by rw [hm3]; exact get_app _ hd
        have hg3 : m3[G]? = some (gate pl kd lu) := by rw [hm3]; exact get_app _ hg
        have hl3 : m3[lu]? = some (.lst (row.map kD)) := by rw [hm3]; exact get_app _ hl
        have hn3 : m3[m.length + 1]? = some (.lst (f i ++ [.tup ys])) := by rw [hm3, ← hm1]; exact get_new
        have fr3 : Frm [kd, lu] m m3 := by rw [hm3]; exact fr1.trans (Frm.app _ _ _)
        have hput : mput (.d (.ref kd)) (.d (kD i)) (.ref (m.length + 1)) m3 = .ok () (m3.set kd (.mix (setK kvs (nK i) (.ref (m.length + 1))))) := mput_ok hd3 ki kd8 hz1
        have fr4 : Frm [kd, lu] m (m3.set kd (.mix (setK kvs (nK i) (.ref (m.length + 1))))) := fr3.set (.inl (by simp)) _
        have fin : GJ (m3.set kd (.mix (setK kvs (nK i) (.ref (m.length + 1))))) X G kd lu pl row (fset f i (f i ++ [.tup ys])) (c + 1) (setK kvs (nK i) (.ref (m.length + 1))) := by
          refine ⟨by rw [get_set_ne' (Ne.symm n1)]; exact hg3, by rw [get_set_ne' n3]; exact hl3, hfin _ _ fr4 (get_set hd3) (fun j hj q => set_other hi hj q _) (row_set (by rw [get_set_ne' (by omega)]; exact hn3) fun z => by have := hX _ z; omega) (set_le hcb), hGx, hDx, hLx⟩
        have hg3' := hg3
        unfold gate at hg0 hg hg3'
        generalize m3.set kd (.mix (setK kvs (nK i) (.ref (m.length + 1)))) = m4 at *
        generalize kD i = K at *
        generalize hQe : f i = Q at *
        (simp -implicitDefEqProofs (maxSteps := 2000000) (disch := (first | omega | decide +kernel | (simp only [isSome_set, isSome_app, isSome_new, Option.isSome_some, *]; done) | (simp only [isSome_lt, List.length_set, List.length_append, List.length_cons, List.length_nil, decide_eq_true_eq]; omega))) only [seqS_mk, asgS_mk, ifS_mk, retS_mk, retNS_mk, skipS_mk, dropS_mk, brkS_mk, cntS_mk, forS_mk, seqI_mk, matE_mk, callF_mk, callB_mk, consA_mk, nilA_mk, consT_mk, nilT_mk, tvs_mk, binE_mk, varE_0, varE_s, kE_mk, set_0, set_s, nmG_mk, lstE_mk, tupE_mk, bT_mk, tstT_mk, notT_mk, andT_mk, orT_mk, yesT_mk, andE_mk, orE_mk, notE_mk, ifE_mk, negE_mk, sliceE_mk, noP_mk, intP_mk, bmE_mk, bmE0_mk, isiB_mk, lcE_mk, lcT_mk, wipeE_nil, wipeE_cons, liftF_ok, matD_d, matD_l, boolT_mk, truthM_bl, truthM_int, truthM_non, opAdd_i, opSub_i, opLt_i, opLe_i, opGt_i, opGe_i, opEq_i, opNe_i, opMod_p, opDiv_p, seqSrc_l, seqSrc_clst, seqSrc_tup, ofL_n, ofR_n, opCut_l, opCut_tup, opCut_clst, callB_len_clst, callB_len_l, callB_len_tup, isi_int_int, isi_int_bool, isi_bool_bool, isi_bool_int, if_true, List.map_cons, List.map_nil, Int.toNat_natCast, List.length_cons, List.length_nil, List.replicate_succ, List.replicate_zero, List.cons_append, List.nil_append, Nat.sub_self, Nat.reduceSub, Nat.reduceAdd, ite_at, Bool.not_true, Bool.not_false, decide_true, decide_false, Bool.false_eq_true, if_false, reduceIte, fldE_mk, ev_fld, sfldS_mk, ev_setF, ev_putD_nil, ev_putD, methE_mk, ev_meth, augFS_mk, ev_aug, ev_len, ev_len2, len2_clst, len2_l, len2_tup, ev_list, ev_list2, list_tup, list_clst, list_l, list2_tup, list2_l, list2_clst, ev_tuple, tuple_tup, bTuple_l, ev_cut, ev_idx, ev_idxT, ev_idxL, ev_idxC, subS_mk, ev_subs, subs_l, subs_tup, subs_clst, subs_str, key_int, key_str, ev_getK_nil, ev_getK, ev_put, ev_src, ev_append, ev_extend, listOfM_l, ev_listOfM, listOf_l, listOf_clst, ev_listOf, ev_clear, chk_list, chk_str, chk_dic, dgetE_mk, dgetM_ev, dget2E_mk, dget2M_ev, ev_dget, ev_dgetY, ev_dget2Y, dpopE_mk, get_set_ne', get_set_is, get_app_is, get_new, ite_lt, ite_le, at_0, at_1, at_2, at_3, at_4, at_end, tupG_mk, tupG_mk', consG_mk, nilG_mk, sne, sbne, beq_self_eq_true, List.lookup_cons, List.lookup_nil, List.mem_cons, List.not_mem_nil, or_false, false_or, true_or, or_true, and_true, true_and, and_false, false_and, eq_self, Option.isSome_some, Option.isSome_none, Option.map_some, Option.map_none, opIs_nn, opIs_ni, opIsNot_nn, opIsNot_ni, opIsB_b, opIsNotB_b, opMul_l, opMul_r, opEq_b, opNe_b, bMax2_i, bMin2_i, List.map_cons, Sum.inl.injEq, Sum.inr.injEq, isi_l_list, isi_tup_tup, List.length_set, decide_eq_true_eq, negE_mk, Nat.reduceLT, Nat.reduceLeDiff, Nat.reduceEqDiff, Nat.reduceMul, Int.reduceLT, Int.reduceLE, Int.reduceEq, Int.reduceAdd, Int.reduceSub, Int.reduceMul, Int.reduceNeg, Int.reduceToNat, Int.reducePow, Nat.reducePow, Int.reduceMod, Int.reduceDiv, reduceCtorEq, ite_true, List.nil_append, Nat.reduceBEq, isXE_mk, ev_isX, xfE_mk, ev_xf, raiseS_mk, raiseFS_mk, excM_mk, goneF_nxt, goneF_ret, opMulX_i, ev_addRL, ev_addLR, ev_addRR, ite_le2, opAdd_s, opAdd_t, chainE_mk, chainR_b, ev_isl, andE_mk, orE_mk, notE_mk, is_non_int, is_non_bool, is_non_str, is_non_list, is_non_tuple, is_bl_int, is_bl_bool, is_bl_str, is_bl_list, is_bl_tuple, is_int_int, is_int_bool, is_int_str, is_int_list, is_int_tuple, is_str_int, is_str_bool, is_str_str, is_str_list, is_str_tuple, is_tup_int, is_tup_bool, is_tup_str, is_tup_list, is_tup_tuple, is_l_int, is_l_bool, is_l_str, is_l_list, is_l_tuple, unpG_tup, unpG_ref, opEq_s, opNe_s, len2_str, leX_ss, seqIX_mk, srcX_str, ↓toBT, ↓toWT, bt_ok, bt_bt, wt_bt, wt_okM, wt_ok, wt_exc, wt_ite, wt_lift, wt_make, wt_try, mget2E_mk, mputS_mk, hg0, hg, ev, hm1e, hz, hii, ha, hpe, heq, hQ1, hm3.symm, hm1, hg3', hput] <;> try simp -implicitDefEqProofs only [bt_eq, wt_eq])
        exact ⟨⟨_, fin⟩, fr4⟩
end
end Law

set_option maxHeartbeats 1000000
namespace Law
open PySem L2 Mir
def nextR (rest : List Nat) (t : List D) (k : Nat) : List Nat := if t = [] then rest else rest ++ [k]
def outS : Nat → List Nat → (Nat → List D) → List D × List Nat × (Nat → List D)
  | 0, row, f => ([], row, f)
  | _ + 1, [], f => ([], [], f)
  | n + 1, k :: rest, f => ((f k).headD .non :: (outS n (nextR rest (f k).tail k) (fset f k (f k).tail)).1, (outS n (nextR rest (f k).tail k) (fset f k (f k).tail)).2)
theorem outS_nil (n : Nat) (f : Nat → List D) : outS n [] f = ([], [], f) := by cases n <;> rfl
theorem outS_cons {n : Nat} {k : Nat} {rest : List Nat} {f : Nat → List D} {p : D} {t : List D} (h : f k = p :: t) : outS (n + 1) (k :: rest) f = (p :: (outS n (nextR rest t k) (fset f k t)).1, (outS n (nextR rest t k) (fset f k t)).2) := by
  rw [outS, h]; rfl
section
variable {m m' : Mem} {X J : List Nat} {G kd lu : Nat} {pl : Int} {row : List Nat} {f : Nat → List D} {c : Nat} {kvs : List (NestedKey × D)}
theorem KP.to (h : KP m X kd f c kvs) {Y : List Nat} (hY : ∀ y ∈ Y, y ∈ X ∨ m.length ≤ y) : KP m Y kd f c kvs :=
  ⟨h.d, h.len, fun i hi => (h.row i hi).imp id fun ⟨r, h1, h2, h3⟩ => ⟨r, h1, h2, fun z => by
    have := lt_of h2
    rcases hY r z with z | z
    · exact h3 z
    · omega⟩⟩
theorem GJ.to (h : GJ m X G kd lu pl row f c kvs) {Y : List Nat} (hY : ∀ y ∈ Y, y ∈ X ∨ m.length ≤ y) (hs : ∀ x ∈ X, x ∈ Y) : GJ m Y G kd lu pl row f c kvs :=
  ⟨h.g, h.l, h.k.to hY, hs _ h.gx, hs _ h.dx, hs _ h.lx⟩
theorem give_ok {k : Nat} {rest : List Nat} (h : GJ m X G kd lu pl (k :: rest) f c kvs) (R : RS pl (k :: rest) f) (hX : ∀ x ∈ X, x < m.length) (hc : c ≤ 100000) {p : D} {t : List D} (hf : f k = p :: t) :
    wpR (F_Gate_give [.ref G] m) (fun d m' => d = p ∧ (∃ kvs', GJ m' (m.length :: X) G kd m.length pl (nextR rest t k) (fset f k t) (c + 1) kvs') ∧ Frm [G, kd] m m' ∧ m.length < m'.length) noEx := by
  refine wp_fn ?_
  unfold m_Gate_give
  obtain ⟨n1, n2, n3⟩ := h.ne
  have hi := R.rb k (by simp)
  have hcb := h.k.len
  have hg := h.g
  have hd := h.k.d
  have hl := h.l
  have hrl := R.len
  have hlg := lt_of h.g
  have hld := lt_of h.k.d
  have hfl := R.fl k hi
  have hpb := R.pb
  have ki := k_nk k hi
  have kd8 := n_dep k hi
  have hrow := h.k.row k hi
  rw [hf] at hrow hfl
  obtain ⟨r, h1, h2, h3⟩ : ∃ r, getK kvs (nK k) = some (.ref r) ∧ m[r]? = some (.lst (p :: t)) ∧ r ∉ X := by
    rcases hrow with ⟨_, z⟩ | z
    · cases z
    · exact z
  have hlr := lt_of h2
  have hrk : r ≠ kd := fun z => h3 (z ▸ h.dx)
  have hrG : r ≠ G := fun z => h3 (z ▸ h.gx)
  have hpop := mpopY_ok hd ki kd8 h1
  have evp := fun e env => mpopM_ev hd e env
  have hsl : cutD (kD k :: rest.map kD) (some 1) none = rest.map kD := by
    rw [show (some (1 : Int)) = some ((1 : Nat) : Int) from rfl, cut_from _ 1 (by simp)]; simp
  have hsl2 : cutD (p :: t) (some 1) none = t := by
    rw [show (some (1 : Int)) = some ((1 : Nat) : Int) from rfl, cut_from _ 1 (by simp)]; simp
  have hgrow : KP m (m.length :: X) kd f c kvs := h.k.grow (Nat.le_refl _)
  have hfin := fun (kvs' : List (NestedKey × D)) m' hfr (hh : m'[kd]? = some (.mix kvs')) => @KP.set m m' (m.length :: X) [G, kd] kd f c kvs kvs' hgrow k t (c + 1) hi hfr (by simp [h.dx, h.gx]) hh
  have hdl : (delK kvs (nK k)).length ≤ c := Nat.le_trans (List.length_filter_le _ _) hcb
  obtain ⟨m1, hm1⟩ : ∃ m1, m1 = m.set kd (.mix (delK kvs (nK k))) := ⟨_, rfl⟩
  have hd1 : m1[kd]? = some (.mix (delK kvs (nK k))) := by rw [hm1]; exact get_set hd
  have hg1 : m1[G]? = some (gate pl kd lu) := by rw [hm1, get_set_ne' (Ne.symm n1)]; exact hg
  have hl1 : m1[lu]? = some (.lst (kD k :: rest.map kD)) := by rw [hm1, get_set_ne' n3]; exact hl
  have hr1 : m1[r]? = some (.lst (p :: t)) := by rw [hm1, get_set_ne' (Ne.symm hrk)]; exact h2
  have ml1 : m1.length = m.length := by rw [hm1, List.length_set]
  have f1 : Frm [G, kd] m m1 := by rw [hm1]; exact (Frm.refl _ _).set (.inl (by simp)) _
  obtain ⟨m3, hm3⟩ : ∃ m3, m3 = (m1 ++ [O.lst (rest.map kD)]).set G (gate pl kd m.length) := ⟨_, rfl⟩
  have hd3 : m3[kd]? = some (.mix (delK kvs (nK k))) := by rw [hm3, get_set_ne' n1]; exact get_app _ hd1
  have hg3 : m3[G]? = some (gate pl kd m.length) := by rw [hm3]; exact get_set (get_app _ hg1)
  have hl3 : m3[m.length]? = some (.lst (rest.map kD)) := by rw [hm3, get_set_ne' (by omega), ← ml1]; exact get_new
  have hr3 : m3[r]? = some (.lst (p :: t)) := by rw [hm3, get_set_ne' (Ne.symm hrG)]; exact get_app _ hr1
  have ml3 : m3.length = m.length + 1 := by rw [hm3]; simp [ml1]
  have f3 : Frm [G, kd] m m3 := by rw [hm3]; exact (f1.trans (Frm.app _ _ _)).set (.inl (by simp)) _
  have hgt : (t.length : Int) + 1 > 1 ↔ t ≠ [] := by
    cases t with
    | nil => simp
    | cons a b => simp; omega
  have hlen : ((p :: t).length : Int) = (t.length : Int) + 1 := by simp
  have hGx := h.gx
  have hDx := h.dx
  have hg0 := hg
  have hg10 := hg1
  have hg30 := hg3
  have hm30 := hm3
  unfold gate at hg0 hg10 hg30 hm30
  rw [List.map_cons] at hl
  cases t with
  | nil =>
    have fin : GJ m3 (m.length :: X) G kd m.length pl (nextR rest [] k) (fset f k []) (c + 1) (delK kvs (nK k)) :=
      ⟨hg3, hl3, hfin _ _ f3 hd3 (fun j hj q => del_other hi hj q) (.inl ⟨by rw [getK_del, if_pos rfl], rfl⟩) (by omega), List.mem_cons_of_mem _ hGx, List.mem_cons_of_mem _ hDx, by simp⟩
    generalize kD k = K at *
    generalize rest.map kD = RW at *
    (simp -implicitDefEqProofs (maxSteps := 2000000) (disch := (first | omega | decide +kernel | (simp only [isSome_set, isSome_app, isSome_new, Option.isSome_some, *]; done) | (simp only [isSome_lt, List.length_set, List.length_append, List.length_cons, List.length_nil, decide_eq_true_eq]; omega))) only [seqS_mk, asgS_mk, ifS_mk, retS_mk, retNS_mk, skipS_mk, dropS_mk, brkS_mk, cntS_mk, forS_mk, seqI_mk, matE_mk, callF_mk, callB_mk, consA_mk, nilA_mk, consT_mk, nilT_mk, tvs_mk, binE_mk, varE_0, varE_s, kE_mk, set_0, set_s, nmG_mk, lstE_mk, tupE_mk, bT_mk, tstT_mk, notT_mk, andT_mk, orT_mk, yesT_mk, andE_mk, orE_mk, notE_mk, ifE_mk, negE_mk, sliceE_mk, noP_mk, intP_mk, bmE_mk, bmE0_mk, isiB_mk, lcE_mk, lcT_mk, wipeE_nil, wipeE_cons, liftF_ok, matD_d, matD_l, boolT_mk, truthM_bl, truthM_int, truthM_non, opAdd_i, opSub_i, opLt_i, opLe_i, opGt_i, opGe_i, opEq_i, opNe_i, opMod_p, opDiv_p, seqSrc_l, seqSrc_clst, seqSrc_tup, ofL_n, ofR_n, opCut_l, opCut_tup, opCut_clst, callB_len_clst, callB_len_l, callB_len_tup, isi_int_int, isi_int_bool, isi_bool_bool, isi_bool_int, if_true, List.map_cons, List.map_nil, Int.toNat_natCast, List.length_cons, List.length_nil, List.replicate_succ, List.replicate_zero, List.cons_append, List.nil_append, Nat.sub_self, Nat.reduceSub, Nat.reduceAdd, ite_at, Bool.not_true, Bool.not_false, decide_true, decide_false, Bool.false_eq_true, if_false, reduceIte, fldE_mk, ev_fld, sfldS_mk, ev_setF, ev_putD_nil, ev_putD, methE_mk, ev_meth, augFS_mk, ev_aug, ev_len, ev_len2, len2_clst, len2_l, len2_tup, ev_list, ev_list2, list_tup, list_clst, list_l, list2_tup, list2_l, list2_clst, ev_tuple, tuple_tup, bTuple_l, ev_cut, ev_idx, ev_idxT, ev_idxL, ev_idxC, subS_mk, ev_subs, subs_l, subs_tup, subs_clst, subs_str, key_int, key_str, ev_getK_nil, ev_getK, ev_put, ev_src, ev_append, ev_extend, listOfM_l, ev_listOfM, listOf_l, listOf_clst, ev_listOf, ev_clear, chk_list, chk_str, chk_dic, dgetE_mk, dgetM_ev, dget2E_mk, dget2M_ev, ev_dget, ev_dgetY, ev_dget2Y, dpopE_mk, get_set_ne', get_set_is, get_app_is, get_new, ite_lt, ite_le, at_0, at_1, at_2, at_3, at_4, at_end, tupG_mk, tupG_mk', consG_mk, nilG_mk, sne, sbne, beq_self_eq_true, List.lookup_cons, List.lookup_nil, List.mem_cons, List.not_mem_nil, or_false, false_or, true_or, or_true, and_true, true_and, and_false, false_and, eq_self, Option.isSome_some, Option.isSome_none, Option.map_some, Option.map_none, opIs_nn, opIs_ni, opIsNot_nn, opIsNot_ni, opIsB_b, opIsNotB_b, opMul_l, opMul_r, opEq_b, opNe_b, bMax2_i, bMin2_i, List.map_cons, Sum.inl.injEq, Sum.inr.injEq, isi_l_list, isi_tup_tup, List.length_set, decide_eq_true_eq, negE_mk, Nat.reduceLT, Nat.reduceLeDiff, Nat.reduceEqDiff, Nat.reduceMul, Int.reduceLT, Int.reduceLE, Int.reduceEq, Int.reduceAdd, Int.reduceSub, Int.reduceMul, Int.reduceNeg, Int.reduceToNat, Int.reducePow, Nat.reducePow, Int.reduceMod, Int.reduceDiv, reduceCtorEq, ite_true, List.nil_append, Nat.reduceBEq, isXE_mk, ev_isX, xfE_mk, ev_xf, raiseS_mk, raiseFS_mk, excM_mk, goneF_nxt, goneF_ret, opMulX_i, ev_addRL, ev_addLR, ev_addRR, ite_le2, opAdd_s, opAdd_t, chainE_mk, chainR_b, ev_isl, andE_mk, orE_mk, notE_mk, is_non_int, is_non_bool, is_non_str, is_non_list, is_non_tuple, is_bl_int, is_bl_bool, is_bl_str, is_bl_list, is_bl_tuple, is_int_int, is_int_bool, is_int_str, is_int_list, is_int_tuple, is_str_int, is_str_bool, is_str_str, is_str_list, is_str_tuple, is_tup_int, is_tup_bool, is_tup_str, is_tup_list, is_tup_tuple, is_l_int, is_l_bool, is_l_str, is_l_list, is_l_tuple, unpG_tup, unpG_ref, opEq_s, opNe_s, len2_str, leX_ss, seqIX_mk, srcX_str, ↓toBT, ↓toWT, bt_ok, bt_bt, wt_bt, wt_okM, wt_ok, wt_exc, wt_ite, wt_lift, wt_make, wt_try, mpopE_mk, hg0, hl, evp, hpop, hm1.symm, hg10, hl1, hsl, ml1, hm30.symm, hr3, hg30] <;> try simp -implicitDefEqProofs only [bt_eq, wt_eq])
    exact ⟨⟨_, fin⟩, f3, by omega⟩
  | cons p2 t =>
    obtain ⟨m4, hm4⟩ : ∃ m4, m4 = m3 ++ [O.lst (p2 :: t)] := ⟨_, rfl⟩
    have hg4 : m4[G]? = some (gate pl kd m.length) := by rw [hm4]; exact get_app _ hg3
    have hd4 : m4[kd]? = some (.mix (delK kvs (nK k))) := by rw [hm4]; exact get_app _ hd3
    have hput : mput (.d (.ref kd)) (.d (kD k)) (.ref (m.length + 1)) m4 = .ok () (m4.set kd (.mix (setK (delK kvs (nK k)) (nK k) (.ref (m.length + 1))))) := mput_ok hd4 ki kd8 (by rw [sizeLine_eq]; omega)
    obtain ⟨m5, hm5⟩ : ∃ m5, m5 = m4.set kd (.mix (setK (delK kvs (nK k)) (nK k) (.ref (m.length + 1)))) := ⟨_, rfl⟩
    have hg5 : m5[G]? = some (gate pl kd m.length) := by rw [hm5, get_set_ne' (Ne.symm n1)]; exact hg4
    have hl5 : m5[m.length]? = some (.lst (rest.map kD)) := by rw [hm5, get_set_ne' (by omega), hm4]; exact get_app _ hl3
    obtain ⟨m6, hm6⟩ : ∃ m6, m6 = m5.set m.length (.lst (rest.map kD ++ [kD k])) := ⟨_, rfl⟩
    have hr6 : m6[r]? = some (.lst (p :: p2 :: t)) := by rw [hm6, get_set_ne' (by omega), hm5, get_set_ne' (Ne.symm hrk), hm4]; exact get_app _ hr3
    have hn6 : m6[m.length + 1]? = some (.lst (p2 :: t)) := by rw [hm6, get_set_ne' (by omega), hm5, get_set_ne' (by omega), hm4, ← ml3]; exact get_new
    have f6 : Frm [G, kd] m m6 := by
      rw [hm6, hm5, hm4]
      exact ((f3.trans (Frm.app _ _ _)).set (.inl (by simp)) _).set (.inr (Nat.le_refl _)) _
    have hg6 : m6[G]? = some (gate pl kd m.length) := by rw [hm6, get_set_ne' (by omega)]; exact hg5
    have hd6 : m6[kd]? = some (.mix (setK (delK kvs (nK k)) (nK k) (.ref (m.length + 1)))) := by rw [hm6, get_set_ne' (by omega), hm5]; exact get_set hd4
    have hl6 : m6[m.length]? = some (.lst (rest.map kD ++ [kD k])) := by rw [hm6]; exact get_set hl5
    have ml6 : m6.length = m.length + 2 := by rw [hm6, hm5, hm4]; simp [ml3]
    have hsz2 : (rest.map kD).length < 16777216 := by rw [List.length_map]; simp only [List.length_cons] at hrl; omega
    have htr : (nextR rest (p2 :: t) k).map kD = rest.map kD ++ [kD k] := by unfold nextR; rw [if_neg (by simp)]; simp
    have fin : GJ m6 (m.length :: X) G kd m.length pl (nextR rest (p2 :: t) k) (fset f k (p2 :: t)) (c + 1) (setK (delK kvs (nK k)) (nK k) (.ref (m.length + 1))) :=
      ⟨hg6, by rw [htr]; exact hl6, hfin _ _ f6 hd6 (fun j hj q => by rw [set_other hi hj q, del_other hi hj q]) (.inr ⟨m.length + 1, by rw [getK_set, if_pos rfl], hn6, fun z => by
        rcases List.mem_cons.mp z with z | z
        · omega
        · have := hX _ z; omega⟩) (set_le hdl), List.mem_cons_of_mem _ hGx, List.mem_cons_of_mem _ hDx, by simp⟩
    have hgt2 : (((p2 :: t).length : Int) + 1 > 1) := by simp only [List.length_cons]; omega
    have hg40 := hg4
    have hg50 := hg5
    unfold gate at hg40 hg50
    generalize kD k = K at *
    generalize rest.map kD = RW at *
    (simp -implicitDefEqProofs (maxSteps := 2000000) (disch := (first | omega | decide +kernel | (simp only [isSome_set, isSome_app, isSome_new, Option.isSome_some, *]; done) | (simp only [isSome_lt, List.length_set, List.length_append, List.length_cons, List.length_nil, decide_eq_true_eq]; omega))) only [seqS_mk, asgS_mk, ifS_mk, retS_mk, retNS_mk, skipS_mk, dropS_mk, brkS_mk, cntS_mk, forS_mk, seqI_mk, matE_mk, callF_mk, callB_mk, consA_mk, nilA_mk, consT_mk, nilT_mk, tvs_mk, binE_mk, varE_0, varE_s, kE_mk, set_0, set_s, nmG_mk, lstE_mk, tupE_mk, bT_mk, tstT_mk, notT_mk, andT_mk, orT_mk, yesT_mk, andE_mk, orE_mk, notE_mk, ifE_mk, negE_mk, sliceE_mk, noP_mk, intP_mk, bmE_mk, bmE0_mk, isiB_mk, lcE_mk, lcT_mk, wipeE_nil, wipeE_cons, liftF_ok, matD_d, matD_l, boolT_mk, truthM_bl, truthM_int, truthM_non, opAdd_i, opSub_i, opLt_i, opLe_i, opGt_i, opGe_i, opEq_i, opNe_i, opMod_p, opDiv_p, seqSrc_l, seqSrc_clst, seqSrc_tup, ofL_n, ofR_n, opCut_l, opCut_tup, opCut_clst, callB_len_clst, callB_len_l, callB_len_tup, isi_int_int, isi_int_bool, isi_bool_bool, isi_bool_int, if_true, List.map_cons, List.map_nil, Int.toNat_natCast, List.length_cons, List.length_nil, List.replicate_succ, List.replicate_zero, List.cons_append, List.nil_append, Nat.sub_self, Nat.reduceSub, Nat.reduceAdd, ite_at, Bool.not_true, Bool.not_false, decide_true, decide_false, Bool.false_eq_true, if_false, reduceIte, fldE_mk, ev_fld, sfldS_mk, ev_setF, ev_putD_nil, ev_putD, methE_mk, ev_meth, augFS_mk, ev_aug, ev_len, ev_len2, len2_clst, len2_l, len2_tup, ev_list, ev_list2, list_tup, list_clst, list_l, list2_tup, list2_l, list2_clst, ev_tuple, tuple_tup, bTuple_l, ev_cut, ev_idx, ev_idxT, ev_idxL, ev_idxC, subS_mk, ev_subs, subs_l, subs_tup, subs_clst, subs_str, key_int, key_str, ev_getK_nil, ev_getK, ev_put, ev_src, ev_append, ev_extend, listOfM_l, ev_listOfM, listOf_l, listOf_clst, ev_listOf, ev_clear, chk_list, chk_str, chk_dic, dgetE_mk, dgetM_ev, dget2E_mk, dget2M_ev, ev_dget, ev_dgetY, ev_dget2Y, dpopE_mk, get_set_ne', get_set_is, get_app_is, get_new, ite_lt, ite_le, at_0, at_1, at_2, at_3, at_4, at_end, tupG_mk, tupG_mk', consG_mk, nilG_mk, sne, sbne, beq_self_eq_true, List.lookup_cons, List.lookup_nil, List.mem_cons, List.not_mem_nil, or_false, false_or, true_or, or_true, and_true, true_and, and_false, false_and, eq_self, Option.isSome_some, Option.isSome_none, Option.map_some, Option.map_none, opIs_nn, opIs_ni, opIsNot_nn, opIsNot_ni, opIsB_b, opIsNotB_b, opMul_l, opMul_r, opEq_b, opNe_b, bMax2_i, bMin2_i, List.map_cons, Sum.inl.injEq, Sum.inr.injEq, isi_l_list, isi_tup_tup, List.length_set, decide_eq_true_eq, negE_mk, Nat.reduceLT, Nat.reduceLeDiff, Nat.reduceEqDiff, Nat.reduceMul, Int.reduceLT, Int.reduceLE, Int.reduceEq, Int.reduceAdd, Int.reduceSub, Int.reduceMul, Int.reduceNeg, Int.reduceToNat, Int.reducePow, Nat.reducePow, Int.reduceMod, Int.reduceDiv, reduceCtorEq, ite_true, List.nil_append, Nat.reduceBEq, isXE_mk, ev_isX, xfE_mk, ev_xf, raiseS_mk, raiseFS_mk, excM_mk, goneF_nxt, goneF_ret, opMulX_i, ev_addRL, ev_addLR, ev_addRR, ite_le2, opAdd_s, opAdd_t, chainE_mk, chainR_b, ev_isl, andE_mk, orE_mk, notE_mk, is_non_int, is_non_bool, is_non_str, is_non_list, is_non_tuple, is_bl_int, is_bl_bool, is_bl_str, is_bl_list, is_bl_tuple, is_int_int, is_int_bool, is_int_str, is_int_list, is_int_tuple, is_str_int, is_str_bool, is_str_str, is_str_list, is_str_tuple, is_tup_int, is_tup_bool, is_tup_str, is_tup_list, is_tup_tuple, is_l_int, is_l_bool, is_l_str, is_l_list, is_l_tuple, unpG_tup, unpG_ref, opEq_s, opNe_s, len2_str, leX_ss, seqIX_mk, srcX_str, ↓toBT, ↓toWT, bt_ok, bt_bt, wt_bt, wt_okM, wt_ok, wt_exc, wt_ite, wt_lift, wt_make, wt_try, mpopE_mk, mputS_mk, hg0, hl, evp, hpop, hm1.symm, hg10, hl1, hsl, ml1, hm30.symm, hr3, hg30, hsl2, hm4.symm, hg40, ml3, hput, hm5.symm, hg50, hl5, hsz2, hm6.symm, hr6] <;> try simp -implicitDefEqProofs only [bt_eq, wt_eq])
    rw [if_pos (by omega)]
    exact ⟨⟨_, fin⟩, f6, by omega⟩
end
end Law

set_option maxHeartbeats 1000000
namespace Law
open PySem L2 Mir
section
variable {m m' : Mem} {X J : List Nat} {G kd lu : Nat} {pl : Int} {row : List Nat} {f : Nat → List D} {c : Nat} {kvs : List (NestedKey × D)}
/-- parcels given out, as long as there are some -/
theorem out_ok (h : GJ m X G kd lu pl row f c kvs) (R : RS pl row f) (hX : ∀ x ∈ X, x < m.length) (hc : c ≤ 50000) {n : Nat} (hn : n ≤ 1000) :
    wpR (F_Gate_out [.ref G, .int (n : Int)] m) (fun d m' => d = .ref m.length ∧ ∃ lu' Y kvs', GJ m' Y G kd lu' pl (outS n row f).2.1 (outS n row f).2.2 (c + n) kvs' ∧ RS pl (outS n row f).2.1 (outS n row f).2.2 ∧ m'[m.length]? = some (.lst (outS n row f).1) ∧ (∀ x ∈ m.length :: X, x ∈ Y) ∧ (∀ y ∈ Y, y ∈ X ∨ m.length ≤ y) ∧ (∀ y ∈ Y, y < m'.length) ∧ (lu' = lu ∨ m.length ≤ lu') ∧ lu' ≠ m.length ∧ (∀ d ∈ (outS n row f).1, IsP d) ∧ (outS n row f).1.length ≤ n ∧ Frm [G, kd] m m' ∧ m.length < m'.length) noEx := by
  refine wp_fn ?_
  unfold m_Gate_out
  generalize hB : m_Gate_out_0 = B0
  generalize hE : outS n row f = E
  have hlu := lt_of h.l
  (simp -implicitDefEqProofs (maxSteps := 2000000) (disch := (first | omega | decide +kernel | (simp only [isSome_set, isSome_app, isSome_new, Option.isSome_some, *]; done) | (simp only [isSome_lt, List.length_set, List.length_append, List.length_cons, List.length_nil, decide_eq_true_eq]; omega))) only [seqS_mk, asgS_mk, ifS_mk, retS_mk, retNS_mk, skipS_mk, dropS_mk, brkS_mk, cntS_mk, forS_mk, seqI_mk, matE_mk, callF_mk, callB_mk, consA_mk, nilA_mk, consT_mk, nilT_mk, tvs_mk, binE_mk, varE_0, varE_s, kE_mk, set_0, set_s, nmG_mk, lstE_mk, tupE_mk, bT_mk, tstT_mk, notT_mk, andT_mk, orT_mk, yesT_mk, andE_mk, orE_mk, notE_mk, ifE_mk, negE_mk, sliceE_mk, noP_mk, intP_mk, bmE_mk, bmE0_mk, isiB_mk, lcE_mk, lcT_mk, wipeE_nil, wipeE_cons, liftF_ok, matD_d, matD_l, boolT_mk, truthM_bl, truthM_int, truthM_non, opAdd_i, opSub_i, opLt_i, opLe_i, opGt_i, opGe_i, opEq_i, opNe_i, opMod_p, opDiv_p, seqSrc_l, seqSrc_clst, seqSrc_tup, ofL_n, ofR_n, opCut_l, opCut_tup, opCut_clst, callB_len_clst, callB_len_l, callB_len_tup, isi_int_int, isi_int_bool, isi_bool_bool, isi_bool_int, if_true, List.map_cons, List.map_nil, Int.toNat_natCast, List.length_cons, List.length_nil, List.replicate_succ, List.replicate_zero, List.cons_append, List.nil_append, Nat.sub_self, Nat.reduceSub, Nat.reduceAdd, ite_at, Bool.not_true, Bool.not_false, decide_true, decide_false, Bool.false_eq_true, if_false, reduceIte, fldE_mk, ev_fld, sfldS_mk, ev_setF, ev_putD_nil, ev_putD, methE_mk, ev_meth, augFS_mk, ev_aug, ev_len, ev_len2, len2_clst, len2_l, len2_tup, ev_list, ev_list2, list_tup, list_clst, list_l, list2_tup, list2_l, list2_clst, ev_tuple, tuple_tup, bTuple_l, ev_cut, ev_idx, ev_idxT, ev_idxL, ev_idxC, subS_mk, ev_subs, subs_l, subs_tup, subs_clst, subs_str, key_int, key_str, ev_getK_nil, ev_getK, ev_put, ev_src, ev_append, ev_extend, listOfM_l, ev_listOfM, listOf_l, listOf_clst, ev_listOf, ev_clear, chk_list, chk_str, chk_dic, dgetE_mk, dgetM_ev, dget2E_mk, dget2M_ev, ev_dget, ev_dgetY, ev_dget2Y, dpopE_mk, get_set_ne', get_set_is, get_app_is, get_new, ite_lt, ite_le, at_0, at_1, at_2, at_3, at_4, at_end, tupG_mk, tupG_mk', consG_mk, nilG_mk, sne, sbne, beq_self_eq_true, List.lookup_cons, List.lookup_nil, List.mem_cons, List.not_mem_nil, or_false, false_or, true_or, or_true, and_true, true_and, and_false, false_and, eq_self, Option.isSome_some, Option.isSome_none, Option.map_some, Option.map_none, opIs_nn, opIs_ni, opIsNot_nn, opIsNot_ni, opIsB_b, opIsNotB_b, opMul_l, opMul_r, opEq_b, opNe_b, bMax2_i, bMin2_i, List.map_cons, Sum.inl.injEq, Sum.inr.injEq, isi_l_list, isi_tup_tup, List.length_set, decide_eq_true_eq, negE_mk, Nat.reduceLT, Nat.reduceLeDiff, Nat.reduceEqDiff, Nat.reduceMul, Int.reduceLT, Int.reduceLE, Int.reduceEq, Int.reduceAdd, Int.reduceSub, Int.reduceMul, Int.reduceNeg, Int.reduceToNat, Int.reducePow, Nat.reducePow, Int.reduceMod, Int.reduceDiv, reduceCtorEq, ite_true, List.nil_append, Nat.reduceBEq, isXE_mk, ev_isX, xfE_mk, ev_xf, raiseS_mk, raiseFS_mk, excM_mk, goneF_nxt, goneF_ret, opMulX_i, ev_addRL, ev_addLR, ev_addRR, ite_le2, opAdd_s, opAdd_t, chainE_mk, chainR_b, ev_isl, andE_mk, orE_mk, notE_mk, is_non_int, is_non_bool, is_non_str, is_non_list, is_non_tuple, is_bl_int, is_bl_bool, is_bl_str, is_bl_list, is_bl_tuple, is_int_int, is_int_bool, is_int_str, is_int_list, is_int_tuple, is_str_int, is_str_bool, is_str_str, is_str_list, is_str_tuple, is_tup_int, is_tup_bool, is_tup_str, is_tup_list, is_tup_tuple, is_l_int, is_l_bool, is_l_str, is_l_list, is_l_tuple, unpG_tup, unpG_ref, opEq_s, opNe_s, len2_str, leX_ss, seqIX_mk, srcX_str, ↓toBT, ↓toWT, bt_ok, bt_bt, wt_bt, wt_okM, wt_ok, wt_exc, wt_ite, wt_lift, wt_make, wt_try] <;> try simp -implicitDefEqProofs only [bt_eq, wt_eq])
  refine wp_while (fun r env m' => env = [some (.ref G), some (.int (n : Int)), some (.ref m.length)] ∧ ∃ fs row' f' lu' Y kvs' j, GJ m' Y G kd lu' pl row' f' (c + j) kvs' ∧ RS pl row' f' ∧ E = (fs ++ (outS (n - j) row' f').1, (outS (n - j) row' f').2) ∧ m'[m.length]? = some (.lst fs) ∧ fs.length = j ∧ j ≤ n ∧ r = n - j ∧ (∀ x ∈ m.length :: X, x ∈ Y) ∧ (∀ y ∈ Y, y ∈ X ∨ m.length ≤ y) ∧ (∀ y ∈ Y, y < m'.length) ∧ (lu' = lu ∨ m.length ≤ lu') ∧ lu' ≠ m.length ∧ (∀ d ∈ fs, IsP d) ∧ Frm [G, kd] m m' ∧ m.length < m'.length) (n := n)
    ⟨rfl, [], row, f, lu, m.length :: X, kvs, 0, (h.grow (Nat.le_refl _)).ext (Ext.app _ _), R, by rw [Nat.sub_zero, hE]; rfl, get_new, rfl, by omega, by omega, fun x hx => hx, fun y hy => by
        rcases List.mem_cons.mp hy with z | z
        · exact .inr (by omega)
        · exact .inl z, fun y hy => by
        rcases List.mem_cons.mp hy with z | z
        · simp; omega
        · have := hX y z
          simp; omega, .inl rfl, by omega, by simp, Frm.app _ _ _, by simp⟩ (by omega) ?_
  rintro r env m1 ⟨rfl, fs, row', f', lu', Y, kvs', j, hg, R', hEq, hf, hfl, hj, rfl, hY1, hY2, hY3, hlu', hlm, hP, fr, ml⟩
  have hgg := hg.g
  have hl := hg.l
  unfold gate at hgg
  have hlt16 : fs.length < 16777216 := by omega
  have hne := opNe_nil (m := m1) hl (keys_ok row' R'.rb)
  rw [List.length_map] at hne
  have hmY : m.length ∈ Y := hY1 _ (by simp)
  have hlenI : (fs.length : Int) = (j : Int) := by rw [hfl]
  by_cases hlt : j < n
  · have hltI : (j : Int) < (n : Int) := by omega
    cases row' with
    | nil =>
      simp only [List.length_nil, decide_true, Bool.not_true] at hne
      have hE2 : E = (fs, [], f') := by rw [hEq, outS_nil, List.append_nil]
      (simp -implicitDefEqProofs (maxSteps := 2000000) (disch := (first | omega | decide +kernel | (simp only [isSome_set, isSome_app, isSome_new, Option.isSome_some, *]; done) | (simp only [isSome_lt, List.length_set, List.length_append, List.length_cons, List.length_nil, decide_eq_true_eq]; omega))) only [seqS_mk, asgS_mk, ifS_mk, retS_mk, retNS_mk, skipS_mk, dropS_mk, brkS_mk, cntS_mk, forS_mk, seqI_mk, matE_mk, callF_mk, callB_mk, consA_mk, nilA_mk, consT_mk, nilT_mk, tvs_mk, binE_mk, varE_0, varE_s, kE_mk, set_0, set_s, nmG_mk, lstE_mk, tupE_mk, bT_mk, tstT_mk, notT_mk, andT_mk, orT_mk, yesT_mk, andE_mk, orE_mk, notE_mk, ifE_mk, negE_mk, sliceE_mk, noP_mk, intP_mk, bmE_mk, bmE0_mk, isiB_mk, lcE_mk, lcT_mk, wipeE_nil, wipeE_cons, liftF_ok, matD_d, matD_l, boolT_mk, truthM_bl, truthM_int, truthM_non, opAdd_i, opSub_i, opLt_i, opLe_i, opGt_i, opGe_i, opEq_i, opNe_i, opMod_p, opDiv_p, seqSrc_l, seqSrc_clst, seqSrc_tup, ofL_n, ofR_n, opCut_l, opCut_tup, opCut_clst, callB_len_clst, callB_len_l, callB_len_tup, isi_int_int, isi_int_bool, isi_bool_bool, isi_bool_int, if_true, List.map_cons, List.map_nil, Int.toNat_natCast, List.length_cons, List.length_nil, List.replicate_succ, List.replicate_zero, List.cons_append, List.nil_append, Nat.sub_self, Nat.reduceSub, Nat.reduceAdd, ite_at, Bool.not_true, Bool.not_false, decide_true, decide_false, Bool.false_eq_true, if_false, reduceIte, fldE_mk, ev_fld, sfldS_mk, ev_setF, ev_putD_nil, ev_putD, methE_mk, ev_meth, augFS_mk, ev_aug, ev_len, ev_len2, len2_clst, len2_l, len2_tup, ev_list, ev_list2, list_tup, list_clst, list_l, list2_tup, list2_l, list2_clst, ev_tuple, tuple_tup, bTuple_l, ev_cut, ev_idx, ev_idxT, ev_idxL, ev_idxC, subS_mk, ev_subs, subs_l, subs_tup, subs_clst, subs_str, key_int, key_str, ev_getK_nil, ev_getK, ev_put, ev_src, ev_append, ev_extend, listOfM_l, ev_listOfM, listOf_l, listOf_clst, ev_listOf, ev_clear, chk_list, chk_str, chk_dic, dgetE_mk, dgetM_ev, dget2E_mk, dget2M_ev, ev_dget, ev_dgetY, ev_dget2Y, dpopE_mk, get_set_ne', get_set_is, get_app_is, get_new, ite_lt, ite_le, at_0, at_1, at_2, at_3, at_4, at_end, tupG_mk, tupG_mk', consG_mk, nilG_mk, sne, sbne, beq_self_eq_true, List.lookup_cons, List.lookup_nil, List.mem_cons, List.not_mem_nil, or_false, false_or, true_or, or_true, and_true, true_and, and_false, false_and, eq_self, Option.isSome_some, Option.isSome_none, Option.map_some, Option.map_none, opIs_nn, opIs_ni, opIsNot_nn, opIsNot_ni, opIsB_b, opIsNotB_b, opMul_l, opMul_r, opEq_b, opNe_b, bMax2_i, bMin2_i, List.map_cons, Sum.inl.injEq, Sum.inr.injEq, isi_l_list, isi_tup_tup, List.length_set, decide_eq_true_eq, negE_mk, Nat.reduceLT, Nat.reduceLeDiff, Nat.reduceEqDiff, Nat.reduceMul, Int.reduceLT, Int.reduceLE, Int.reduceEq, Int.reduceAdd, Int.reduceSub, Int.reduceMul, Int.reduceNeg, Int.reduceToNat, Int.reducePow, Nat.reducePow, Int.reduceMod, Int.reduceDiv, reduceCtorEq, ite_true, List.nil_append, Nat.reduceBEq, isXE_mk, ev_isX, xfE_mk, ev_xf, raiseS_mk, raiseFS_mk, excM_mk, goneF_nxt, goneF_ret, opMulX_i, ev_addRL, ev_addLR, ev_addRR, ite_le2, opAdd_s, opAdd_t, chainE_mk, chainR_b, ev_isl, andE_mk, orE_mk, notE_mk, is_non_int, is_non_bool, is_non_str, is_non_list, is_non_tuple, is_bl_int, is_bl_bool, is_bl_str, is_bl_list, is_bl_tuple, is_int_int, is_int_bool, is_int_str, is_int_list, is_int_tuple, is_str_int, is_str_bool, is_str_str, is_str_list, is_str_tuple, is_tup_int, is_tup_bool, is_tup_str, is_tup_list, is_tup_tuple, is_l_int, is_l_bool, is_l_str, is_l_list, is_l_tuple, unpG_tup, unpG_ref, opEq_s, opNe_s, len2_str, leX_ss, seqIX_mk, srcX_str, ↓toBT, ↓toWT, bt_ok, bt_bt, wt_bt, wt_okM, wt_ok, wt_exc, wt_ite, wt_lift, wt_make, wt_try, hf, hlenI, hltI, hgg, hne] <;> try simp -implicitDefEqProofs only [bt_eq, wt_eq])
      rw [hE2]
      exact ⟨lu', Y, kvs', ⟨hg.g, hg.l, hg.k.mono (by omega), hg.gx, hg.dx, hg.lx⟩, R', rfl, fun x hx => hY1 x (by simpa using hx), hY2, hY3, hlu', hlm, hP, by dsimp only; omega, fr, ml⟩
    | cons k rest =>
      have hdn : decide ((k :: rest).length = 0) = false := by simp
      rw [hdn] at hne
      simp only [Bool.not_false] at hne
      have hk15 := R'.rb k (by simp)
      have hfk : f' k ≠ [] := (R'.fe k hk15).1 (by simp)
      obtain ⟨p, t, hnt⟩ : ∃ p t, f' k = p :: t := by
        cases e : f' k with
        | nil => exact absurd e hfk
        | cons p t => exact ⟨p, t, rfl⟩
      have gv := give_ok hg R' hY3 (by omega) hnt
      obtain ⟨q, hq⟩ : ∃ q, n - j = q + 1 := ⟨n - j - 1, by omega⟩
      have hE2 : E = ((fs ++ [p]) ++ (outS q (nextR rest t k) (fset f' k t)).1, (outS q (nextR rest t k) (fset f' k t)).2) := by
        rw [hEq, hq, outS_cons hnt, List.append_assoc]; rfl
      have hq2 : n - (j + 1) = q := by omega
      subst hB
      unfold m_Gate_out_0
      have hpp : IsP p := R'.fo k hk15 p (by rw [hnt]; simp)
      have hGne : m.length ≠ G := fun z => by have := lt_of h.g; omega
      have hDne : m.length ≠ kd := fun z => by have := lt_of h.k.d; omega
      (simp -implicitDefEqProofs (maxSteps := 2000000) (disch := (first | omega | decide +kernel | (simp only [isSome_set, isSome_app, isSome_new, Option.isSome_some, *]; done) | (simp only [isSome_lt, List.length_set, List.length_append, List.length_cons, List.length_nil, decide_eq_true_eq]; omega))) only [seqS_mk, asgS_mk, ifS_mk, retS_mk, retNS_mk, skipS_mk, dropS_mk, brkS_mk, cntS_mk, forS_mk, seqI_mk, matE_mk, callF_mk, callB_mk, consA_mk, nilA_mk, consT_mk, nilT_mk, tvs_mk, binE_mk, varE_0, varE_s, kE_mk, set_0, set_s, nmG_mk, lstE_mk, tupE_mk, bT_mk, tstT_mk, notT_mk, andT_mk, orT_mk, yesT_mk, andE_mk, orE_mk, notE_mk, ifE_mk, negE_mk, sliceE_mk, noP_mk, intP_mk, bmE_mk, bmE0_mk, isiB_mk, lcE_mk, lcT_mk, wipeE_nil, wipeE_cons, liftF_ok, matD_d, matD_l, boolT_mk, truthM_bl, truthM_int, truthM_non, opAdd_i, opSub_i, opLt_i, opLe_i, opGt_i, opGe_i, opEq_i, opNe_i, opMod_p, opDiv_p, seqSrc_l, seqSrc_clst, seqSrc_tup, ofL_n, ofR_n, opCut_l, opCut_tup, opCut_clst, callB_len_clst, callB_len_l, callB_len_tup, isi_int_int, isi_int_bool, isi_bool_bool, isi_bool_int, if_true, List.map_cons, List.map_nil, Int.toNat_natCast, List.length_cons, List.length_nil, List.replicate_succ, List.replicate_zero, List.cons_append, List.nil_append, Nat.sub_self, Nat.reduceSub, Nat.reduceAdd, ite_at, Bool.not_true, Bool.not_false, decide_true, decide_false, Bool.false_eq_true, if_false, reduceIte, fldE_mk, ev_fld, sfldS_mk, ev_setF, ev_putD_nil, ev_putD, methE_mk, ev_meth, augFS_mk, ev_aug, ev_len, ev_len2, len2_clst, len2_l, len2_tup, ev_list, ev_list2, list_tup, list_clst, list_l, list2_tup, list2_l, list2_clst, ev_tuple, tuple_tup, bTuple_l, ev_cut, ev_idx, ev_idxT, ev_idxL, ev_idxC, subS_mk, ev_subs, subs_l, subs_tup, subs_clst, subs_str, key_int, key_str, ev_getK_nil, ev_getK, ev_put, ev_src, ev_append, ev_extend, listOfM_l, ev_listOfM, listOf_l, listOf_clst, ev_listOf, ev_clear, chk_list, chk_str, chk_dic, dgetE_mk, dgetM_ev, dget2E_mk, dget2M_ev, ev_dget, ev_dgetY, ev_dget2Y, dpopE_mk, get_set_ne', get_set_is, get_app_is, get_new, ite_lt, ite_le, at_0, at_1, at_2, at_3, at_4, at_end, tupG_mk, tupG_mk', consG_mk, nilG_mk, sne, sbne, beq_self_eq_true, List.lookup_cons, List.lookup_nil, List.mem_cons, List.not_mem_nil, or_false, false_or, true_or, or_true, and_true, true_and, and_false, false_and, eq_self, Option.isSome_some, Option.isSome_none, Option.map_some, Option.map_none, opIs_nn, opIs_ni, opIsNot_nn, opIsNot_ni, opIsB_b, opIsNotB_b, opMul_l, opMul_r, opEq_b, opNe_b, bMax2_i, bMin2_i, List.map_cons, Sum.inl.injEq, Sum.inr.injEq, isi_l_list, isi_tup_tup, List.length_set, decide_eq_true_eq, negE_mk, Nat.reduceLT, Nat.reduceLeDiff, Nat.reduceEqDiff, Nat.reduceMul, Int.reduceLT, Int.reduceLE, Int.reduceEq, Int.reduceAdd, Int.reduceSub, Int.reduceMul, Int.reduceNeg, Int.reduceToNat, Int.reducePow, Nat.reducePow, Int.reduceMod, Int.reduceDiv, reduceCtorEq, ite_true, List.nil_append, Nat.reduceBEq, isXE_mk, ev_isX, xfE_mk, ev_xf, raiseS_mk, raiseFS_mk, excM_mk, goneF_nxt, goneF_ret, opMulX_i, ev_addRL, ev_addLR, ev_addRR, ite_le2, opAdd_s, opAdd_t, chainE_mk, chainR_b, ev_isl, andE_mk, orE_mk, notE_mk, is_non_int, is_non_bool, is_non_str, is_non_list, is_non_tuple, is_bl_int, is_bl_bool, is_bl_str, is_bl_list, is_bl_tuple, is_int_int, is_int_bool, is_int_str, is_int_list, is_int_tuple, is_str_int, is_str_bool, is_str_str, is_str_list, is_str_tuple, is_tup_int, is_tup_bool, is_tup_str, is_tup_list, is_tup_tuple, is_l_int, is_l_bool, is_l_str, is_l_list, is_l_tuple, unpG_tup, unpG_ref, opEq_s, opNe_s, len2_str, leX_ss, seqIX_mk, srcX_str, ↓toBT, ↓toWT, bt_ok, bt_bt, wt_bt, wt_okM, wt_ok, wt_exc, wt_ite, wt_lift, wt_make, wt_try, hf, hlenI, hltI, hgg, hne] <;> try simp -implicitDefEqProofs only [bt_eq, wt_eq])
      refine wp_call gv ?_
      rintro d m2 ⟨rfl, ⟨kvs2, hg2⟩, fr2, ml2⟩
      have hf2 : m2[m.length]? = some (.lst fs) := fr2.2 _ _ (by simp [hGne, hDne]) hf
      have hRn : RS pl (nextR rest t k) (fset f' k t) := R'.out hnt
      (simp -implicitDefEqProofs (maxSteps := 2000000) (disch := (first | omega | decide +kernel | (simp only [isSome_set, isSome_app, isSome_new, Option.isSome_some, *]; done) | (simp only [isSome_lt, List.length_set, List.length_append, List.length_cons, List.length_nil, decide_eq_true_eq]; omega))) only [seqS_mk, asgS_mk, ifS_mk, retS_mk, retNS_mk, skipS_mk, dropS_mk, brkS_mk, cntS_mk, forS_mk, seqI_mk, matE_mk, callF_mk, callB_mk, consA_mk, nilA_mk, consT_mk, nilT_mk, tvs_mk, binE_mk, varE_0, varE_s, kE_mk, set_0, set_s, nmG_mk, lstE_mk, tupE_mk, bT_mk, tstT_mk, notT_mk, andT_mk, orT_mk, yesT_mk, andE_mk, orE_mk, notE_mk, ifE_mk, negE_mk, sliceE_mk, noP_mk, intP_mk, bmE_mk, bmE0_mk, isiB_mk, lcE_mk, lcT_mk, wipeE_nil, wipeE_cons, liftF_ok, matD_d, matD_l, boolT_mk, truthM_bl, truthM_int, truthM_non, opAdd_i, opSub_i, opLt_i, opLe_i, opGt_i, opGe_i, opEq_i, opNe_i, opMod_p, opDiv_p, seqSrc_l, seqSrc_clst, seqSrc_tup, ofL_n, ofR_n, opCut_l, opCut_tup, opCut_clst, callB_len_clst, callB_len_l, callB_len_tup, isi_int_int, isi_int_bool, isi_bool_bool, isi_bool_int, if_true, List.map_cons, List.map_nil, Int.toNat_natCast, List.length_cons, List.length_nil, List.replicate_succ, List.replicate_zero, List.cons_append, List.nil_append, Nat.sub_self, Nat.reduceSub, Nat.reduceAdd, ite_at, Bool.not_true, Bool.not_false, decide_true, decide_false, Bool.false_eq_true, if_false, reduceIte, fldE_mk, ev_fld, sfldS_mk, ev_setF, ev_putD_nil, ev_putD, methE_mk, ev_meth, augFS_mk, ev_aug, ev_len, ev_len2, len2_clst, len2_l, len2_tup, ev_list, ev_list2, list_tup, list_clst, list_l, list2_tup, list2_l, list2_clst, ev_tuple, tuple_tup, bTuple_l, ev_cut, ev_idx, ev_idxT, ev_idxL, ev_idxC, subS_mk, ev_subs, subs_l, subs_tup, subs_clst, subs_str, key_int, key_str, ev_getK_nil, ev_getK, ev_put, ev_src, ev_append, ev_extend, listOfM_l, ev_listOfM, listOf_l, listOf_clst, ev_listOf, ev_clear, chk_list, chk_str, chk_dic, dgetE_mk, dgetM_ev, dget2E_mk, dget2M_ev, ev_dget, ev_dgetY, ev_dget2Y, dpopE_mk, get_set_ne', get_set_is, get_app_is, get_new, ite_lt, ite_le, at_0, at_1, at_2, at_3, at_4, at_end, tupG_mk, tupG_mk', consG_mk, nilG_mk, sne, sbne, beq_self_eq_true, List.lookup_cons, List.lookup_nil, List.mem_cons, List.not_mem_nil, or_false, false_or, true_or, or_true, and_true, true_and, and_false, false_and, eq_self, Option.isSome_some, Option.isSome_none, Option.map_some, Option.map_none, opIs_nn, opIs_ni, opIsNot_nn, opIsNot_ni, opIsB_b, opIsNotB_b, opMul_l, opMul_r, opEq_b, opNe_b, bMax2_i, bMin2_i, List.map_cons, Sum.inl.injEq, Sum.inr.injEq, isi_l_list, isi_tup_tup, List.length_set, decide_eq_true_eq, negE_mk, Nat.reduceLT, Nat.reduceLeDiff, Nat.reduceEqDiff, Nat.reduceMul, Int.reduceLT, Int.reduceLE, Int.reduceEq, Int.reduceAdd, Int.reduceSub, Int.reduceMul, Int.reduceNeg, Int.reduceToNat, Int.reducePow, Nat.reducePow, Int.reduceMod, Int.reduceDiv, reduceCtorEq, ite_true, List.nil_append, Nat.reduceBEq, isXE_mk, ev_isX, xfE_mk, ev_xf, raiseS_mk, raiseFS_mk, excM_mk, goneF_nxt, goneF_ret, opMulX_i, ev_addRL, ev_addLR, ev_addRR, ite_le2, opAdd_s, opAdd_t, chainE_mk, chainR_b, ev_isl, andE_mk, orE_mk, notE_mk, is_non_int, is_non_bool, is_non_str, is_non_list, is_non_tuple, is_bl_int, is_bl_bool, is_bl_str, is_bl_list, is_bl_tuple, is_int_int, is_int_bool, is_int_str, is_int_list, is_int_tuple, is_str_int, is_str_bool, is_str_str, is_str_list, is_str_tuple, is_tup_int, is_tup_bool, is_tup_str, is_tup_list, is_tup_tuple, is_l_int, is_l_bool, is_l_str, is_l_list, is_l_tuple, unpG_tup, unpG_ref, opEq_s, opNe_s, len2_str, leX_ss, seqIX_mk, srcX_str, ↓toBT, ↓toWT, bt_ok, bt_bt, wt_bt, wt_okM, wt_ok, wt_exc, wt_ite, wt_lift, wt_make, wt_try, hf2, hlt16] <;> try simp -implicitDefEqProofs only [bt_eq, wt_eq])
      have fr3 : Frm [m.length] m2 (m2.set m.length (.lst (fs ++ [d]))) := (Frm.refl _ _).set (.inl (by simp)) _
      have hml1 : m.length < m1.length := ml
      refine ⟨n - (j + 1), by omega, fs ++ [d], _, _, m1.length, m1.length :: Y, kvs2, j + 1, ?_, hRn, by rw [hq2]; exact hE2, rfl, by simp [hfl], by omega, rfl, fun x hx => List.mem_cons_of_mem _ (hY1 x (by simpa using hx)), ?_, ?_, .inr (by omega), by omega, ?_, ?_, ?_⟩
      · exact hg2.frm fr3 (by simp [hmY]) (by simpa using fun z => hGne z.symm) (by simpa using fun z => hDne z.symm) (by simp; omega)
      · intro y hy
        rcases List.mem_cons.mp hy with z | z
        · exact .inr (by omega)
        · exact hY2 y z
      · intro y hy
        rcases List.mem_cons.mp hy with z | z
        · omega
        · have := hY3 y z; omega
      · intro x hx
        rcases List.mem_append.mp hx with z | z
        · exact hP x z
        · have : x = d := by simpa using z
          subst this; exact hpp
      · exact (fr.trans fr2).set (.inr (Nat.le_refl _)) _
      · omega
  · have hjn : j = n := by omega
    subst hjn
    have hE2 : E = (fs, row', f') := by rw [hEq, Nat.sub_self]; simp [outS]
    have hltI : ¬ (j : Int) < (j : Int) := by omega
    (simp -implicitDefEqProofs (maxSteps := 2000000) (disch := (first | omega | decide +kernel | (simp only [isSome_set, isSome_app, isSome_new, Option.isSome_some, *]; done) | (simp only [isSome_lt, List.length_set, List.length_append, List.length_cons, List.length_nil, decide_eq_true_eq]; omega))) only [seqS_mk, asgS_mk, ifS_mk, retS_mk, retNS_mk, skipS_mk, dropS_mk, brkS_mk, cntS_mk, forS_mk, seqI_mk, matE_mk, callF_mk, callB_mk, consA_mk, nilA_mk, consT_mk, nilT_mk, tvs_mk, binE_mk, varE_0, varE_s, kE_mk, set_0, set_s, nmG_mk, lstE_mk, tupE_mk, bT_mk, tstT_mk, notT_mk, andT_mk, orT_mk, yesT_mk, andE_mk, orE_mk, notE_mk, ifE_mk, negE_mk, sliceE_mk, noP_mk, intP_mk, bmE_mk, bmE0_mk, isiB_mk, lcE_mk, lcT_mk, wipeE_nil, wipeE_cons, liftF_ok, matD_d, matD_l, boolT_mk, truthM_bl, truthM_int, truthM_non, opAdd_i, opSub_i, opLt_i, opLe_i, opGt_i, opGe_i, opEq_i, opNe_i, opMod_p, opDiv_p, seqSrc_l, seqSrc_clst, seqSrc_tup, ofL_n, ofR_n, opCut_l, opCut_tup, opCut_clst, callB_len_clst, callB_len_l, callB_len_tup, isi_int_int, isi_int_bool, isi_bool_bool, isi_bool_int, if_true, List.map_cons, List.map_nil, Int.toNat_natCast, List.length_cons, List.length_nil, List.replicate_succ, List.replicate_zero, List.cons_append, List.nil_append, Nat.sub_self, Nat.reduceSub, Nat.reduceAdd, ite_at, Bool.not_true, Bool.not_false, decide_true, decide_false, Bool.false_eq_true, if_false, reduceIte, fldE_mk, ev_fld, sfldS_mk, ev_setF, ev_putD_nil, ev_putD, methE_mk, ev_meth, augFS_mk, ev_aug, ev_len, ev_len2, len2_clst, len2_l, len2_tup, ev_list, ev_list2, list_tup, list_clst, list_l, list2_tup, list2_l, list2_clst, ev_tuple, tuple_tup, bTuple_l, ev_cut, ev_idx, ev_idxT, ev_idxL, ev_idxC, subS_mk, ev_subs, subs_l, subs_tup, subs_clst, subs_str, key_int, key_str, ev_getK_nil, ev_getK, ev_put, ev_src, ev_append, ev_extend, listOfM_l, ev_listOfM, listOf_l, listOf_clst, ev_listOf, ev_clear, chk_list, chk_str, chk_dic, dgetE_mk, dgetM_ev, dget2E_mk, dget2M_ev, ev_dget, ev_dgetY, ev_dget2Y, dpopE_mk, get_set_ne', get_set_is, get_app_is, get_new, ite_lt, ite_le, at_0, at_1, at_2, at_3, at_4, at_end, tupG_mk, tupG_mk', consG_mk, nilG_mk, sne, sbne, beq_self_eq_true, List.lookup_cons, List.lookup_nil, List.mem_cons, List.not_mem_nil, or_false, false_or, true_or, or_true, and_true, true_and, and_false, false_and, eq_self, Option.isSome_some, Option.isSome_none, Option.map_some, Option.map_none, opIs_nn, opIs_ni, opIsNot_nn, opIsNot_ni, opIsB_b, opIsNotB_b, opMul_l, opMul_r, opEq_b, opNe_b, bMax2_i, bMin2_i, List.map_cons, Sum.inl.injEq, Sum.inr.injEq, isi_l_list, isi_tup_tup, List.length_set, decide_eq_true_eq, negE_mk, Nat.reduceLT, Nat.reduceLeDiff, Nat.reduceEqDiff, Nat.reduceMul, Int.reduceLT, Int.reduceLE, Int.reduceEq, Int.reduceAdd, Int.reduceSub, Int.reduceMul, Int.reduceNeg, Int.reduceToNat, Int.reducePow, Nat.reducePow, Int.reduceMod, Int.reduceDiv, reduceCtorEq, ite_true, List.nil_append, Nat.reduceBEq, isXE_mk, ev_isX, xfE_mk, ev_xf, raiseS_mk, raiseFS_mk, excM_mk, goneF_nxt, goneF_ret, opMulX_i, ev_addRL, ev_addLR, ev_addRR, ite_le2, opAdd_s, opAdd_t, chainE_mk, chainR_b, ev_isl, andE_mk, orE_mk, notE_mk, is_non_int, is_non_bool, is_non_str, is_non_list, is_non_tuple, is_bl_int, is_bl_bool, is_bl_str, is_bl_list, is_bl_tuple, is_int_int, is_int_bool, is_int_str, is_int_list, is_int_tuple, is_str_int, is_str_bool, is_str_str, is_str_list, is_str_tuple, is_tup_int, is_tup_bool, is_tup_str, is_tup_list, is_tup_tuple, is_l_int, is_l_bool, is_l_str, is_l_list, is_l_tuple, unpG_tup, unpG_ref, opEq_s, opNe_s, len2_str, leX_ss, seqIX_mk, srcX_str, ↓toBT, ↓toWT, bt_ok, bt_bt, wt_bt, wt_okM, wt_ok, wt_exc, wt_ite, wt_lift, wt_make, wt_try, hf, hlenI, hltI] <;> try simp -implicitDefEqProofs only [bt_eq, wt_eq])
    rw [hE2]
    exact ⟨lu', Y, kvs', hg, R', rfl, fun x hx => hY1 x (by simpa using hx), hY2, hY3, hlu', hlm, hP, by dsimp only; omega, fr, ml⟩
end
end Law

set_option maxHeartbeats 1000000
namespace Law
open PySem L2 Mir
/-! ### the law's own row and lists -/
structure LJ (m : Mem) (X : List Nat) (Lr Lk : Nat) (row : List Nat) (f : Nat → List D) (c : Nat) (kvs : List (NestedKey × D)) : Prop where
  l : m[Lr]? = some (.lst (row.map kD))
  k : KP m X Lk f c kvs
  lx : Lr ∈ X
  kx : Lk ∈ X
section
variable {m m' : Mem} {X J : List Nat} {Lr Lk : Nat} {pl : Int} {row : List Nat} {f : Nat → List D} {c : Nat} {kvs : List (NestedKey × D)}
theorem LJ.ne (h : LJ m X Lr Lk row f c kvs) : Lr ≠ Lk := fun z => by
  have h1 := h.l
  have h2 := h.k.d
  rw [z, h2] at h1; cases h1
theorem LJ.frm (h : LJ m X Lr Lk row f c kvs) (e : Frm J m m') (hJ : ∀ x ∈ J, x ∈ X) (h1 : Lr ∉ J) (h2 : Lk ∉ J) : LJ m' X Lr Lk row f c kvs :=
  ⟨e.2 _ _ h1 h.l, h.k.frm e hJ h2, h.lx, h.kx⟩
theorem LJ.ext (h : LJ m X Lr Lk row f c kvs) (e : Ext m m') : LJ m' X Lr Lk row f c kvs := h.frm (J := []) (Frm.of e) (by simp) (by simp) (by simp)
theorem LJ.to (h : LJ m X Lr Lk row f c kvs) {Y : List Nat} (hY : ∀ y ∈ Y, y ∈ X ∨ m.length ≤ y) (hs : ∀ x ∈ X, x ∈ Y) : LJ m Y Lr Lk row f c kvs := ⟨h.l, h.k.to hY, hs _ h.lx, hs _ h.kx⟩
theorem LJ.mono (h : LJ m X Lr Lk row f c kvs) {c' : Nat} (hc : c ≤ c') : LJ m X Lr Lk row f c' kvs := ⟨h.l, h.k.mono hc, h.lx, h.kx⟩
theorem lput_ok (h : LJ m X Lr Lk row f c kvs) (R : RS pl row f) (hX : ∀ x ∈ X, x < m.length) (hc : c ≤ 100000) {i : Nat} (hi : i < 15) {ys : List D} (hy : ∀ y ∈ ys, okD 6 y) :
    wpR (F_law_put [.ref Lr, .ref Lk, .int pl, kD i, .tup ys] m) (fun d m' => d = .bl (putS pl row f i (.tup ys)).1 ∧ (∃ kvs', LJ m' X Lr Lk (putS pl row f i (.tup ys)).2.1 (putS pl row f i (.tup ys)).2.2 (c + 1) kvs') ∧ Frm [Lr, Lk] m m') noEx := by
  refine wp_fn ?_
  unfold m_law_put
  have n3 := h.ne
  have hcb := h.k.len
  have hd0 := h.k.d
  have hd := get_app [O.lst []] h.k.d
  have hl := get_app [O.lst []] h.l
  have hld := lt_of h.k.d
  have hll := lt_of h.l
  have hfl := R.fl i hi
  have hpb := R.pb
  have hrl := R.len
  obtain ⟨a, ha, hax, hal, hz⟩ := h.k.get hi hX
  have hal' : a ≠ Lr := fun z => hax (z ▸ h.lx)
  have hak : a ≠ Lk := fun z => hax (z ▸ h.kx)
  have ev := fun e z env => mgetM_ev hd0 e z env
  have hm1 : (m ++ [O.lst []]).length = m.length + 1 := by simp
  have fr1 : Frm [Lr, Lk] m (m ++ [O.lst []]) := Frm.app _ _ _
  have ki := k_nk i hi
  have kd8 := n_dep i hi
  have hfin := fun (kvs' : List (NestedKey × D)) m' hfr (hh : m'[Lk]? = some (.mix kvs')) => @KP.set m m' X [Lr, Lk] Lk f c kvs kvs' h.k i (f i ++ [.tup ys]) (c + 1) hi hfr (by simp [h.lx, h.kx]) hh
  have hKx := h.kx
  have hLx := h.lx
  have hfull : LJ (m ++ [O.lst []]) X Lr Lk row f (c + 1) kvs := ⟨hl, (h.k.frm (J := []) (Frm.app _ _ _) (by simp) (by simp)).mono (by omega), hLx, hKx⟩
  generalize hm1e : m ++ [O.lst []] = m1 at *
  by_cases hin : D.tup ys ∈ f i
  · have hii := in_tup (m := m1) (x := .d (.ref a)) (b := true) (listOf_ref ha) (R.okP hi) hy ⟨fun _ => hin, fun _ => rfl⟩
    have hp : putS pl row f i (.tup ys) = (true, row, f) := by unfold putS; rw [if_pos hin]
    rw [hp]
    generalize kD i = K at *
    generalize f i = Q at *
    (simp -implicitDefEqProofs (maxSteps := 2000000) (disch := (first | omega | decide +kernel | (simp only [isSome_set, isSome_app, isSome_new, Option.isSome_some, *]; done) | (simp only [isSome_lt, List.length_set, List.length_append, List.length_cons, List.length_nil, decide_eq_true_eq]; omega))) only [seqS_mk, asgS_mk, ifS_mk, retS_mk, retNS_mk, skipS_mk, dropS_mk, brkS_mk, cntS_mk, forS_mk, seqI_mk, matE_mk, callF_mk, callB_mk, consA_mk, nilA_mk, consT_mk, nilT_mk, tvs_mk, binE_mk, varE_0, varE_s, kE_mk, set_0, set_s, nmG_mk, lstE_mk, tupE_mk, bT_mk, tstT_mk, notT_mk, andT_mk, orT_mk, yesT_mk, andE_mk, orE_mk, notE_mk, ifE_mk, negE_mk, sliceE_mk, noP_mk, intP_mk, bmE_mk, bmE0_mk, isiB_mk, lcE_mk, lcT_mk, wipeE_nil, wipeE_cons, liftF_ok, matD_d, matD_l, boolT_mk, truthM_bl, truthM_int, truthM_non, opAdd_i, opSub_i, opLt_i, opLe_i, opGt_i, opGe_i, opEq_i, opNe_i, opMod_p, opDiv_p, seqSrc_l, seqSrc_clst, seqSrc_tup, ofL_n, ofR_n, opCut_l, opCut_tup, opCut_clst, callB_len_clst, callB_len_l, callB_len_tup, isi_int_int, isi_int_bool, isi_bool_bool, isi_bool_int, if_true, List.map_cons, List.map_nil, Int.toNat_natCast, List.length_cons, List.length_nil, List.replicate_succ, List.replicate_zero, List.cons_append, List.nil_append, Nat.sub_self, Nat.reduceSub, Nat.reduceAdd, ite_at, Bool.not_true, Bool.not_false, decide_true, decide_false, Bool.false_eq_true, if_false, reduceIte, fldE_mk, ev_fld, sfldS_mk, ev_setF, ev_putD_nil, ev_putD, methE_mk, ev_meth, augFS_mk, ev_aug, ev_len, ev_len2, len2_clst, len2_l, len2_tup, ev_list, ev_list2, list_tup, list_clst, list_l, list2_tup, list2_l, list2_clst, ev_tuple, tuple_tup, bTuple_l, ev_cut, ev_idx, ev_idxT, ev_idxL, ev_idxC, subS_mk, ev_subs, subs_l, subs_tup, subs_clst, subs_str, key_int, key_str, ev_getK_nil, ev_getK, ev_put, ev_src, ev_append, ev_extend, listOfM_l, ev_listOfM, listOf_l, listOf_clst, ev_listOf, ev_clear, chk_list, chk_str, chk_dic, dgetE_mk, dgetM_ev, dget2E_mk, dget2M_ev, ev_dget, ev_dgetY, ev_dget2Y, dpopE_mk, get_set_ne', get_set_is, get_app_is, get_new, ite_lt, ite_le, at_0, at_1, at_2, at_3, at_4, at_end, tupG_mk, tupG_mk', consG_mk, nilG_mk, sne, sbne, beq_self_eq_true, List.lookup_cons, List.lookup_nil, List.mem_cons, List.not_mem_nil, or_false, false_or, true_or, or_true, and_true, true_and, and_false, false_and, eq_self, Option.isSome_some, Option.isSome_none, Option.map_some, Option.map_none, opIs_nn, opIs_ni, opIsNot_nn, opIsNot_ni, opIsB_b, opIsNotB_b, opMul_l, opMul_r, opEq_b, opNe_b, bMax2_i, bMin2_i, List.map_cons, Sum.inl.injEq, Sum.inr.injEq, isi_l_list, isi_tup_tup, List.length_set, decide_eq_true_eq, negE_mk, Nat.reduceLT, Nat.reduceLeDiff, Nat.reduceEqDiff, Nat.reduceMul, Int.reduceLT, Int.reduceLE, Int.reduceEq, Int.reduceAdd, Int.reduceSub, Int.reduceMul, Int.reduceNeg, Int.reduceToNat, Int.reducePow, Nat.reducePow, Int.reduceMod, Int.reduceDiv, reduceCtorEq, ite_true, List.nil_append, Nat.reduceBEq, isXE_mk, ev_isX, xfE_mk, ev_xf, raiseS_mk, raiseFS_mk, excM_mk, goneF_nxt, goneF_ret, opMulX_i, ev_addRL, ev_addLR, ev_addRR, ite_le2, opAdd_s, opAdd_t, chainE_mk, chainR_b, ev_isl, andE_mk, orE_mk, notE_mk, is_non_int, is_non_bool, is_non_str, is_non_list, is_non_tuple, is_bl_int, is_bl_bool, is_bl_str, is_bl_list, is_bl_tuple, is_int_int, is_int_bool, is_int_str, is_int_list, is_int_tuple, is_str_int, is_str_bool, is_str_str, is_str_list, is_str_tuple, is_tup_int, is_tup_bool, is_tup_str, is_tup_list, is_tup_tuple, is_l_int, is_l_bool, is_l_str, is_l_list, is_l_tuple, unpG_tup, unpG_ref, opEq_s, opNe_s, len2_str, leX_ss, seqIX_mk, srcX_str, ↓toBT, ↓toWT, bt_ok, bt_bt, wt_bt, wt_okM, wt_ok, wt_exc, wt_ite, wt_lift, wt_make, wt_try, mget2E_mk, ev, hm1e, hz, hii] <;> try simp -implicitDefEqProofs only [bt_eq, wt_eq])
    exact ⟨⟨kvs, hfull⟩, fr1⟩
  · have hii := in_tup (m := m1) (x := .d (.ref a)) (b := false) (listOf_ref ha) (R.okP hi) hy ⟨fun z => (by cases z), fun z => absurd z hin⟩
    by_cases hpl : pl ≤ ((f i).length : Int)
    · have hp : putS pl row f i (.tup ys) = (false, row, f) := by unfold putS; rw [if_neg hin, if_pos hpl]
      rw [hp]
      have hpe : ((f i).length : Int) ≥ pl := by omega
      generalize kD i = K at *
      generalize f i = Q at *
      (simp -implicitDefEqProofs (maxSteps := 2000000) (disch := (first | omega | decide +kernel | (simp only [isSome_set, isSome_app, isSome_new, Option.isSome_some, *]; done) | (simp only [isSome_lt, List.length_set, List.length_append, List.length_cons, List.length_nil, decide_eq_true_eq]; omega))) only [seqS_mk, asgS_mk, ifS_mk, retS_mk, retNS_mk, skipS_mk, dropS_mk, brkS_mk, cntS_mk, forS_mk, seqI_mk, matE_mk, callF_mk, callB_mk, consA_mk, nilA_mk, consT_mk, nilT_mk, tvs_mk, binE_mk, varE_0, varE_s, kE_mk, set_0, set_s, nmG_mk, lstE_mk, tupE_mk, bT_mk, tstT_mk, notT_mk, andT_mk, orT_mk, yesT_mk, andE_mk, orE_mk, notE_mk, ifE_mk, negE_mk, sliceE_mk, noP_mk, intP_mk, bmE_mk, bmE0_mk, isiB_mk, lcE_mk, lcT_mk, wipeE_nil, wipeE_cons, liftF_ok, matD_d, matD_l, boolT_mk, truthM_bl, truthM_int, truthM_non, opAdd_i, opSub_i, opLt_i, opLe_i, opGt_i, opGe_i, opEq_i, opNe_i, opMod_p, opDiv_p, seqSrc_l, seqSrc_clst, seqSrc_tup, ofL_n, ofR_n, opCut_l, opCut_tup, opCut_clst, callB_len_clst, callB_len_l, callB_len_tup, isi_int_int, isi_int_bool, isi_bool_bool, isi_bool_int, if_true, List.map_cons, List.map_nil, Int.toNat_natCast, List.length_cons, List.length_nil, List.replicate_succ, List.replicate_zero, List.cons_append, List.nil_append, Nat.sub_self, Nat.reduceSub, Nat.reduceAdd, ite_at, Bool.not_true, Bool.not_false, decide_true, decide_false, Bool.false_eq_true, if_false, reduceIte, fldE_mk, ev_fld, sfldS_mk, ev_setF, ev_putD_nil, ev_putD, methE_mk, ev_meth, augFS_mk, ev_aug, ev_len, ev_len2, len2_clst, len2_l, len2_tup, ev_list, ev_list2, list_tup, list_clst, list_l, list2_tup, list2_l, list2_clst, ev_tuple, tuple_tup, bTuple_l, ev_cut, ev_idx, ev_idxT, ev_idxL, ev_idxC, subS_mk, ev_subs, subs_l, subs_tup, subs_clst, subs_str, key_int, key_str, ev_getK_nil, ev_getK, ev_put, ev_src, ev_append, ev_extend, listOfM_l, ev_listOfM, listOf_l, listOf_clst, ev_listOf, ev_clear, chk_list, chk_str, chk_dic, dgetE_mk, dgetM_ev, dget2E_mk, dget2M_ev, ev_dget, ev_dgetY, ev_dget2Y, dpopE_mk, get_set_ne', get_set_is, get_app_is, get_new, ite_lt, ite_le, at_0, at_1, at_2, at_3, at_4, at_end, tupG_mk, tupG_mk', consG_mk, nilG_mk, sne, sbne, beq_self_eq_true, List.lookup_cons, List.lookup_nil, List.mem_cons, List.not_mem_nil, or_false, false_or, true_or, or_true, and_true, true_and, and_false, false_and, eq_self, Option.isSome_some, Option.isSome_none, Option.map_some, Option.map_none, opIs_nn, opIs_ni, opIsNot_nn, opIsNot_ni, opIsB_b, opIsNotB_b, opMul_l, opMul_r, opEq_b, opNe_b, bMax2_i, bMin2_i, List.map_cons, Sum.inl.injEq, Sum.inr.injEq, isi_l_list, isi_tup_tup, List.length_set, decide_eq_true_eq, negE_mk, Nat.reduceLT, Nat.reduceLeDiff, Nat.reduceEqDiff, Nat.reduceMul, Int.reduceLT, Int.reduceLE, Int.reduceEq, Int.reduceAdd, Int.reduceSub, Int.reduceMul, Int.reduceNeg, Int.reduceToNat, Int.reducePow, Nat.reducePow, Int.reduceMod, Int.reduceDiv, reduceCtorEq, ite_true, List.nil_append, Nat.reduceBEq, isXE_mk, ev_isX, xfE_mk, ev_xf, raiseS_mk, raiseFS_mk, excM_mk, goneF_nxt, goneF_ret, opMulX_i, ev_addRL, ev_addLR, ev_addRR, ite_le2, opAdd_s, opAdd_t, chainE_mk, chainR_b, ev_isl, andE_mk, orE_mk, notE_mk, is_non_int, is_non_bool, is_non_str, is_non_list, is_non_tuple, is_bl_int, is_bl_bool, is_bl_str, is_bl_list, is_bl_tuple, is_int_int, is_int_bool, is_int_str, is_int_list, is_int_tuple, is_str_int, is_str_bool, is_str_str, is_str_list, is_str_tuple, is_tup_int, is_tup_bool, is_tup_str, is_tup_list, is_tup_tuple, is_l_int, is_l_bool, is_l_str, is_l_list, is_l_tuple, unpG_tup, unpG_ref, opEq_s, opNe_s, len2_str, leX_ss, seqIX_mk, srcX_str, ↓toBT, ↓toWT, bt_ok, bt_bt, wt_bt, wt_okM, wt_ok, wt_exc, wt_ite, wt_lift, wt_make, wt_try, mget2E_mk, ev, hm1e, hz, hii, ha, hpe] <;> try simp -implicitDefEqProofs only [bt_eq, wt_eq])
      exact ⟨⟨kvs, hfull⟩, fr1⟩
    · have hp : putS pl row f i (.tup ys) = (true, (if f i = [] then row ++ [i] else row), fset f i (f i ++ [.tup ys])) := by unfold putS; rw [if_neg hin, if_neg hpl]
      rw [hp]
      dsimp only
      have hpe : ¬ ((f i).length : Int) ≥ pl := by omega
      have heq := opEq_nil ha (R.okP hi)
      have hQ1 : (f i).length ≤ 16777215 := by omega
      have hz1 : kvs.length < sizeLine := by rw [sizeLine_eq]; omega
      by_cases e : f i = []
      · have hdn : decide ((f i).length = 0) = true := by rw [e]; rfl
        rw [hdn] at heq
        rw [if_pos e]
        have hlr : (row.map kD).length < 16777216 := by rw [List.length_map]; omega
        have hmk : row.map kD ++ [kD i] = (row ++ [i]).map kD := by simp
        obtain ⟨m2, hm2⟩ : ∃ m2, m2 = m1.set Lr (.lst (row.map kD ++ [kD i])) := ⟨_, rfl⟩
        have ha2 : m2[a]? = some (.lst (f i)) := by rw [hm2, get_set_ne' (Ne.symm hal')]; exact ha
        have hd2 : m2[Lk]? = some (.mix kvs) := by rw [hm2, get_set_ne' n3]; exact hd
        have hl2 : m2[Lr]? = some (.lst ((row ++ [i]).map kD)) := by rw [hm2, ← hmk]; exact get_set hl
        have ml2 : m2.length = m.length + 1 := by rw [hm2, List.length_set]; exact hm1
        have fr2 : Frm [Lr, Lk] m m2 := by rw [hm2]; exact fr1.set (.inl (by simp)) _
        obtain ⟨m3, hm3⟩ : ∃ m3, m3 = m2 ++ [O.lst (f i ++ [.tup ys])] := ⟨_, rfl⟩
        have hd3 : m3[Lk]? = some (.mix kvs) := by rw [hm3]; exact get_app _ hd2
        have hl3 : m3[Lr]? = some (.lst ((row ++ [i]).map kD)) := by rw [hm3]; exact get_app _ hl2
        have hn3 : m3[m.length + 1]? = some (.lst (f i ++ [.tup ys])) := by rw [hm3, ← ml2]; exact get_new
        have fr3 : Frm [Lr, Lk] m m3 := by rw [hm3]; exact fr2.trans (Frm.app _ _ _)
        have hput : mput (.d (.ref Lk)) (.d (kD i)) (.ref (m.length + 1)) m3 = .ok () (m3.set Lk (.mix (setK kvs (nK i) (.ref (m.length + 1))))) := mput_ok hd3 ki kd8 hz1
        have fr4 : Frm [Lr, Lk] m (m3.set Lk (.mix (setK kvs (nK i) (.ref (m.length + 1))))) := fr3.set (.inl (by simp)) _
        have fin : LJ (m3.set Lk (.mix (setK kvs (nK i) (.ref (m.length + 1))))) X Lr Lk (row ++ [i]) (fset f i (f i ++ [.tup ys])) (c + 1) (setK kvs (nK i) (.ref (m.length + 1))) :=
          ⟨by rw [get_set_ne' (Ne.symm n3)]; exact hl3, hfin _ _ fr4 (get_set hd3) (fun j hj q => set_other hi hj q _) (row_set (by rw [get_set_ne' (by omega)]; exact hn3) fun z => by have := hX _ z; omega) (set_le hcb), hLx, hKx⟩
        generalize m3.set Lk (.mix (setK kvs (nK i) (.ref (m.length + 1)))) = m4 at *
        generalize row.map kD = RW at *
        generalize kD i = K at *
        generalize hQe : f i = Q at *
        (simp -implicitDefEqProofs (maxSteps := 2000000) (disch := (first | omega | decide +kernel | (simp only [isSome_set, isSome_app, isSome_new, Option.isSome_some, *]; done) | (simp only [isSome_lt, List.length_set, List.length_append, List.length_cons, List.length_nil, decide_eq_true_eq]; omega))) only [seqS_mk, asgS_mk, ifS_mk, retS_mk, retNS_mk, skipS_mk, dropS_mk, brkS_mk, cntS_mk, forS_mk, seqI_mk, matE_mk, callF_mk, callB_mk, consA_mk, nilA_mk, consT_mk, nilT_mk, tvs_mk, binE_mk, varE_0, varE_s, kE_mk, set_0, set_s, nmG_mk, lstE_mk, tupE_mk, bT_mk, tstT_mk, notT_mk, andT_mk, orT_mk, yesT_mk, andE_mk, orE_mk, notE_mk, ifE_mk, negE_mk, sliceE_mk, noP_mk, intP_mk, bmE_mk, bmE0_mk, isiB_mk, lcE_mk, lcT_mk, wipeE_nil, wipeE_cons, liftF_ok, matD_d, matD_l, boolT_mk, truthM_bl, truthM_int, truthM_non, opAdd_i, opSub_i, opLt_i, opLe_i, opGt_i, opGe_i, opEq_i, opNe_i, opMod_p, opDiv_p, seqSrc_l, seqSrc_clst, seqSrc_tup, ofL_n, ofR_n, opCut_l, opCut_tup, opCut_clst, callB_len_clst, callB_len_l, callB_len_tup, isi_int_int, isi_int_bool, isi_bool_bool, isi_bool_int, if_true, List.map_cons, List.map_nil, Int.toNat_natCast, List.length_cons, List.length_nil, List.replicate_succ, List.replicate_zero, List.cons_append, List.nil_append, Nat.sub_self, Nat.reduceSub, Nat.reduceAdd, ite_at, Bool.not_true, Bool.not_false, decide_true, decide_false, Bool.false_eq_true, if_false, reduceIte, fldE_mk, ev_fld, sfldS_mk, ev_setF, ev_putD_nil, ev_putD, methE_mk, ev_meth, augFS_mk, ev_aug, ev_len, ev_len2, len2_clst, len2_l, len2_tup, ev_list, ev_list2, list_tup, list_clst, list_l, list2_tup, list2_l, list2_clst, ev_tuple, tuple_tup, bTuple_l, ev_cut, ev_idx, ev_idxT, ev_idxL, ev_idxC, subS_mk, ev_subs, subs_l, subs_tup, subs_clst, subs_str, key_int, key_str, ev_getK_nil, ev_getK, ev_put, ev_src, ev_append, ev_extend, listOfM_l, ev_listOfM, listOf_l, listOf_clst, ev_listOf, ev_clear, chk_list, chk_str, chk_dic, dgetE_mk, dgetM_ev, dget2E_mk, dget2M_ev, ev_dget, ev_dgetY, ev_dget2Y, dpopE_mk, get_set_ne', get_set_is, get_app_is, get_new, ite_lt, ite_le, at_0, at_1, at_2, at_3, at_4, at_end, tupG_mk, tupG_mk', consG_mk, nilG_mk, sne, sbne, beq_self_eq_true, List.lookup_cons, List.lookup_nil, List.mem_cons, List.not_mem_nil, or_false, false_or, true_or, or_true, and_true, true_and, and_false, false_and, eq_self, Option.isSome_some, Option.isSome_none, Option.map_some, Option.map_none, opIs_nn, opIs_ni, opIsNot_nn, opIsNot_ni, opIsB_b, opIsNotB_b, opMul_l, opMul_r, opEq_b, opNe_b, bMax2_i, bMin2_i, List.map_cons, Sum.inl.injEq, Sum.inr.injEq, isi_l_list, isi_tup_tup, List.length_set, decide_eq_true_eq, negE_mk, Nat.reduceLT, Nat.reduceLeDiff, Nat.reduceEqDiff, Nat.reduceMul, Int.reduceLT, Int.reduceLE, Int.reduceEq, Int.reduceAdd, Int.reduceSub, Int.reduceMul, Int.reduceNeg, Int.reduceToNat, Int.reducePow, Nat.reducePow, Int.reduceMod, Int.reduceDiv, reduceCtorEq, ite_true, List.nil_append, Nat.reduceBEq, isXE_mk, ev_isX, xfE_mk, ev_xf, raiseS_mk, raiseFS_mk, excM_mk, goneF_nxt, goneF_ret, opMulX_i, ev_addRL, ev_addLR, ev_addRR, ite_le2, opAdd_s, opAdd_t, chainE_mk, chainR_b, ev_isl, andE_mk, orE_mk, notE_mk, is_non_int, is_non_bool, is_non_str, is_non_list, is_non_tuple, is_bl_int, is_bl_bool, is_bl_str, is_bl_list, is_bl_tuple, is_int_int, is_int_bool, is_int_str, is_int_list, is_int_tuple, is_str_int, is_str_bool, is_str_str, is_str_list, is_str_tuple, is_tup_int, is_tup_bool, is_tup_str, is_tup_list, is_tup_tuple, is_l_int, is_l_bool, is_l_str, is_l_list, is_l_tuple, unpG_tup, unpG_ref, opEq_s, opNe_s, len2_str, leX_ss, seqIX_mk, srcX_str, ↓toBT, ↓toWT, bt_ok, bt_bt, wt_bt, wt_okM, wt_ok, wt_exc, wt_ite, wt_lift, wt_make, wt_try, mget2E_mk, mputS_mk, ev, hm1e, hz, hii, ha, hpe, heq, hl, hlr, hm2.symm, ha2, hQ1, hm3.symm, ml2, hput] <;> try simp -implicitDefEqProofs only [bt_eq, wt_eq])
        exact ⟨⟨_, fin⟩, fr4⟩
      · have hdn : decide ((f i).length = 0) = false := by
          refine decide_eq_false fun z => e (List.eq_nil_of_length_eq_zero z)
        rw [hdn] at heq
        rw [if_neg e]
        obtain ⟨m3, hm3⟩ : ∃ m3, m3 = m1 ++ [O.lst (f i ++ [.tup ys])] := ⟨_, rfl⟩
        have hd3 : m3[Lk]? = some (.mix kvs) := by rw [hm3]; exact get_app _ hd
        have hl3 : m3[Lr]? = some (.lst (row.map kD)) := by rw [hm3]; exact get_app _ hl
        have hn3 : m3[m.length + 1]? = some (.lst (f i ++ [.tup ys])) := by rw [hm3, ← hm1]; exact get_new
        have fr3 : Frm [Lr, Lk] m m3 := by rw [hm3]; exact fr1.trans (Frm.app _ _ _)
        have hput : mput (.d (.ref Lk)) (.d (kD i)) (.ref (m.length + 1)) m3 = .ok () (m3.set Lk (.mix (setK kvs (nK i) (.ref (m.length + 1))))) := mput_ok hd3 ki kd8 hz1
        have fr4 : Frm [Lr, Lk] m (m3.set Lk (.mix (setK kvs (nK i) (.ref (m.length + 1))))) := fr3.set (.inl (by simp)) _
        have fin : LJ (m3.set Lk (.mix (setK kvs (nK i) (.ref (m.length + 1))))) X Lr Lk row (fset f i (f i ++ [.tup ys])) (c + 1) (setK kvs (nK i) (.ref (m.length + 1))) :=
          ⟨by rw [get_set_ne' (Ne.symm n3)]; exact hl3, hfin _ _ fr4 (get_set hd3) (fun j hj q => set_other hi hj q _) (row_set (by rw [get_set_ne' (by omega)]; exact hn3) fun z => by have := hX _ z; omega) (set_le hcb), hLx, hKx⟩
        generalize m3.set Lk (.mix (setK kvs (nK i) (.ref (m.length + 1)))) = m4 at *
        generalize kD i = K at *
        generalize hQe : f i = Q at *
        (simp -implicitDefEqProofs (maxSteps := 2000000) (disch := (first | omega | decide +kernel | (simp only [isSome_set, isSome_app, isSome_new, Option.isSome_some, *]; done) | (simp only [isSome_lt, List.length_set, List.length_append, List.length_cons, List.length_nil, decide_eq_true_eq]; omega))) only [seqS_mk, asgS_mk, ifS_mk, retS_mk, retNS_mk, skipS_mk, dropS_mk, brkS_mk, cntS_mk, forS_mk, seqI_mk, matE_mk, callF_mk, callB_mk, consA_mk, nilA_mk, consT_mk, nilT_mk, tvs_mk, binE_mk, varE_0, varE_s, kE_mk, set_0, set_s, nmG_mk, lstE_mk, tupE_mk, bT_mk, tstT_mk, notT_mk, andT_mk, orT_mk, yesT_mk, andE_mk, orE_mk, notE_mk, ifE_mk, negE_mk, sliceE_mk, noP_mk, intP_mk, bmE_mk, bmE0_mk, isiB_mk, lcE_mk, lcT_mk, wipeE_nil, wipeE_cons, liftF_ok, matD_d, matD_l, boolT_mk, truthM_bl, truthM_int, truthM_non, opAdd_i, opSub_i, opLt_i, opLe_i, opGt_i, opGe_i, opEq_i, opNe_i, opMod_p, opDiv_p, seqSrc_l, seqSrc_clst, seqSrc_tup, ofL_n, ofR_n, opCut_l, opCut_tup, opCut_clst, callB_len_clst, callB_len_l, callB_len_tup, isi_int_int, isi_int_bool, isi_bool_bool, isi_bool_int, if_true, List.map_cons, List.map_nil, Int.toNat_natCast, List.length_cons, List.length_nil, List.replicate_succ, List.replicate_zero, List.cons_append, List.nil_append, Nat.sub_self, Nat.reduceSub, Nat.reduceAdd, ite_at, Bool.not_true, Bool.not_false, decide_true, decide_false, Bool.false_eq_true, if_false, reduceIte, fldE_mk, ev_fld, sfldS_mk, ev_setF, ev_putD_nil, ev_putD, methE_mk, ev_meth, augFS_mk, ev_aug, ev_len, ev_len2, len2_clst, len2_l, len2_tup, ev_list, ev_list2, list_tup, list_clst, list_l, list2_tup, list2_l, list2_clst, ev_tuple, tuple_tup, bTuple_l, ev_cut, ev_idx, ev_idxT, ev_idxL, ev_idxC, subS_mk, ev_subs, subs_l, subs_tup, subs_clst, subs_str, key_int, key_str, ev_getK_nil, ev_getK, ev_put, ev_src, ev_append, ev_extend, listOfM_l, ev_listOfM, listOf_l, listOf_clst, ev_listOf, ev_clear, chk_list, chk_str, chk_dic, dgetE_mk, dgetM_ev, dget2E_mk, dget2M_ev, ev_dget, ev_dgetY, ev_dget2Y, dpopE_mk, get_set_ne', get_set_is, get_app_is, get_new, ite_lt, ite_le, at_0, at_1, at_2, at_3, at_4, at_end, tupG_mk, tupG_mk', consG_mk, nilG_mk, sne, sbne, beq_self_eq_true, List.lookup_cons, List.lookup_nil, List.mem_cons, List.not_mem_nil, or_false, false_or, true_or, or_true, and_true, true_and, and_false, false_and, eq_self, Option.isSome_some, Option.isSome_none, Option.map_some, Option.map_none, opIs_nn, opIs_ni, opIsNot_nn, opIsNot_ni, opIsB_b, opIsNotB_b, opMul_l, opMul_r, opEq_b, opNe_b, bMax2_i, bMin2_i, List.map_cons, Sum.inl.injEq, Sum.inr.injEq, isi_l_list, isi_tup_tup, List.length_set, decide_eq_true_eq, negE_mk, Nat.reduceLT, Nat.reduceLeDiff, Nat.reduceEqDiff, Nat.reduceMul, Int.reduceLT, Int.reduceLE, Int.reduceEq, Int.reduceAdd, Int.reduceSub, Int.reduceMul, Int.reduceNeg, Int.reduceToNat, Int.reducePow, Nat.reducePow, Int.reduceMod, Int.reduceDiv, reduceCtorEq, ite_true, List.nil_append, Nat.reduceBEq, isXE_mk, ev_isX, xfE_mk, ev_xf, raiseS_mk, raiseFS_mk, excM_mk, goneF_nxt, goneF_ret, opMulX_i, ev_addRL, ev_addLR, ev_addRR, ite_le2, opAdd_s, opAdd_t, chainE_mk, chainR_b, ev_isl, andE_mk, orE_mk, notE_mk, is_non_int, is_non_bool, is_non_str, is_non_list, is_non_tuple, is_bl_int, is_bl_bool, is_bl_str, is_bl_list, is_bl_tuple, is_int_int, is_int_bool, is_int_str, is_int_list, is_int_tuple, is_str_int, is_str_bool, is_str_str, is_str_list, is_str_tuple, is_tup_int, is_tup_bool, is_tup_str, is_tup_list, is_tup_tuple, is_l_int, is_l_bool, is_l_str, is_l_list, is_l_tuple, unpG_tup, unpG_ref, opEq_s, opNe_s, len2_str, leX_ss, seqIX_mk, srcX_str, ↓toBT, ↓toWT, bt_ok, bt_bt, wt_bt, wt_okM, wt_ok, wt_exc, wt_ite, wt_lift, wt_make, wt_try, mget2E_mk, mputS_mk, ev, hm1e, hz, hii, ha, hpe, heq, hQ1, hm3.symm, hm1, hput] <;> try simp -implicitDefEqProofs only [bt_eq, wt_eq])
        exact ⟨⟨_, fin⟩, fr4⟩
end
end Law

set_option maxHeartbeats 1000000
namespace Law
open PySem L2 Mir
section
variable {m m' : Mem} {X J : List Nat} {Lr Lk : Nat} {pl : Int} {row : List Nat} {f : Nat → List D} {c : Nat} {kvs : List (NestedKey × D)}
/-- one parcel out, as the law counts -/
theorem lout0 {k : Nat} {rest : List Nat} {F : Nat} {fs : List D} {x2 x4 x5 : Option D} (h : LJ m X Lr Lk (k :: rest) f c kvs) (R : RS pl (k :: rest) f) (hX : ∀ x ∈ X, x < m.length) (hc : c ≤ 100000) {p : D} {t : List D} (hf : f k = p :: t) (hF : m[F]? = some (.lst fs)) (hFX : F ∈ X) (hFr : F ≠ Lr) (hfl : fs.length ≤ 2000) :
    wpR (m_law_out_0 [some (.ref Lr), some (.ref Lk), x2, some (.ref F), x4, x5] m) (fun fl m' => fl = .nxt [some (.ref Lr), some (.ref Lk), x2, some (.ref F), x4, some (kD k)] ∧ (∃ kvs', LJ m' X Lr Lk (nextR rest t k) (fset f k t) c kvs') ∧ m'[F]? = some (.lst (fs ++ [p])) ∧ Frm [Lr, Lk, F] m m') noEx := by
  unfold m_law_out_0
  have n3 := h.ne
  have hi := R.rb k (by simp)
  have hcb := h.k.len
  have hd := h.k.d
  have hl := h.l
  have hrl := R.len
  have hfl0 := R.fl k hi
  have hpb := R.pb
  have ki := k_nk k hi
  have kd8 := n_dep k hi
  have hrow := h.k.row k hi
  have hFk : F ≠ Lk := fun z => by rw [z, hd] at hF; cases hF
  rw [hf] at hrow hfl0
  obtain ⟨r, h1, h2, h3⟩ : ∃ r, getK kvs (nK k) = some (.ref r) ∧ m[r]? = some (.lst (p :: t)) ∧ r ∉ X := by
    rcases hrow with ⟨_, z⟩ | z
    · cases z
    · exact z
  have hrr : r ≠ Lr := fun z => h3 (z ▸ h.lx)
  have hrk : r ≠ Lk := fun z => h3 (z ▸ h.kx)
  have hrF : r ≠ F := fun z => h3 (z ▸ hFX)
  have hlr := lt_of h2
  have hsl2 : cutD (p :: t) (some 1) none = t := by
    rw [show (some (1 : Int)) = some ((1 : Nat) : Int) from rfl, cut_from _ 1 (by simp)]; simp
  rw [List.map_cons] at hl
  have hpop : lPopAt (.d (.ref Lr)) [.d (.int 0)] m = .ok (.d (kD k)) (m.set Lr (.lst (rest.map kD))) := lPopAt_ok hl ⟨by omega, by simp only [List.length_cons]; omega⟩ (by omega) rfl
  obtain ⟨m1, hm1⟩ : ∃ m1, m1 = m.set Lr (.lst (rest.map kD)) := ⟨_, rfl⟩
  rw [← hm1] at hpop
  have hd1 : m1[Lk]? = some (.mix kvs) := by rw [hm1, get_set_ne' n3]; exact hd
  have hl1 : m1[Lr]? = some (.lst (rest.map kD)) := by rw [hm1]; exact get_set hl
  have hr1 : m1[r]? = some (.lst (p :: t)) := by rw [hm1, get_set_ne' (Ne.symm hrr)]; exact h2
  have hF1 : m1[F]? = some (.lst fs) := by rw [hm1, get_set_ne' (Ne.symm hFr)]; exact hF
  have ml1 : m1.length = m.length := by rw [hm1, List.length_set]
  have f1 : Frm [Lr, Lk, F] m m1 := by rw [hm1]; exact (Frm.refl _ _).set (.inl (by simp)) _
  have hop1 : opMix (.d (.ref Lk)) (.d (kD k)) m1 = .ok (.d (.ref r)) m1 := opMix_ok hd1 ki kd8 h1
  obtain ⟨m2, hm2⟩ : ∃ m2, m2 = m1.set F (.lst (fs ++ [p])) := ⟨_, rfl⟩
  have hd2 : m2[Lk]? = some (.mix kvs) := by rw [hm2, get_set_ne' hFk]; exact hd1
  have hl2 : m2[Lr]? = some (.lst (rest.map kD)) := by rw [hm2, get_set_ne' hFr]; exact hl1
  have hr2 : m2[r]? = some (.lst (p :: t)) := by rw [hm2, get_set_ne' (Ne.symm hrF)]; exact hr1
  have hF2 : m2[F]? = some (.lst (fs ++ [p])) := by rw [hm2]; exact get_set hF1
  have ml2 : m2.length = m.length := by rw [hm2, List.length_set, ml1]
  have f2 : Frm [Lr, Lk, F] m m2 := by rw [hm2]; exact f1.set (.inl (by simp)) _
  have hop2 : opMix (.d (.ref Lk)) (.d (kD k)) m2 = .ok (.d (.ref r)) m2 := opMix_ok hd2 ki kd8 h1
  obtain ⟨m3, hm3⟩ : ∃ m3, m3 = m2 ++ [O.lst t] := ⟨_, rfl⟩
  have hd3 : m3[Lk]? = some (.mix kvs) := by rw [hm3]; exact get_app _ hd2
  have hl3 : m3[Lr]? = some (.lst (rest.map kD)) := by rw [hm3]; exact get_app _ hl2
  have hF3 : m3[F]? = some (.lst (fs ++ [p])) := by rw [hm3]; exact get_app _ hF2
  have hn3 : m3[m.length]? = some (.lst t) := by rw [hm3, ← ml2]; exact get_new
  have ml3 : m3.length = m.length + 1 := by rw [hm3]; simp [ml2]
  have f3 : Frm [Lr, Lk, F] m m3 := by rw [hm3]; exact f2.trans (Frm.app _ _ _)
  have hput : mput (.d (.ref Lk)) (.d (kD k)) (.ref m.length) m3 = .ok () (m3.set Lk (.mix (setK kvs (nK k) (.ref m.length)))) := mput_ok hd3 ki kd8 (by rw [sizeLine_eq]; omega)
  obtain ⟨m4, hm4⟩ : ∃ m4, m4 = m3.set Lk (.mix (setK kvs (nK k) (.ref m.length))) := ⟨_, rfl⟩
  rw [← hm4] at hput
  have hlk3 := lt_of h.k.d
  have hlr3 := lt_of h.l
  have hlF3 := lt_of hF
  have hd4 : m4[Lk]? = some (.mix (setK kvs (nK k) (.ref m.length))) := by rw [hm4]; exact get_set hd3
  have hl4 : m4[Lr]? = some (.lst (rest.map kD)) := by rw [hm4, get_set_ne' (Ne.symm n3)]; exact hl3
  have hF4 : m4[F]? = some (.lst (fs ++ [p])) := by rw [hm4, get_set_ne' (Ne.symm hFk)]; exact hF3
  have hn4 : m4[m.length]? = some (.lst t) := by rw [hm4, get_set_ne' (by omega)]; exact hn3
  have f4 : Frm [Lr, Lk, F] m m4 := by rw [hm4]; exact f3.set (.inl (by simp)) _
  have hop4 : opMix (.d (.ref Lk)) (.d (kD k)) m4 = .ok (.d (.ref m.length)) m4 := opMix_ok hd4 ki kd8 (by rw [getK_set, if_pos rfl])
  have hok7 : ∀ d ∈ t, okD 7 d := fun d hd => (R.fo k hi d (by rw [hf]; exact List.mem_cons_of_mem _ hd)).ok
  have hne := opNe_nil hn4 hok7
  have hsl : (setK kvs (nK k) (.ref m.length)).length ≤ c := by
    rw [setK_len, h1]; simp; exact hcb
  have hJX : ∀ x ∈ [Lr, Lk, F], x ∈ X := by simp [h.lx, h.kx, hFX]
  have hLx := h.lx
  have hKx := h.kx
  have hmX : m.length ∉ X := fun z => by have := hX _ z; omega
  have hQ1 : fs.length < 16777216 := by omega
  cases t with
  | nil =>
    have fin : LJ m4 X Lr Lk (nextR rest [] k) (fset f k []) c (setK kvs (nK k) (.ref m.length)) := ⟨hl4, h.k.set hi f4 hJX hd4 (fun j hj q => set_other hi hj q _) (row_set hn4 hmX) hsl, hLx, hKx⟩
    simp only [List.length_nil, decide_true, Bool.not_true] at hne
    generalize hKe : kD k = K at *
    generalize rest.map kD = RW at *
    (simp -implicitDefEqProofs (maxSteps := 2000000) (disch := (first | omega | decide +kernel | (simp only [isSome_set, isSome_app, isSome_new, Option.isSome_some, *]; done) | (simp only [isSome_lt, List.length_set, List.length_append, List.length_cons, List.length_nil, decide_eq_true_eq]; omega))) only [seqS_mk, asgS_mk, ifS_mk, retS_mk, retNS_mk, skipS_mk, dropS_mk, brkS_mk, cntS_mk, forS_mk, seqI_mk, matE_mk, callF_mk, callB_mk, consA_mk, nilA_mk, consT_mk, nilT_mk, tvs_mk, binE_mk, varE_0, varE_s, kE_mk, set_0, set_s, nmG_mk, lstE_mk, tupE_mk, bT_mk, tstT_mk, notT_mk, andT_mk, orT_mk, yesT_mk, andE_mk, orE_mk, notE_mk, ifE_mk, negE_mk, sliceE_mk, noP_mk, intP_mk, bmE_mk, bmE0_mk, isiB_mk, lcE_mk, lcT_mk, wipeE_nil, wipeE_cons, liftF_ok, matD_d, matD_l, boolT_mk, truthM_bl, truthM_int, truthM_non, opAdd_i, opSub_i, opLt_i, opLe_i, opGt_i, opGe_i, opEq_i, opNe_i, opMod_p, opDiv_p, seqSrc_l, seqSrc_clst, seqSrc_tup, ofL_n, ofR_n, opCut_l, opCut_tup, opCut_clst, callB_len_clst, callB_len_l, callB_len_tup, isi_int_int, isi_int_bool, isi_bool_bool, isi_bool_int, if_true, List.map_cons, List.map_nil, Int.toNat_natCast, List.length_cons, List.length_nil, List.replicate_succ, List.replicate_zero, List.cons_append, List.nil_append, Nat.sub_self, Nat.reduceSub, Nat.reduceAdd, ite_at, Bool.not_true, Bool.not_false, decide_true, decide_false, Bool.false_eq_true, if_false, reduceIte, fldE_mk, ev_fld, sfldS_mk, ev_setF, ev_putD_nil, ev_putD, methE_mk, ev_meth, augFS_mk, ev_aug, ev_len, ev_len2, len2_clst, len2_l, len2_tup, ev_list, ev_list2, list_tup, list_clst, list_l, list2_tup, list2_l, list2_clst, ev_tuple, tuple_tup, bTuple_l, ev_cut, ev_idx, ev_idxT, ev_idxL, ev_idxC, subS_mk, ev_subs, subs_l, subs_tup, subs_clst, subs_str, key_int, key_str, ev_getK_nil, ev_getK, ev_put, ev_src, ev_append, ev_extend, listOfM_l, ev_listOfM, listOf_l, listOf_clst, ev_listOf, ev_clear, chk_list, chk_str, chk_dic, dgetE_mk, dgetM_ev, dget2E_mk, dget2M_ev, ev_dget, ev_dgetY, ev_dget2Y, dpopE_mk, get_set_ne', get_set_is, get_app_is, get_new, ite_lt, ite_le, at_0, at_1, at_2, at_3, at_4, at_end, tupG_mk, tupG_mk', consG_mk, nilG_mk, sne, sbne, beq_self_eq_true, List.lookup_cons, List.lookup_nil, List.mem_cons, List.not_mem_nil, or_false, false_or, true_or, or_true, and_true, true_and, and_false, false_and, eq_self, Option.isSome_some, Option.isSome_none, Option.map_some, Option.map_none, opIs_nn, opIs_ni, opIsNot_nn, opIsNot_ni, opIsB_b, opIsNotB_b, opMul_l, opMul_r, opEq_b, opNe_b, bMax2_i, bMin2_i, List.map_cons, Sum.inl.injEq, Sum.inr.injEq, isi_l_list, isi_tup_tup, List.length_set, decide_eq_true_eq, negE_mk, Nat.reduceLT, Nat.reduceLeDiff, Nat.reduceEqDiff, Nat.reduceMul, Int.reduceLT, Int.reduceLE, Int.reduceEq, Int.reduceAdd, Int.reduceSub, Int.reduceMul, Int.reduceNeg, Int.reduceToNat, Int.reducePow, Nat.reducePow, Int.reduceMod, Int.reduceDiv, reduceCtorEq, ite_true, List.nil_append, Nat.reduceBEq, isXE_mk, ev_isX, xfE_mk, ev_xf, raiseS_mk, raiseFS_mk, excM_mk, goneF_nxt, goneF_ret, opMulX_i, ev_addRL, ev_addLR, ev_addRR, ite_le2, opAdd_s, opAdd_t, chainE_mk, chainR_b, ev_isl, andE_mk, orE_mk, notE_mk, is_non_int, is_non_bool, is_non_str, is_non_list, is_non_tuple, is_bl_int, is_bl_bool, is_bl_str, is_bl_list, is_bl_tuple, is_int_int, is_int_bool, is_int_str, is_int_list, is_int_tuple, is_str_int, is_str_bool, is_str_str, is_str_list, is_str_tuple, is_tup_int, is_tup_bool, is_tup_str, is_tup_list, is_tup_tuple, is_l_int, is_l_bool, is_l_str, is_l_list, is_l_tuple, unpG_tup, unpG_ref, opEq_s, opNe_s, len2_str, leX_ss, seqIX_mk, srcX_str, ↓toBT, ↓toWT, bt_ok, bt_bt, wt_bt, wt_okM, wt_ok, wt_exc, wt_ite, wt_lift, wt_make, wt_try, hpop, hl, hF1, hr1, hQ1, hop1, hm2.symm, hop2, hr2, hsl2, hm3.symm, ml2, mputS_mk, hput, hop4, hne] <;> try simp -implicitDefEqProofs only [bt_eq, wt_eq])
    exact ⟨⟨_, fin⟩, hF4, f4⟩
  | cons p2 t =>
    have hdn : decide ((p2 :: t).length = 0) = false := by simp
    rw [hdn] at hne
    have htr : (nextR rest (p2 :: t) k).map kD = rest.map kD ++ [kD k] := by unfold nextR; rw [if_neg (by simp)]; simp
    have hlr2 : (rest.map kD).length < 16777216 := by rw [List.length_map]; simp only [List.length_cons] at hrl; omega
    obtain ⟨m5, hm5⟩ : ∃ m5, m5 = m4.set Lr (.lst (rest.map kD ++ [kD k])) := ⟨_, rfl⟩
    have hd5 : m5[Lk]? = some (.mix (setK kvs (nK k) (.ref m.length))) := by rw [hm5, get_set_ne' n3]; exact hd4
    have hl5 : m5[Lr]? = some (.lst ((nextR rest (p2 :: t) k).map kD)) := by rw [hm5, htr]; exact get_set hl4
    have hF5 : m5[F]? = some (.lst (fs ++ [p])) := by rw [hm5, get_set_ne' (Ne.symm hFr)]; exact hF4
    have hn5 : m5[m.length]? = some (.lst (p2 :: t)) := by rw [hm5, get_set_ne' (by omega)]; exact hn4
    have f5 : Frm [Lr, Lk, F] m m5 := by rw [hm5]; exact f4.set (.inl (by simp)) _
    have fin : LJ m5 X Lr Lk (nextR rest (p2 :: t) k) (fset f k (p2 :: t)) c (setK kvs (nK k) (.ref m.length)) := ⟨hl5, h.k.set hi f5 hJX hd5 (fun j hj q => set_other hi hj q _) (row_set hn5 hmX) hsl, hLx, hKx⟩
    generalize hKe : kD k = K at *
    generalize rest.map kD = RW at *
    (simp -implicitDefEqProofs (maxSteps := 2000000) (disch := (first | omega | decide +kernel | (simp only [isSome_set, isSome_app, isSome_new, Option.isSome_some, *]; done) | (simp only [isSome_lt, List.length_set, List.length_append, List.length_cons, List.length_nil, decide_eq_true_eq]; omega))) only [seqS_mk, asgS_mk, ifS_mk, retS_mk, retNS_mk, skipS_mk, dropS_mk, brkS_mk, cntS_mk, forS_mk, seqI_mk, matE_mk, callF_mk, callB_mk, consA_mk, nilA_mk, consT_mk, nilT_mk, tvs_mk, binE_mk, varE_0, varE_s, kE_mk, set_0, set_s, nmG_mk, lstE_mk, tupE_mk, bT_mk, tstT_mk, notT_mk, andT_mk, orT_mk, yesT_mk, andE_mk, orE_mk, notE_mk, ifE_mk, negE_mk, sliceE_mk, noP_mk, intP_mk, bmE_mk, bmE0_mk, isiB_mk, lcE_mk, lcT_mk, wipeE_nil, wipeE_cons, liftF_ok, matD_d, matD_l, boolT_mk, truthM_bl, truthM_int, truthM_non, opAdd_i, opSub_i, opLt_i, opLe_i, opGt_i, opGe_i, opEq_i, opNe_i, opMod_p, opDiv_p, seqSrc_l, seqSrc_clst, seqSrc_tup, ofL_n, ofR_n, opCut_l, opCut_tup, opCut_clst, callB_len_clst, callB_len_l, callB_len_tup, isi_int_int, isi_int_bool, isi_bool_bool, isi_bool_int, if_true, List.map_cons, List.map_nil, Int.toNat_natCast, List.length_cons, List.length_nil, List.replicate_succ, List.replicate_zero, List.cons_append, List.nil_append, Nat.sub_self, Nat.reduceSub, Nat.reduceAdd, ite_at, Bool.not_true, Bool.not_false, decide_true, decide_false, Bool.false_eq_true, if_false, reduceIte, fldE_mk, ev_fld, sfldS_mk, ev_setF, ev_putD_nil, ev_putD, methE_mk, ev_meth, augFS_mk, ev_aug, ev_len, ev_len2, len2_clst, len2_l, len2_tup, ev_list, ev_list2, list_tup, list_clst, list_l, list2_tup, list2_l, list2_clst, ev_tuple, tuple_tup, bTuple_l, ev_cut, ev_idx, ev_idxT, ev_idxL, ev_idxC, subS_mk, ev_subs, subs_l, subs_tup, subs_clst, subs_str, key_int, key_str, ev_getK_nil, ev_getK, ev_put, ev_src, ev_append, ev_extend, listOfM_l, ev_listOfM, listOf_l, listOf_clst, ev_listOf, ev_clear, chk_list, chk_str, chk_dic, dgetE_mk, dgetM_ev, dget2E_mk, dget2M_ev, ev_dget, ev_dgetY, ev_dget2Y, dpopE_mk, get_set_ne', get_set_is, get_app_is, get_new, ite_lt, ite_le, at_0, at_1, at_2, at_3, at_4, at_end, tupG_mk, tupG_mk', consG_mk, nilG_mk, sne, sbne, beq_self_eq_true, List.lookup_cons, List.lookup_nil, List.mem_cons, List.not_mem_nil, or_false, false_or, true_or, or_true, and_true, true_and, and_false, false_and, eq_self, Option.isSome_some, Option.isSome_none, Option.map_some, Option.map_none, opIs_nn, opIs_ni, opIsNot_nn, opIsNot_ni, opIsB_b, opIsNotB_b, opMul_l, opMul_r, opEq_b, opNe_b, bMax2_i, bMin2_i, List.map_cons, Sum.inl.injEq, Sum.inr.injEq, isi_l_list, isi_tup_tup, List.length_set, decide_eq_true_eq, negE_mk, Nat.reduceLT, Nat.reduceLeDiff, Nat.reduceEqDiff, Nat.reduceMul, Int.reduceLT, Int.reduceLE, Int.reduceEq, Int.reduceAdd, Int.reduceSub, Int.reduceMul, Int.reduceNeg, Int.reduceToNat, Int.reducePow, Nat.reducePow, Int.reduceMod, Int.reduceDiv, reduceCtorEq, ite_true, List.nil_append, Nat.reduceBEq, isXE_mk, ev_isX, xfE_mk, ev_xf, raiseS_mk, raiseFS_mk, excM_mk, goneF_nxt, goneF_ret, opMulX_i, ev_addRL, ev_addLR, ev_addRR, ite_le2, opAdd_s, opAdd_t, chainE_mk, chainR_b, ev_isl, andE_mk, orE_mk, notE_mk, is_non_int, is_non_bool, is_non_str, is_non_list, is_non_tuple, is_bl_int, is_bl_bool, is_bl_str, is_bl_list, is_bl_tuple, is_int_int, is_int_bool, is_int_str, is_int_list, is_int_tuple, is_str_int, is_str_bool, is_str_str, is_str_list, is_str_tuple, is_tup_int, is_tup_bool, is_tup_str, is_tup_list, is_tup_tuple, is_l_int, is_l_bool, is_l_str, is_l_list, is_l_tuple, unpG_tup, unpG_ref, opEq_s, opNe_s, len2_str, leX_ss, seqIX_mk, srcX_str, ↓toBT, ↓toWT, bt_ok, bt_bt, wt_bt, wt_okM, wt_ok, wt_exc, wt_ite, wt_lift, wt_make, wt_try, hpop, hl, hF1, hr1, hQ1, hop1, hm2.symm, hop2, hr2, hsl2, hm3.symm, ml2, mputS_mk, hput, hop4, hne, hl4, hlr2, hm5.symm] <;> try simp -implicitDefEqProofs only [bt_eq, wt_eq])
    exact ⟨⟨_, fin⟩, hF5, f5⟩
theorem lout_ok (h : LJ m X Lr Lk row f c kvs) (R : RS pl row f) (hX : ∀ x ∈ X, x < m.length) (hc : c ≤ 50000) {n : Nat} (hn : n ≤ 1000) :
    wpR (F_law_out [.ref Lr, .ref Lk, .int (n : Int)] m) (fun d m' => d = .ref m.length ∧ (∃ kvs', LJ m' (m.length :: X) Lr Lk (outS n row f).2.1 (outS n row f).2.2 c kvs') ∧ m'[m.length]? = some (.lst (outS n row f).1) ∧ Frm [Lr, Lk] m m' ∧ m.length < m'.length) noEx := by
  have L0 := @lout0
  refine wp_fn ?_
  unfold m_law_out
  have hB : m_law_out_1 = ifS (bT (binE opNe (varE 0) (lstE nilA))) m_law_out_0 skipS := rfl
  generalize m_law_out_1 = B0 at *
  generalize m_law_out_0 = B1 at *
  generalize hE : outS n row f = E
  (simp -implicitDefEqProofs (maxSteps := 2000000) (disch := (first | omega | decide +kernel | (simp only [isSome_set, isSome_app, isSome_new, Option.isSome_some, *]; done) | (simp only [isSome_lt, List.length_set, List.length_append, List.length_cons, List.length_nil, decide_eq_true_eq]; omega))) only [seqS_mk, asgS_mk, ifS_mk, retS_mk, retNS_mk, skipS_mk, dropS_mk, brkS_mk, cntS_mk, forS_mk, seqI_mk, matE_mk, callF_mk, callB_mk, consA_mk, nilA_mk, consT_mk, nilT_mk, tvs_mk, binE_mk, varE_0, varE_s, kE_mk, set_0, set_s, nmG_mk, lstE_mk, tupE_mk, bT_mk, tstT_mk, notT_mk, andT_mk, orT_mk, yesT_mk, andE_mk, orE_mk, notE_mk, ifE_mk, negE_mk, sliceE_mk, noP_mk, intP_mk, bmE_mk, bmE0_mk, isiB_mk, lcE_mk, lcT_mk, wipeE_nil, wipeE_cons, liftF_ok, matD_d, matD_l, boolT_mk, truthM_bl, truthM_int, truthM_non, opAdd_i, opSub_i, opLt_i, opLe_i, opGt_i, opGe_i, opEq_i, opNe_i, opMod_p, opDiv_p, seqSrc_l, seqSrc_clst, seqSrc_tup, ofL_n, ofR_n, opCut_l, opCut_tup, opCut_clst, callB_len_clst, callB_len_l, callB_len_tup, isi_int_int, isi_int_bool, isi_bool_bool, isi_bool_int, if_true, List.map_cons, List.map_nil, Int.toNat_natCast, List.length_cons, List.length_nil, List.replicate_succ, List.replicate_zero, List.cons_append, List.nil_append, Nat.sub_self, Nat.reduceSub, Nat.reduceAdd, ite_at, Bool.not_true, Bool.not_false, decide_true, decide_false, Bool.false_eq_true, if_false, reduceIte, fldE_mk, ev_fld, sfldS_mk, ev_setF, ev_putD_nil, ev_putD, methE_mk, ev_meth, augFS_mk, ev_aug, ev_len, ev_len2, len2_clst, len2_l, len2_tup, ev_list, ev_list2, list_tup, list_clst, list_l, list2_tup, list2_l, list2_clst, ev_tuple, tuple_tup, bTuple_l, ev_cut, ev_idx, ev_idxT, ev_idxL, ev_idxC, subS_mk, ev_subs, subs_l, subs_tup, subs_clst, subs_str, key_int, key_str, ev_getK_nil, ev_getK, ev_put, ev_src, ev_append, ev_extend, listOfM_l, ev_listOfM, listOf_l, listOf_clst, ev_listOf, ev_clear, chk_list, chk_str, chk_dic, dgetE_mk, dgetM_ev, dget2E_mk, dget2M_ev, ev_dget, ev_dgetY, ev_dget2Y, dpopE_mk, get_set_ne', get_set_is, get_app_is, get_new, ite_lt, ite_le, at_0, at_1, at_2, at_3, at_4, at_end, tupG_mk, tupG_mk', consG_mk, nilG_mk, sne, sbne, beq_self_eq_true, List.lookup_cons, List.lookup_nil, List.mem_cons, List.not_mem_nil, or_false, false_or, true_or, or_true, and_true, true_and, and_false, false_and, eq_self, Option.isSome_some, Option.isSome_none, Option.map_some, Option.map_none, opIs_nn, opIs_ni, opIsNot_nn, opIsNot_ni, opIsB_b, opIsNotB_b, opMul_l, opMul_r, opEq_b, opNe_b, bMax2_i, bMin2_i, List.map_cons, Sum.inl.injEq, Sum.inr.injEq, isi_l_list, isi_tup_tup, List.length_set, decide_eq_true_eq, negE_mk, Nat.reduceLT, Nat.reduceLeDiff, Nat.reduceEqDiff, Nat.reduceMul, Int.reduceLT, Int.reduceLE, Int.reduceEq, Int.reduceAdd, Int.reduceSub, Int.reduceMul, Int.reduceNeg, Int.reduceToNat, Int.reducePow, Nat.reducePow, Int.reduceMod, Int.reduceDiv, reduceCtorEq, ite_true, List.nil_append, Nat.reduceBEq, isXE_mk, ev_isX, xfE_mk, ev_xf, raiseS_mk, raiseFS_mk, excM_mk, goneF_nxt, goneF_ret, opMulX_i, ev_addRL, ev_addLR, ev_addRR, ite_le2, opAdd_s, opAdd_t, chainE_mk, chainR_b, ev_isl, andE_mk, orE_mk, notE_mk, is_non_int, is_non_bool, is_non_str, is_non_list, is_non_tuple, is_bl_int, is_bl_bool, is_bl_str, is_bl_list, is_bl_tuple, is_int_int, is_int_bool, is_int_str, is_int_list, is_int_tuple, is_str_int, is_str_bool, is_str_str, is_str_list, is_str_tuple, is_tup_int, is_tup_bool, is_tup_str, is_tup_list, is_tup_tuple, is_l_int, is_l_bool, is_l_str, is_l_list, is_l_tuple, unpG_tup, unpG_ref, opEq_s, opNe_s, len2_str, leX_ss, seqIX_mk, srcX_str, ↓toBT, ↓toWT, bt_ok, bt_bt, wt_bt, wt_okM, wt_ok, wt_exc, wt_ite, wt_lift, wt_make, wt_try] <;> try simp -implicitDefEqProofs only [bt_eq, wt_eq])
  rw [rng1_ok (by omega)]
  (simp -implicitDefEqProofs (maxSteps := 2000000) (disch := (first | omega | decide +kernel | (simp only [isSome_set, isSome_app, isSome_new, Option.isSome_some, *]; done) | (simp only [isSome_lt, List.length_set, List.length_append, List.length_cons, List.length_nil, decide_eq_true_eq]; omega))) only [seqS_mk, asgS_mk, ifS_mk, retS_mk, retNS_mk, skipS_mk, dropS_mk, brkS_mk, cntS_mk, forS_mk, seqI_mk, matE_mk, callF_mk, callB_mk, consA_mk, nilA_mk, consT_mk, nilT_mk, tvs_mk, binE_mk, varE_0, varE_s, kE_mk, set_0, set_s, nmG_mk, lstE_mk, tupE_mk, bT_mk, tstT_mk, notT_mk, andT_mk, orT_mk, yesT_mk, andE_mk, orE_mk, notE_mk, ifE_mk, negE_mk, sliceE_mk, noP_mk, intP_mk, bmE_mk, bmE0_mk, isiB_mk, lcE_mk, lcT_mk, wipeE_nil, wipeE_cons, liftF_ok, matD_d, matD_l, boolT_mk, truthM_bl, truthM_int, truthM_non, opAdd_i, opSub_i, opLt_i, opLe_i, opGt_i, opGe_i, opEq_i, opNe_i, opMod_p, opDiv_p, seqSrc_l, seqSrc_clst, seqSrc_tup, ofL_n, ofR_n, opCut_l, opCut_tup, opCut_clst, callB_len_clst, callB_len_l, callB_len_tup, isi_int_int, isi_int_bool, isi_bool_bool, isi_bool_int, if_true, List.map_cons, List.map_nil, Int.toNat_natCast, List.length_cons, List.length_nil, List.replicate_succ, List.replicate_zero, List.cons_append, List.nil_append, Nat.sub_self, Nat.reduceSub, Nat.reduceAdd, ite_at, Bool.not_true, Bool.not_false, decide_true, decide_false, Bool.false_eq_true, if_false, reduceIte, fldE_mk, ev_fld, sfldS_mk, ev_setF, ev_putD_nil, ev_putD, methE_mk, ev_meth, augFS_mk, ev_aug, ev_len, ev_len2, len2_clst, len2_l, len2_tup, ev_list, ev_list2, list_tup, list_clst, list_l, list2_tup, list2_l, list2_clst, ev_tuple, tuple_tup, bTuple_l, ev_cut, ev_idx, ev_idxT, ev_idxL, ev_idxC, subS_mk, ev_subs, subs_l, subs_tup, subs_clst, subs_str, key_int, key_str, ev_getK_nil, ev_getK, ev_put, ev_src, ev_append, ev_extend, listOfM_l, ev_listOfM, listOf_l, listOf_clst, ev_listOf, ev_clear, chk_list, chk_str, chk_dic, dgetE_mk, dgetM_ev, dget2E_mk, dget2M_ev, ev_dget, ev_dgetY, ev_dget2Y, dpopE_mk, get_set_ne', get_set_is, get_app_is, get_new, ite_lt, ite_le, at_0, at_1, at_2, at_3, at_4, at_end, tupG_mk, tupG_mk', consG_mk, nilG_mk, sne, sbne, beq_self_eq_true, List.lookup_cons, List.lookup_nil, List.mem_cons, List.not_mem_nil, or_false, false_or, true_or, or_true, and_true, true_and, and_false, false_and, eq_self, Option.isSome_some, Option.isSome_none, Option.map_some, Option.map_none, opIs_nn, opIs_ni, opIsNot_nn, opIsNot_ni, opIsB_b, opIsNotB_b, opMul_l, opMul_r, opEq_b, opNe_b, bMax2_i, bMin2_i, List.map_cons, Sum.inl.injEq, Sum.inr.injEq, isi_l_list, isi_tup_tup, List.length_set, decide_eq_true_eq, negE_mk, Nat.reduceLT, Nat.reduceLeDiff, Nat.reduceEqDiff, Nat.reduceMul, Int.reduceLT, Int.reduceLE, Int.reduceEq, Int.reduceAdd, Int.reduceSub, Int.reduceMul, Int.reduceNeg, Int.reduceToNat, Int.reducePow, Nat.reducePow, Int.reduceMod, Int.reduceDiv, reduceCtorEq, ite_true, List.nil_append, Nat.reduceBEq, isXE_mk, ev_isX, xfE_mk, ev_xf, raiseS_mk, raiseFS_mk, excM_mk, goneF_nxt, goneF_ret, opMulX_i, ev_addRL, ev_addLR, ev_addRR, ite_le2, opAdd_s, opAdd_t, chainE_mk, chainR_b, ev_isl, andE_mk, orE_mk, notE_mk, is_non_int, is_non_bool, is_non_str, is_non_list, is_non_tuple, is_bl_int, is_bl_bool, is_bl_str, is_bl_list, is_bl_tuple, is_int_int, is_int_bool, is_int_str, is_int_list, is_int_tuple, is_str_int, is_str_bool, is_str_str, is_str_list, is_str_tuple, is_tup_int, is_tup_bool, is_tup_str, is_tup_list, is_tup_tuple, is_l_int, is_l_bool, is_l_str, is_l_list, is_l_tuple, unpG_tup, unpG_ref, opEq_s, opNe_s, len2_str, leX_ss, seqIX_mk, srcX_str, ↓toBT, ↓toWT, bt_ok, bt_bt, wt_bt, wt_okM, wt_ok, wt_exc, wt_ite, wt_lift, wt_make, wt_try] <;> try simp -implicitDefEqProofs only [bt_eq, wt_eq])
  have hlr : (rngL 0 n).length = n := rngL_len 0 n
  obtain ⟨I, hI⟩ := opaque_inv fun i env m' => ∃ fs row' f' kvs' y4 y5, LJ m' (m.length :: X) Lr Lk row' f' c kvs' ∧ RS pl row' f' ∧ E = (fs ++ (outS (n - i) row' f').1, (outS (n - i) row' f').2) ∧ m'[m.length]? = some (.lst fs) ∧ fs.length ≤ i ∧ i ≤ n ∧ env = [some (.ref Lr), some (.ref Lk), some (.int (n : Int)), some (.ref m.length), y4, y5] ∧ Frm [Lr, Lk] m m' ∧ m.length < m'.length
  have hlL := lt_of h.l
  have hlK := lt_of h.k.d
  refine wp_loop (ds := rngL 0 n) I ((hI _ _ _).2 ⟨[], row, f, kvs, _, _, (h.to (Y := m.length :: X) (fun y hy => by
      rcases List.mem_cons.mp hy with z | z
      · exact .inr (by omega)
      · exact .inl z) (fun x hx => List.mem_cons_of_mem _ hx)).ext (Ext.app _ _), R, by rw [Nat.sub_zero, hE]; rfl, get_new, by simp, by omega, rfl, Frm.app _ _ _, by simp⟩) (fun i env m' p => rfl) ?_ ?_
  · intro i d env m' hi p
    obtain ⟨hlt, rfl⟩ := rngL_of hi
    obtain ⟨fs, row', f', kvs', y4, y5, hj, R', hEq, hF, hfl, hin, rfl, fr, ml⟩ := (hI _ _ _).1 p
    obtain ⟨q, hq⟩ : ∃ q, n - i = q + 1 := ⟨n - i - 1, by omega⟩
    have hq2 : n - (i + 1) = q := by omega
    have hne := opNe_nil (m := m') hj.l (keys_ok row' R'.rb)
    rw [List.length_map] at hne
    subst hB
    cases row' with
    | nil =>
      simp only [List.length_nil, decide_true, Bool.not_true] at hne
      have hE2 : E = (fs ++ (outS (n - (i + 1)) [] f').1, (outS (n - (i + 1)) [] f').2) := by rw [hEq, outS_nil, outS_nil]
      (simp -implicitDefEqProofs (maxSteps := 2000000) (disch := (first | omega | decide +kernel | (simp only [isSome_set, isSome_app, isSome_new, Option.isSome_some, *]; done) | (simp only [isSome_lt, List.length_set, List.length_append, List.length_cons, List.length_nil, decide_eq_true_eq]; omega))) only [seqS_mk, asgS_mk, ifS_mk, retS_mk, retNS_mk, skipS_mk, dropS_mk, brkS_mk, cntS_mk, forS_mk, seqI_mk, matE_mk, callF_mk, callB_mk, consA_mk, nilA_mk, consT_mk, nilT_mk, tvs_mk, binE_mk, varE_0, varE_s, kE_mk, set_0, set_s, nmG_mk, lstE_mk, tupE_mk, bT_mk, tstT_mk, notT_mk, andT_mk, orT_mk, yesT_mk, andE_mk, orE_mk, notE_mk, ifE_mk, negE_mk, sliceE_mk, noP_mk, intP_mk, bmE_mk, bmE0_mk, isiB_mk, lcE_mk, lcT_mk, wipeE_nil, wipeE_cons, liftF_ok, matD_d, matD_l, boolT_mk, truthM_bl, truthM_int, truthM_non, opAdd_i, opSub_i, opLt_i, opLe_i, opGt_i, opGe_i, opEq_i, opNe_i, opMod_p, opDiv_p, seqSrc_l, seqSrc_clst, seqSrc_tup, ofL_n, ofR_n, opCut_l, opCut_tup, opCut_clst, callB_len_clst, callB_len_l, callB_len_tup, isi_int_int, isi_int_bool, isi_bool_bool, isi_bool_int, if_true, List.map_cons, List.map_nil, Int.toNat_natCast, List.length_cons, List.length_nil, List.replicate_succ, List.replicate_zero, List.cons_append, List.nil_append, Nat.sub_self, Nat.reduceSub, Nat.reduceAdd, ite_at, Bool.not_true, Bool.not_false, decide_true, decide_false, Bool.false_eq_true, if_false, reduceIte, fldE_mk, ev_fld, sfldS_mk, ev_setF, ev_putD_nil, ev_putD, methE_mk, ev_meth, augFS_mk, ev_aug, ev_len, ev_len2, len2_clst, len2_l, len2_tup, ev_list, ev_list2, list_tup, list_clst, list_l, list2_tup, list2_l, list2_clst, ev_tuple, tuple_tup, bTuple_l, ev_cut, ev_idx, ev_idxT, ev_idxL, ev_idxC, subS_mk, ev_subs, subs_l, subs_tup, subs_clst, subs_str, key_int, key_str, ev_getK_nil, ev_getK, ev_put, ev_src, ev_append, ev_extend, listOfM_l, ev_listOfM, listOf_l, listOf_clst, ev_listOf, ev_clear, chk_list, chk_str, chk_dic, dgetE_mk, dgetM_ev, dget2E_mk, dget2M_ev, ev_dget, ev_dgetY, ev_dget2Y, dpopE_mk, get_set_ne', get_set_is, get_app_is, get_new, ite_lt, ite_le, at_0, at_1, at_2, at_3, at_4, at_end, tupG_mk, tupG_mk', consG_mk, nilG_mk, sne, sbne, beq_self_eq_true, List.lookup_cons, List.lookup_nil, List.mem_cons, List.not_mem_nil, or_false, false_or, true_or, or_true, and_true, true_and, and_false, false_and, eq_self, Option.isSome_some, Option.isSome_none, Option.map_some, Option.map_none, opIs_nn, opIs_ni, opIsNot_nn, opIsNot_ni, opIsB_b, opIsNotB_b, opMul_l, opMul_r, opEq_b, opNe_b, bMax2_i, bMin2_i, List.map_cons, Sum.inl.injEq, Sum.inr.injEq, isi_l_list, isi_tup_tup, List.length_set, decide_eq_true_eq, negE_mk, Nat.reduceLT, Nat.reduceLeDiff, Nat.reduceEqDiff, Nat.reduceMul, Int.reduceLT, Int.reduceLE, Int.reduceEq, Int.reduceAdd, Int.reduceSub, Int.reduceMul, Int.reduceNeg, Int.reduceToNat, Int.reducePow, Nat.reducePow, Int.reduceMod, Int.reduceDiv, reduceCtorEq, ite_true, List.nil_append, Nat.reduceBEq, isXE_mk, ev_isX, xfE_mk, ev_xf, raiseS_mk, raiseFS_mk, excM_mk, goneF_nxt, goneF_ret, opMulX_i, ev_addRL, ev_addLR, ev_addRR, ite_le2, opAdd_s, opAdd_t, chainE_mk, chainR_b, ev_isl, andE_mk, orE_mk, notE_mk, is_non_int, is_non_bool, is_non_str, is_non_list, is_non_tuple, is_bl_int, is_bl_bool, is_bl_str, is_bl_list, is_bl_tuple, is_int_int, is_int_bool, is_int_str, is_int_list, is_int_tuple, is_str_int, is_str_bool, is_str_str, is_str_list, is_str_tuple, is_tup_int, is_tup_bool, is_tup_str, is_tup_list, is_tup_tuple, is_l_int, is_l_bool, is_l_str, is_l_list, is_l_tuple, unpG_tup, unpG_ref, opEq_s, opNe_s, len2_str, leX_ss, seqIX_mk, srcX_str, ↓toBT, ↓toWT, bt_ok, bt_bt, wt_bt, wt_okM, wt_ok, wt_exc, wt_ite, wt_lift, wt_make, wt_try, hne] <;> try simp -implicitDefEqProofs only [bt_eq, wt_eq])
      exact (hI _ _ _).2 ⟨fs, [], f', kvs', _, _, hj, R', hE2, hF, by omega, by omega, rfl, fr, ml⟩
    | cons k rest =>
      have hdn : decide ((k :: rest).length = 0) = false := by simp
      rw [hdn] at hne
      simp only [Bool.not_false] at hne
      have hk15 := R'.rb k (by simp)
      have hfk : f' k ≠ [] := (R'.fe k hk15).1 (by simp)
      obtain ⟨p, t, hnt⟩ : ∃ p t, f' k = p :: t := by
        cases e : f' k with
        | nil => exact absurd e hfk
        | cons p t => exact ⟨p, t, rfl⟩
      have hXm : ∀ x ∈ m.length :: X, x < m'.length := fun x hx => by
        rcases List.mem_cons.mp hx with z | z
        · omega
        · have := hX x z; omega
      have st := L0 (x2 := some (.int (n : Int))) (x4 := some (.int (0 + (i : Int)))) (x5 := y5) hj R' hXm (by omega) hnt hF (by simp) (by omega) (by omega)
      have hE2 : E = ((fs ++ [p]) ++ (outS (n - (i + 1)) (nextR rest t k) (fset f' k t)).1, (outS (n - (i + 1)) (nextR rest t k) (fset f' k t)).2) := by
        rw [hEq, hq, outS_cons hnt, hq2, List.append_assoc]; rfl
      rw [Int.zero_add] at st ⊢
      (simp -implicitDefEqProofs (maxSteps := 2000000) (disch := (first | omega | decide +kernel | (simp only [isSome_set, isSome_app, isSome_new, Option.isSome_some, *]; done) | (simp only [isSome_lt, List.length_set, List.length_append, List.length_cons, List.length_nil, decide_eq_true_eq]; omega))) only [seqS_mk, asgS_mk, ifS_mk, retS_mk, retNS_mk, skipS_mk, dropS_mk, brkS_mk, cntS_mk, forS_mk, seqI_mk, matE_mk, callF_mk, callB_mk, consA_mk, nilA_mk, consT_mk, nilT_mk, tvs_mk, binE_mk, varE_0, varE_s, kE_mk, set_0, set_s, nmG_mk, lstE_mk, tupE_mk, bT_mk, tstT_mk, notT_mk, andT_mk, orT_mk, yesT_mk, andE_mk, orE_mk, notE_mk, ifE_mk, negE_mk, sliceE_mk, noP_mk, intP_mk, bmE_mk, bmE0_mk, isiB_mk, lcE_mk, lcT_mk, wipeE_nil, wipeE_cons, liftF_ok, matD_d, matD_l, boolT_mk, truthM_bl, truthM_int, truthM_non, opAdd_i, opSub_i, opLt_i, opLe_i, opGt_i, opGe_i, opEq_i, opNe_i, opMod_p, opDiv_p, seqSrc_l, seqSrc_clst, seqSrc_tup, ofL_n, ofR_n, opCut_l, opCut_tup, opCut_clst, callB_len_clst, callB_len_l, callB_len_tup, isi_int_int, isi_int_bool, isi_bool_bool, isi_bool_int, if_true, List.map_cons, List.map_nil, Int.toNat_natCast, List.length_cons, List.length_nil, List.replicate_succ, List.replicate_zero, List.cons_append, List.nil_append, Nat.sub_self, Nat.reduceSub, Nat.reduceAdd, ite_at, Bool.not_true, Bool.not_false, decide_true, decide_false, Bool.false_eq_true, if_false, reduceIte, fldE_mk, ev_fld, sfldS_mk, ev_setF, ev_putD_nil, ev_putD, methE_mk, ev_meth, augFS_mk, ev_aug, ev_len, ev_len2, len2_clst, len2_l, len2_tup, ev_list, ev_list2, list_tup, list_clst, list_l, list2_tup, list2_l, list2_clst, ev_tuple, tuple_tup, bTuple_l, ev_cut, ev_idx, ev_idxT, ev_idxL, ev_idxC, subS_mk, ev_subs, subs_l, subs_tup, subs_clst, subs_str, key_int, key_str, ev_getK_nil, ev_getK, ev_put, ev_src, ev_append, ev_extend, listOfM_l, ev_listOfM, listOf_l, listOf_clst, ev_listOf, ev_clear, chk_list, chk_str, chk_dic, dgetE_mk, dgetM_ev, dget2E_mk, dget2M_ev, ev_dget, ev_dgetY, ev_dget2Y, dpopE_mk, get_set_ne', get_set_is, get_app_is, get_new, ite_lt, ite_le, at_0, at_1, at_2, at_3, at_4, at_end, tupG_mk, tupG_mk', consG_mk, nilG_mk, sne, sbne, beq_self_eq_true, List.lookup_cons, List.lookup_nil, List.mem_cons, List.not_mem_nil, or_false, false_or, true_or, or_true, and_true, true_and, and_false, false_and, eq_self, Option.isSome_some, Option.isSome_none, Option.map_some, Option.map_none, opIs_nn, opIs_ni, opIsNot_nn, opIsNot_ni, opIsB_b, opIsNotB_b, opMul_l, opMul_r, opEq_b, opNe_b, bMax2_i, bMin2_i, List.map_cons, Sum.inl.injEq, Sum.inr.injEq, isi_l_list, isi_tup_tup, List.length_set, decide_eq_true_eq, negE_mk, Nat.reduceLT, Nat.reduceLeDiff, Nat.reduceEqDiff, Nat.reduceMul, Int.reduceLT, Int.reduceLE, Int.reduceEq, Int.reduceAdd, Int.reduceSub, Int.reduceMul, Int.reduceNeg, Int.reduceToNat, Int.reducePow, Nat.reducePow, Int.reduceMod, Int.reduceDiv, reduceCtorEq, ite_true, List.nil_append, Nat.reduceBEq, isXE_mk, ev_isX, xfE_mk, ev_xf, raiseS_mk, raiseFS_mk, excM_mk, goneF_nxt, goneF_ret, opMulX_i, ev_addRL, ev_addLR, ev_addRR, ite_le2, opAdd_s, opAdd_t, chainE_mk, chainR_b, ev_isl, andE_mk, orE_mk, notE_mk, is_non_int, is_non_bool, is_non_str, is_non_list, is_non_tuple, is_bl_int, is_bl_bool, is_bl_str, is_bl_list, is_bl_tuple, is_int_int, is_int_bool, is_int_str, is_int_list, is_int_tuple, is_str_int, is_str_bool, is_str_str, is_str_list, is_str_tuple, is_tup_int, is_tup_bool, is_tup_str, is_tup_list, is_tup_tuple, is_l_int, is_l_bool, is_l_str, is_l_list, is_l_tuple, unpG_tup, unpG_ref, opEq_s, opNe_s, len2_str, leX_ss, seqIX_mk, srcX_str, ↓toBT, ↓toWT, bt_ok, bt_bt, wt_bt, wt_okM, wt_ok, wt_exc, wt_ite, wt_lift, wt_make, wt_try, hne] <;> try simp -implicitDefEqProofs only [bt_eq, wt_eq])
      refine wp_then st ?_
      rintro fl m2 ⟨rfl, ⟨kvs2, hj2⟩, hF2, fr2⟩
      have fr3 : Frm [Lr, Lk] m m2 := ⟨Nat.le_trans fr.1 fr2.1, fun a o ha e => fr2.2 a o (by
        simp only [List.mem_cons, List.not_mem_nil, or_false, not_or] at ha ⊢
        exact ⟨ha.1, ha.2, by have := lt_of e; omega⟩) (fr.2 a o ha e)⟩
      refine (hI _ _ _).2 ⟨fs ++ [p], _, _, kvs2, _, _, hj2, R'.out hnt, hE2, hF2, by simp; omega, by omega, rfl, fr3, by have := fr2.1; omega⟩
  · intro env m' p
    obtain ⟨fs, row', f', kvs', y4, y5, hj, R', hEq, hF, hfl, hin, rfl, fr, ml⟩ := (hI _ _ _).1 p
    rw [hlr, Nat.sub_self] at hEq
    have hE2 : E = (fs, row', f') := by rw [hEq]; simp [outS]
    (simp -implicitDefEqProofs (maxSteps := 2000000) (disch := (first | omega | decide +kernel | (simp only [isSome_set, isSome_app, isSome_new, Option.isSome_some, *]; done) | (simp only [isSome_lt, List.length_set, List.length_append, List.length_cons, List.length_nil, decide_eq_true_eq]; omega))) only [seqS_mk, asgS_mk, ifS_mk, retS_mk, retNS_mk, skipS_mk, dropS_mk, brkS_mk, cntS_mk, forS_mk, seqI_mk, matE_mk, callF_mk, callB_mk, consA_mk, nilA_mk, consT_mk, nilT_mk, tvs_mk, binE_mk, varE_0, varE_s, kE_mk, set_0, set_s, nmG_mk, lstE_mk, tupE_mk, bT_mk, tstT_mk, notT_mk, andT_mk, orT_mk, yesT_mk, andE_mk, orE_mk, notE_mk, ifE_mk, negE_mk, sliceE_mk, noP_mk, intP_mk, bmE_mk, bmE0_mk, isiB_mk, lcE_mk, lcT_mk, wipeE_nil, wipeE_cons, liftF_ok, matD_d, matD_l, boolT_mk, truthM_bl, truthM_int, truthM_non, opAdd_i, opSub_i, opLt_i, opLe_i, opGt_i, opGe_i, opEq_i, opNe_i, opMod_p, opDiv_p, seqSrc_l, seqSrc_clst, seqSrc_tup, ofL_n, ofR_n, opCut_l, opCut_tup, opCut_clst, callB_len_clst, callB_len_l, callB_len_tup, isi_int_int, isi_int_bool, isi_bool_bool, isi_bool_int, if_true, List.map_cons, List.map_nil, Int.toNat_natCast, List.length_cons, List.length_nil, List.replicate_succ, List.replicate_zero, List.cons_append, List.nil_append, Nat.sub_self, Nat.reduceSub, Nat.reduceAdd, ite_at, Bool.not_true, Bool.not_false, decide_true, decide_false, Bool.false_eq_true, if_false, reduceIte, fldE_mk, ev_fld, sfldS_mk, ev_setF, ev_putD_nil, ev_putD, methE_mk, ev_meth, augFS_mk, ev_aug, ev_len, ev_len2, len2_clst, len2_l, len2_tup, ev_list, ev_list2, list_tup, list_clst, list_l, list2_tup, list2_l, list2_clst, ev_tuple, tuple_tup, bTuple_l, ev_cut, ev_idx, ev_idxT, ev_idxL, ev_idxC, subS_mk, ev_subs, subs_l, subs_tup, subs_clst, subs_str, key_int, key_str, ev_getK_nil, ev_getK, ev_put, ev_src, ev_append, ev_extend, listOfM_l, ev_listOfM, listOf_l, listOf_clst, ev_listOf, ev_clear, chk_list, chk_str, chk_dic, dgetE_mk, dgetM_ev, dget2E_mk, dget2M_ev, ev_dget, ev_dgetY, ev_dget2Y, dpopE_mk, get_set_ne', get_set_is, get_app_is, get_new, ite_lt, ite_le, at_0, at_1, at_2, at_3, at_4, at_end, tupG_mk, tupG_mk', consG_mk, nilG_mk, sne, sbne, beq_self_eq_true, List.lookup_cons, List.lookup_nil, List.mem_cons, List.not_mem_nil, or_false, false_or, true_or, or_true, and_true, true_and, and_false, false_and, eq_self, Option.isSome_some, Option.isSome_none, Option.map_some, Option.map_none, opIs_nn, opIs_ni, opIsNot_nn, opIsNot_ni, opIsB_b, opIsNotB_b, opMul_l, opMul_r, opEq_b, opNe_b, bMax2_i, bMin2_i, List.map_cons, Sum.inl.injEq, Sum.inr.injEq, isi_l_list, isi_tup_tup, List.length_set, decide_eq_true_eq, negE_mk, Nat.reduceLT, Nat.reduceLeDiff, Nat.reduceEqDiff, Nat.reduceMul, Int.reduceLT, Int.reduceLE, Int.reduceEq, Int.reduceAdd, Int.reduceSub, Int.reduceMul, Int.reduceNeg, Int.reduceToNat, Int.reducePow, Nat.reducePow, Int.reduceMod, Int.reduceDiv, reduceCtorEq, ite_true, List.nil_append, Nat.reduceBEq, isXE_mk, ev_isX, xfE_mk, ev_xf, raiseS_mk, raiseFS_mk, excM_mk, goneF_nxt, goneF_ret, opMulX_i, ev_addRL, ev_addLR, ev_addRR, ite_le2, opAdd_s, opAdd_t, chainE_mk, chainR_b, ev_isl, andE_mk, orE_mk, notE_mk, is_non_int, is_non_bool, is_non_str, is_non_list, is_non_tuple, is_bl_int, is_bl_bool, is_bl_str, is_bl_list, is_bl_tuple, is_int_int, is_int_bool, is_int_str, is_int_list, is_int_tuple, is_str_int, is_str_bool, is_str_str, is_str_list, is_str_tuple, is_tup_int, is_tup_bool, is_tup_str, is_tup_list, is_tup_tuple, is_l_int, is_l_bool, is_l_str, is_l_list, is_l_tuple, unpG_tup, unpG_ref, opEq_s, opNe_s, len2_str, leX_ss, seqIX_mk, srcX_str, ↓toBT, ↓toWT, bt_ok, bt_bt, wt_bt, wt_okM, wt_ok, wt_exc, wt_ite, wt_lift, wt_make, wt_try] <;> try simp -implicitDefEqProofs only [bt_eq, wt_eq])
    rw [hE2]
    exact ⟨⟨kvs', hj⟩, hF, fr, ml⟩
end
end Law

set_option maxHeartbeats 1000000
namespace Law
open PySem L2 Mir
theorem at_key {d : Int} : L2.atI kL (d % 15) = some (kD (d % 15).toNat) := by
  have h : 0 ≤ d % 15 ∧ d % 15 < kL.length := by
    have : kL.length = 15 := rfl
    omega
  obtain ⟨x, h1, h2⟩ := atI_nat' h
  rw [h1]
  unfold kD
  rw [h2]; rfl
theorem key_ok (d : Int) (m : Mem) : wpR (F_law_key [.int d] m) (fun r m' => r = kD (d % 15).toNat ∧ Ext m m') noEx := by
  refine wp_fn ?_
  unfold m_law_key
  have hat := at_key (d := d)
  generalize kD (d % 15).toNat = K at *
  unfold kL at hat
  (simp -implicitDefEqProofs (maxSteps := 2000000) (disch := (first | omega | decide +kernel | (simp only [isSome_set, isSome_app, isSome_new, Option.isSome_some, *]; done) | (simp only [isSome_lt, List.length_set, List.length_append, List.length_cons, List.length_nil, decide_eq_true_eq]; omega))) only [seqS_mk, asgS_mk, ifS_mk, retS_mk, retNS_mk, skipS_mk, dropS_mk, brkS_mk, cntS_mk, forS_mk, seqI_mk, matE_mk, callF_mk, callB_mk, consA_mk, nilA_mk, consT_mk, nilT_mk, tvs_mk, binE_mk, varE_0, varE_s, kE_mk, set_0, set_s, nmG_mk, lstE_mk, tupE_mk, bT_mk, tstT_mk, notT_mk, andT_mk, orT_mk, yesT_mk, andE_mk, orE_mk, notE_mk, ifE_mk, negE_mk, sliceE_mk, noP_mk, intP_mk, bmE_mk, bmE0_mk, isiB_mk, lcE_mk, lcT_mk, wipeE_nil, wipeE_cons, liftF_ok, matD_d, matD_l, boolT_mk, truthM_bl, truthM_int, truthM_non, opAdd_i, opSub_i, opLt_i, opLe_i, opGt_i, opGe_i, opEq_i, opNe_i, opMod_p, opDiv_p, seqSrc_l, seqSrc_clst, seqSrc_tup, ofL_n, ofR_n, opCut_l, opCut_tup, opCut_clst, callB_len_clst, callB_len_l, callB_len_tup, isi_int_int, isi_int_bool, isi_bool_bool, isi_bool_int, if_true, List.map_cons, List.map_nil, Int.toNat_natCast, List.length_cons, List.length_nil, List.replicate_succ, List.replicate_zero, List.cons_append, List.nil_append, Nat.sub_self, Nat.reduceSub, Nat.reduceAdd, ite_at, Bool.not_true, Bool.not_false, decide_true, decide_false, Bool.false_eq_true, if_false, reduceIte, fldE_mk, ev_fld, sfldS_mk, ev_setF, ev_putD_nil, ev_putD, methE_mk, ev_meth, augFS_mk, ev_aug, ev_len, ev_len2, len2_clst, len2_l, len2_tup, ev_list, ev_list2, list_tup, list_clst, list_l, list2_tup, list2_l, list2_clst, ev_tuple, tuple_tup, bTuple_l, ev_cut, ev_idx, ev_idxT, ev_idxL, ev_idxC, subS_mk, ev_subs, subs_l, subs_tup, subs_clst, subs_str, key_int, key_str, ev_getK_nil, ev_getK, ev_put, ev_src, ev_append, ev_extend, listOfM_l, ev_listOfM, listOf_l, listOf_clst, ev_listOf, ev_clear, chk_list, chk_str, chk_dic, dgetE_mk, dgetM_ev, dget2E_mk, dget2M_ev, ev_dget, ev_dgetY, ev_dget2Y, dpopE_mk, get_set_ne', get_set_is, get_app_is, get_new, ite_lt, ite_le, at_0, at_1, at_2, at_3, at_4, at_end, tupG_mk, tupG_mk', consG_mk, nilG_mk, sne, sbne, beq_self_eq_true, List.lookup_cons, List.lookup_nil, List.mem_cons, List.not_mem_nil, or_false, false_or, true_or, or_true, and_true, true_and, and_false, false_and, eq_self, Option.isSome_some, Option.isSome_none, Option.map_some, Option.map_none, opIs_nn, opIs_ni, opIsNot_nn, opIsNot_ni, opIsB_b, opIsNotB_b, opMul_l, opMul_r, opEq_b, opNe_b, bMax2_i, bMin2_i, List.map_cons, Sum.inl.injEq, Sum.inr.injEq, isi_l_list, isi_tup_tup, List.length_set, decide_eq_true_eq, negE_mk, Nat.reduceLT, Nat.reduceLeDiff, Nat.reduceEqDiff, Nat.reduceMul, Int.reduceLT, Int.reduceLE, Int.reduceEq, Int.reduceAdd, Int.reduceSub, Int.reduceMul, Int.reduceNeg, Int.reduceToNat, Int.reducePow, Nat.reducePow, Int.reduceMod, Int.reduceDiv, reduceCtorEq, ite_true, List.nil_append, Nat.reduceBEq, isXE_mk, ev_isX, xfE_mk, ev_xf, raiseS_mk, raiseFS_mk, excM_mk, goneF_nxt, goneF_ret, opMulX_i, ev_addRL, ev_addLR, ev_addRR, ite_le2, opAdd_s, opAdd_t, chainE_mk, chainR_b, ev_isl, andE_mk, orE_mk, notE_mk, is_non_int, is_non_bool, is_non_str, is_non_list, is_non_tuple, is_bl_int, is_bl_bool, is_bl_str, is_bl_list, is_bl_tuple, is_int_int, is_int_bool, is_int_str, is_int_list, is_int_tuple, is_str_int, is_str_bool, is_str_str, is_str_list, is_str_tuple, is_tup_int, is_tup_bool, is_tup_str, is_tup_list, is_tup_tuple, is_l_int, is_l_bool, is_l_str, is_l_list, is_l_tuple, unpG_tup, unpG_ref, opEq_s, opNe_s, len2_str, leX_ss, seqIX_mk, srcX_str, ↓toBT, ↓toWT, bt_ok, bt_bt, wt_bt, wt_okM, wt_ok, wt_exc, wt_ite, wt_lift, wt_make, wt_try, hat] <;> try simp -implicitDefEqProofs only [bt_eq, wt_eq])
  first
  | exact Ext.app _ _
  | exact (Ext.app _ _).trans (Ext.app _ _)
theorem letter_ok {i : Int} (h : 0 ≤ i ∧ i < 8) : ∃ s : Str, PyData.strOk s = true ∧ ∀ m, opIdx (.d (.str "abcdefgh")) (.d (.int i)) m = .ok (.d (.str s)) m := by
  have : i = 0 ∨ i = 1 ∨ i = 2 ∨ i = 3 ∨ i = 4 ∨ i = 5 ∨ i = 6 ∨ i = 7 := by omega
  rcases this with e | e | e | e | e | e | e | e <;> subst e
  · exact ⟨⟨#[97]⟩, by decide +kernel, fun _ => rfl⟩
  · exact ⟨⟨#[98]⟩, by decide +kernel, fun _ => rfl⟩
  · exact ⟨⟨#[99]⟩, by decide +kernel, fun _ => rfl⟩
  · exact ⟨⟨#[100]⟩, by decide +kernel, fun _ => rfl⟩
  · exact ⟨⟨#[101]⟩, by decide +kernel, fun _ => rfl⟩
  · exact ⟨⟨#[102]⟩, by decide +kernel, fun _ => rfl⟩
  · exact ⟨⟨#[103]⟩, by decide +kernel, fun _ => rfl⟩
  · exact ⟨⟨#[104]⟩, by decide +kernel, fun _ => rfl⟩
theorem parcel_ok (n c : Int) (m : Mem) : wpR (F_law_parcel [.int n, .int c] m) (fun r m' => (∃ ys, r = .tup ys ∧ ∀ y ∈ ys, okD 6 y) ∧ m' = m) noEx := by
  refine wp_fn ?_
  unfold m_law_parcel
  obtain ⟨s, hs, hi⟩ := letter_ok (i := n % 8) (by omega)
  have o1 : PyData.strOk "piece" = true := by decide +kernel
  have o2 : PyData.strOk "signs" = true := by decide +kernel
  (simp -implicitDefEqProofs (maxSteps := 2000000) (disch := (first | omega | decide +kernel | (simp only [isSome_set, isSome_app, isSome_new, Option.isSome_some, *]; done) | (simp only [isSome_lt, List.length_set, List.length_append, List.length_cons, List.length_nil, decide_eq_true_eq]; omega))) only [seqS_mk, asgS_mk, ifS_mk, retS_mk, retNS_mk, skipS_mk, dropS_mk, brkS_mk, cntS_mk, forS_mk, seqI_mk, matE_mk, callF_mk, callB_mk, consA_mk, nilA_mk, consT_mk, nilT_mk, tvs_mk, binE_mk, varE_0, varE_s, kE_mk, set_0, set_s, nmG_mk, lstE_mk, tupE_mk, bT_mk, tstT_mk, notT_mk, andT_mk, orT_mk, yesT_mk, andE_mk, orE_mk, notE_mk, ifE_mk, negE_mk, sliceE_mk, noP_mk, intP_mk, bmE_mk, bmE0_mk, isiB_mk, lcE_mk, lcT_mk, wipeE_nil, wipeE_cons, liftF_ok, matD_d, matD_l, boolT_mk, truthM_bl, truthM_int, truthM_non, opAdd_i, opSub_i, opLt_i, opLe_i, opGt_i, opGe_i, opEq_i, opNe_i, opMod_p, opDiv_p, seqSrc_l, seqSrc_clst, seqSrc_tup, ofL_n, ofR_n, opCut_l, opCut_tup, opCut_clst, callB_len_clst, callB_len_l, callB_len_tup, isi_int_int, isi_int_bool, isi_bool_bool, isi_bool_int, if_true, List.map_cons, List.map_nil, Int.toNat_natCast, List.length_cons, List.length_nil, List.replicate_succ, List.replicate_zero, List.cons_append, List.nil_append, Nat.sub_self, Nat.reduceSub, Nat.reduceAdd, ite_at, Bool.not_true, Bool.not_false, decide_true, decide_false, Bool.false_eq_true, if_false, reduceIte, fldE_mk, ev_fld, sfldS_mk, ev_setF, ev_putD_nil, ev_putD, methE_mk, ev_meth, augFS_mk, ev_aug, ev_len, ev_len2, len2_clst, len2_l, len2_tup, ev_list, ev_list2, list_tup, list_clst, list_l, list2_tup, list2_l, list2_clst, ev_tuple, tuple_tup, bTuple_l, ev_cut, ev_idx, ev_idxT, ev_idxL, ev_idxC, subS_mk, ev_subs, subs_l, subs_tup, subs_clst, subs_str, key_int, key_str, ev_getK_nil, ev_getK, ev_put, ev_src, ev_append, ev_extend, listOfM_l, ev_listOfM, listOf_l, listOf_clst, ev_listOf, ev_clear, chk_list, chk_str, chk_dic, dgetE_mk, dgetM_ev, dget2E_mk, dget2M_ev, ev_dget, ev_dgetY, ev_dget2Y, dpopE_mk, get_set_ne', get_set_is, get_app_is, get_new, ite_lt, ite_le, at_0, at_1, at_2, at_3, at_4, at_end, tupG_mk, tupG_mk', consG_mk, nilG_mk, sne, sbne, beq_self_eq_true, List.lookup_cons, List.lookup_nil, List.mem_cons, List.not_mem_nil, or_false, false_or, true_or, or_true, and_true, true_and, and_false, false_and, eq_self, Option.isSome_some, Option.isSome_none, Option.map_some, Option.map_none, opIs_nn, opIs_ni, opIsNot_nn, opIsNot_ni, opIsB_b, opIsNotB_b, opMul_l, opMul_r, opEq_b, opNe_b, bMax2_i, bMin2_i, List.map_cons, Sum.inl.injEq, Sum.inr.injEq, isi_l_list, isi_tup_tup, List.length_set, decide_eq_true_eq, negE_mk, Nat.reduceLT, Nat.reduceLeDiff, Nat.reduceEqDiff, Nat.reduceMul, Int.reduceLT, Int.reduceLE, Int.reduceEq, Int.reduceAdd, Int.reduceSub, Int.reduceMul, Int.reduceNeg, Int.reduceToNat, Int.reducePow, Nat.reducePow, Int.reduceMod, Int.reduceDiv, reduceCtorEq, ite_true, List.nil_append, Nat.reduceBEq, isXE_mk, ev_isX, xfE_mk, ev_xf, raiseS_mk, raiseFS_mk, excM_mk, goneF_nxt, goneF_ret, opMulX_i, ev_addRL, ev_addLR, ev_addRR, ite_le2, opAdd_s, opAdd_t, chainE_mk, chainR_b, ev_isl, andE_mk, orE_mk, notE_mk, is_non_int, is_non_bool, is_non_str, is_non_list, is_non_tuple, is_bl_int, is_bl_bool, is_bl_str, is_bl_list, is_bl_tuple, is_int_int, is_int_bool, is_int_str, is_int_list, is_int_tuple, is_str_int, is_str_bool, is_str_str, is_str_list, is_str_tuple, is_tup_int, is_tup_bool, is_tup_str, is_tup_list, is_tup_tuple, is_l_int, is_l_bool, is_l_str, is_l_list, is_l_tuple, unpG_tup, unpG_ref, opEq_s, opNe_s, len2_str, leX_ss, seqIX_mk, srcX_str, ↓toBT, ↓toWT, bt_ok, bt_bt, wt_bt, wt_okM, wt_ok, wt_exc, wt_ite, wt_lift, wt_make, wt_try, hi] <;> try simp -implicitDefEqProofs only [bt_eq, wt_eq])
  refine ⟨_, rfl, ?_⟩
  intro y hy
  simp only [List.mem_cons, List.not_mem_nil, or_false] at hy
  rcases hy with rfl | rfl | rfl | rfl
  · trivial
  · trivial
  · trivial
  · intro z hz
    simp only [List.mem_cons, List.not_mem_nil, or_false] at hz
    rcases hz with rfl | rfl | rfl
    · exact o1
    · trivial
    · intro u hu
      simp only [List.mem_cons, List.not_mem_nil, or_false] at hu
      rcases hu with rfl | rfl
      · exact o2
      · exact hs
section
variable {m m' : Mem} {X J : List Nat} {G kd lu Lr Lk : Nat} {pl : Int} {row : List Nat} {f : Nat → List D} {c c2 : Nat} {kvs kvs2 : List (NestedKey × D)}
theorem right0 (h : GJ m X G kd lu pl row f c kvs) (j : LJ m X Lr Lk row f c2 kvs2) (hX : ∀ x ∈ X, x < m.length) {i : Int} (hi : 0 ≤ i ∧ i < 15) :
    wpR (m_law_right_0 [some (.ref G), some (.ref Lr), some (.ref Lk), some (.int i)] m) (fun fl m' => fl = .nxt [some (.ref G), some (.ref Lr), some (.ref Lk), some (.int i)] ∧ Ext m m') noEx := by
  have k1 := fun m => key_ok i m
  have w1 := @waits_ok
  unfold m_law_right_0
  generalize F_law_key = FK at *
  generalize F_Gate_waits = FW at *
  have hi15 : (i % 15).toNat < 15 := by omega
  have hg0 := h.g
  unfold gate at hg0
  (simp -implicitDefEqProofs (maxSteps := 2000000) (disch := (first | omega | decide +kernel | (simp only [isSome_set, isSome_app, isSome_new, Option.isSome_some, *]; done) | (simp only [isSome_lt, List.length_set, List.length_append, List.length_cons, List.length_nil, decide_eq_true_eq]; omega))) only [seqS_mk, asgS_mk, ifS_mk, retS_mk, retNS_mk, skipS_mk, dropS_mk, brkS_mk, cntS_mk, forS_mk, seqI_mk, matE_mk, callF_mk, callB_mk, consA_mk, nilA_mk, consT_mk, nilT_mk, tvs_mk, binE_mk, varE_0, varE_s, kE_mk, set_0, set_s, nmG_mk, lstE_mk, tupE_mk, bT_mk, tstT_mk, notT_mk, andT_mk, orT_mk, yesT_mk, andE_mk, orE_mk, notE_mk, ifE_mk, negE_mk, sliceE_mk, noP_mk, intP_mk, bmE_mk, bmE0_mk, isiB_mk, lcE_mk, lcT_mk, wipeE_nil, wipeE_cons, liftF_ok, matD_d, matD_l, boolT_mk, truthM_bl, truthM_int, truthM_non, opAdd_i, opSub_i, opLt_i, opLe_i, opGt_i, opGe_i, opEq_i, opNe_i, opMod_p, opDiv_p, seqSrc_l, seqSrc_clst, seqSrc_tup, ofL_n, ofR_n, opCut_l, opCut_tup, opCut_clst, callB_len_clst, callB_len_l, callB_len_tup, isi_int_int, isi_int_bool, isi_bool_bool, isi_bool_int, if_true, List.map_cons, List.map_nil, Int.toNat_natCast, List.length_cons, List.length_nil, List.replicate_succ, List.replicate_zero, List.cons_append, List.nil_append, Nat.sub_self, Nat.reduceSub, Nat.reduceAdd, ite_at, Bool.not_true, Bool.not_false, decide_true, decide_false, Bool.false_eq_true, if_false, reduceIte, fldE_mk, ev_fld, sfldS_mk, ev_setF, ev_putD_nil, ev_putD, methE_mk, ev_meth, augFS_mk, ev_aug, ev_len, ev_len2, len2_clst, len2_l, len2_tup, ev_list, ev_list2, list_tup, list_clst, list_l, list2_tup, list2_l, list2_clst, ev_tuple, tuple_tup, bTuple_l, ev_cut, ev_idx, ev_idxT, ev_idxL, ev_idxC, subS_mk, ev_subs, subs_l, subs_tup, subs_clst, subs_str, key_int, key_str, ev_getK_nil, ev_getK, ev_put, ev_src, ev_append, ev_extend, listOfM_l, ev_listOfM, listOf_l, listOf_clst, ev_listOf, ev_clear, chk_list, chk_str, chk_dic, dgetE_mk, dgetM_ev, dget2E_mk, dget2M_ev, ev_dget, ev_dgetY, ev_dget2Y, dpopE_mk, get_set_ne', get_set_is, get_app_is, get_new, ite_lt, ite_le, at_0, at_1, at_2, at_3, at_4, at_end, tupG_mk, tupG_mk', consG_mk, nilG_mk, sne, sbne, beq_self_eq_true, List.lookup_cons, List.lookup_nil, List.mem_cons, List.not_mem_nil, or_false, false_or, true_or, or_true, and_true, true_and, and_false, false_and, eq_self, Option.isSome_some, Option.isSome_none, Option.map_some, Option.map_none, opIs_nn, opIs_ni, opIsNot_nn, opIsNot_ni, opIsB_b, opIsNotB_b, opMul_l, opMul_r, opEq_b, opNe_b, bMax2_i, bMin2_i, List.map_cons, Sum.inl.injEq, Sum.inr.injEq, isi_l_list, isi_tup_tup, List.length_set, decide_eq_true_eq, negE_mk, Nat.reduceLT, Nat.reduceLeDiff, Nat.reduceEqDiff, Nat.reduceMul, Int.reduceLT, Int.reduceLE, Int.reduceEq, Int.reduceAdd, Int.reduceSub, Int.reduceMul, Int.reduceNeg, Int.reduceToNat, Int.reducePow, Nat.reducePow, Int.reduceMod, Int.reduceDiv, reduceCtorEq, ite_true, List.nil_append, Nat.reduceBEq, isXE_mk, ev_isX, xfE_mk, ev_xf, raiseS_mk, raiseFS_mk, excM_mk, goneF_nxt, goneF_ret, opMulX_i, ev_addRL, ev_addLR, ev_addRR, ite_le2, opAdd_s, opAdd_t, chainE_mk, chainR_b, ev_isl, andE_mk, orE_mk, notE_mk, is_non_int, is_non_bool, is_non_str, is_non_list, is_non_tuple, is_bl_int, is_bl_bool, is_bl_str, is_bl_list, is_bl_tuple, is_int_int, is_int_bool, is_int_str, is_int_list, is_int_tuple, is_str_int, is_str_bool, is_str_str, is_str_list, is_str_tuple, is_tup_int, is_tup_bool, is_tup_str, is_tup_list, is_tup_tuple, is_l_int, is_l_bool, is_l_str, is_l_list, is_l_tuple, unpG_tup, unpG_ref, opEq_s, opNe_s, len2_str, leX_ss, seqIX_mk, srcX_str, ↓toBT, ↓toWT, bt_ok, bt_bt, wt_bt, wt_okM, wt_ok, wt_exc, wt_ite, wt_lift, wt_make, wt_try, hg0] <;> try simp -implicitDefEqProofs only [bt_eq, wt_eq])
  refine wp_call (k1 m) ?_
  rintro d m1 ⟨rfl, e1⟩
  have h1 := h.ext e1
  have j1 := j.ext e1
  have hX1 : ∀ x ∈ X, x < m1.length := fun x hx => Nat.lt_of_lt_of_le (hX x hx) e1.1
  have hg1 := h1.g
  unfold gate at hg1
  (simp -implicitDefEqProofs (maxSteps := 2000000) (disch := (first | omega | decide +kernel | (simp only [isSome_set, isSome_app, isSome_new, Option.isSome_some, *]; done) | (simp only [isSome_lt, List.length_set, List.length_append, List.length_cons, List.length_nil, decide_eq_true_eq]; omega))) only [seqS_mk, asgS_mk, ifS_mk, retS_mk, retNS_mk, skipS_mk, dropS_mk, brkS_mk, cntS_mk, forS_mk, seqI_mk, matE_mk, callF_mk, callB_mk, consA_mk, nilA_mk, consT_mk, nilT_mk, tvs_mk, binE_mk, varE_0, varE_s, kE_mk, set_0, set_s, nmG_mk, lstE_mk, tupE_mk, bT_mk, tstT_mk, notT_mk, andT_mk, orT_mk, yesT_mk, andE_mk, orE_mk, notE_mk, ifE_mk, negE_mk, sliceE_mk, noP_mk, intP_mk, bmE_mk, bmE0_mk, isiB_mk, lcE_mk, lcT_mk, wipeE_nil, wipeE_cons, liftF_ok, matD_d, matD_l, boolT_mk, truthM_bl, truthM_int, truthM_non, opAdd_i, opSub_i, opLt_i, opLe_i, opGt_i, opGe_i, opEq_i, opNe_i, opMod_p, opDiv_p, seqSrc_l, seqSrc_clst, seqSrc_tup, ofL_n, ofR_n, opCut_l, opCut_tup, opCut_clst, callB_len_clst, callB_len_l, callB_len_tup, isi_int_int, isi_int_bool, isi_bool_bool, isi_bool_int, if_true, List.map_cons, List.map_nil, Int.toNat_natCast, List.length_cons, List.length_nil, List.replicate_succ, List.replicate_zero, List.cons_append, List.nil_append, Nat.sub_self, Nat.reduceSub, Nat.reduceAdd, ite_at, Bool.not_true, Bool.not_false, decide_true, decide_false, Bool.false_eq_true, if_false, reduceIte, fldE_mk, ev_fld, sfldS_mk, ev_setF, ev_putD_nil, ev_putD, methE_mk, ev_meth, augFS_mk, ev_aug, ev_len, ev_len2, len2_clst, len2_l, len2_tup, ev_list, ev_list2, list_tup, list_clst, list_l, list2_tup, list2_l, list2_clst, ev_tuple, tuple_tup, bTuple_l, ev_cut, ev_idx, ev_idxT, ev_idxL, ev_idxC, subS_mk, ev_subs, subs_l, subs_tup, subs_clst, subs_str, key_int, key_str, ev_getK_nil, ev_getK, ev_put, ev_src, ev_append, ev_extend, listOfM_l, ev_listOfM, listOf_l, listOf_clst, ev_listOf, ev_clear, chk_list, chk_str, chk_dic, dgetE_mk, dgetM_ev, dget2E_mk, dget2M_ev, ev_dget, ev_dgetY, ev_dget2Y, dpopE_mk, get_set_ne', get_set_is, get_app_is, get_new, ite_lt, ite_le, at_0, at_1, at_2, at_3, at_4, at_end, tupG_mk, tupG_mk', consG_mk, nilG_mk, sne, sbne, beq_self_eq_true, List.lookup_cons, List.lookup_nil, List.mem_cons, List.not_mem_nil, or_false, false_or, true_or, or_true, and_true, true_and, and_false, false_and, eq_self, Option.isSome_some, Option.isSome_none, Option.map_some, Option.map_none, opIs_nn, opIs_ni, opIsNot_nn, opIsNot_ni, opIsB_b, opIsNotB_b, opMul_l, opMul_r, opEq_b, opNe_b, bMax2_i, bMin2_i, List.map_cons, Sum.inl.injEq, Sum.inr.injEq, isi_l_list, isi_tup_tup, List.length_set, decide_eq_true_eq, negE_mk, Nat.reduceLT, Nat.reduceLeDiff, Nat.reduceEqDiff, Nat.reduceMul, Int.reduceLT, Int.reduceLE, Int.reduceEq, Int.reduceAdd, Int.reduceSub, Int.reduceMul, Int.reduceNeg, Int.reduceToNat, Int.reducePow, Nat.reducePow, Int.reduceMod, Int.reduceDiv, reduceCtorEq, ite_true, List.nil_append, Nat.reduceBEq, isXE_mk, ev_isX, xfE_mk, ev_xf, raiseS_mk, raiseFS_mk, excM_mk, goneF_nxt, goneF_ret, opMulX_i, ev_addRL, ev_addLR, ev_addRR, ite_le2, opAdd_s, opAdd_t, chainE_mk, chainR_b, ev_isl, andE_mk, orE_mk, notE_mk, is_non_int, is_non_bool, is_non_str, is_non_list, is_non_tuple, is_bl_int, is_bl_bool, is_bl_str, is_bl_list, is_bl_tuple, is_int_int, is_int_bool, is_int_str, is_int_list, is_int_tuple, is_str_int, is_str_bool, is_str_str, is_str_list, is_str_tuple, is_tup_int, is_tup_bool, is_tup_str, is_tup_list, is_tup_tuple, is_l_int, is_l_bool, is_l_str, is_l_list, is_l_tuple, unpG_tup, unpG_ref, opEq_s, opNe_s, len2_str, leX_ss, seqIX_mk, srcX_str, ↓toBT, ↓toWT, bt_ok, bt_bt, wt_bt, wt_okM, wt_ok, wt_exc, wt_ite, wt_lift, wt_make, wt_try, hg1] <;> try simp -implicitDefEqProofs only [bt_eq, wt_eq])
  refine wp_call (w1 h1 hX1 hi15) ?_
  rintro d m2 ⟨rfl, rfl⟩
  have e2 : Ext m1 (m1 ++ [O.lst []]) := Ext.app _ _
  have j2 := j1.ext e2
  have hX2 : ∀ x ∈ X, x < (m1 ++ [O.lst []]).length := fun x hx => Nat.lt_of_lt_of_le (hX1 x hx) e2.1
  generalize m1 ++ [O.lst []] = m2 at *
  have hd2 := j2.k.d
  have ev := fun e z env => mgetM_ev hd2 e z env
  (simp -implicitDefEqProofs (maxSteps := 2000000) (disch := (first | omega | decide +kernel | (simp only [isSome_set, isSome_app, isSome_new, Option.isSome_some, *]; done) | (simp only [isSome_lt, List.length_set, List.length_append, List.length_cons, List.length_nil, decide_eq_true_eq]; omega))) only [seqS_mk, asgS_mk, ifS_mk, retS_mk, retNS_mk, skipS_mk, dropS_mk, brkS_mk, cntS_mk, forS_mk, seqI_mk, matE_mk, callF_mk, callB_mk, consA_mk, nilA_mk, consT_mk, nilT_mk, tvs_mk, binE_mk, varE_0, varE_s, kE_mk, set_0, set_s, nmG_mk, lstE_mk, tupE_mk, bT_mk, tstT_mk, notT_mk, andT_mk, orT_mk, yesT_mk, andE_mk, orE_mk, notE_mk, ifE_mk, negE_mk, sliceE_mk, noP_mk, intP_mk, bmE_mk, bmE0_mk, isiB_mk, lcE_mk, lcT_mk, wipeE_nil, wipeE_cons, liftF_ok, matD_d, matD_l, boolT_mk, truthM_bl, truthM_int, truthM_non, opAdd_i, opSub_i, opLt_i, opLe_i, opGt_i, opGe_i, opEq_i, opNe_i, opMod_p, opDiv_p, seqSrc_l, seqSrc_clst, seqSrc_tup, ofL_n, ofR_n, opCut_l, opCut_tup, opCut_clst, callB_len_clst, callB_len_l, callB_len_tup, isi_int_int, isi_int_bool, isi_bool_bool, isi_bool_int, if_true, List.map_cons, List.map_nil, Int.toNat_natCast, List.length_cons, List.length_nil, List.replicate_succ, List.replicate_zero, List.cons_append, List.nil_append, Nat.sub_self, Nat.reduceSub, Nat.reduceAdd, ite_at, Bool.not_true, Bool.not_false, decide_true, decide_false, Bool.false_eq_true, if_false, reduceIte, fldE_mk, ev_fld, sfldS_mk, ev_setF, ev_putD_nil, ev_putD, methE_mk, ev_meth, augFS_mk, ev_aug, ev_len, ev_len2, len2_clst, len2_l, len2_tup, ev_list, ev_list2, list_tup, list_clst, list_l, list2_tup, list2_l, list2_clst, ev_tuple, tuple_tup, bTuple_l, ev_cut, ev_idx, ev_idxT, ev_idxL, ev_idxC, subS_mk, ev_subs, subs_l, subs_tup, subs_clst, subs_str, key_int, key_str, ev_getK_nil, ev_getK, ev_put, ev_src, ev_append, ev_extend, listOfM_l, ev_listOfM, listOf_l, listOf_clst, ev_listOf, ev_clear, chk_list, chk_str, chk_dic, dgetE_mk, dgetM_ev, dget2E_mk, dget2M_ev, ev_dget, ev_dgetY, ev_dget2Y, dpopE_mk, get_set_ne', get_set_is, get_app_is, get_new, ite_lt, ite_le, at_0, at_1, at_2, at_3, at_4, at_end, tupG_mk, tupG_mk', consG_mk, nilG_mk, sne, sbne, beq_self_eq_true, List.lookup_cons, List.lookup_nil, List.mem_cons, List.not_mem_nil, or_false, false_or, true_or, or_true, and_true, true_and, and_false, false_and, eq_self, Option.isSome_some, Option.isSome_none, Option.map_some, Option.map_none, opIs_nn, opIs_ni, opIsNot_nn, opIsNot_ni, opIsB_b, opIsNotB_b, opMul_l, opMul_r, opEq_b, opNe_b, bMax2_i, bMin2_i, List.map_cons, Sum.inl.injEq, Sum.inr.injEq, isi_l_list, isi_tup_tup, List.length_set, decide_eq_true_eq, negE_mk, Nat.reduceLT, Nat.reduceLeDiff, Nat.reduceEqDiff, Nat.reduceMul, Int.reduceLT, Int.reduceLE, Int.reduceEq, Int.reduceAdd, Int.reduceSub, Int.reduceMul, Int.reduceNeg, Int.reduceToNat, Int.reducePow, Nat.reducePow, Int.reduceMod, Int.reduceDiv, reduceCtorEq, ite_true, List.nil_append, Nat.reduceBEq, isXE_mk, ev_isX, xfE_mk, ev_xf, raiseS_mk, raiseFS_mk, excM_mk, goneF_nxt, goneF_ret, opMulX_i, ev_addRL, ev_addLR, ev_addRR, ite_le2, opAdd_s, opAdd_t, chainE_mk, chainR_b, ev_isl, andE_mk, orE_mk, notE_mk, is_non_int, is_non_bool, is_non_str, is_non_list, is_non_tuple, is_bl_int, is_bl_bool, is_bl_str, is_bl_list, is_bl_tuple, is_int_int, is_int_bool, is_int_str, is_int_list, is_int_tuple, is_str_int, is_str_bool, is_str_str, is_str_list, is_str_tuple, is_tup_int, is_tup_bool, is_tup_str, is_tup_list, is_tup_tuple, is_l_int, is_l_bool, is_l_str, is_l_list, is_l_tuple, unpG_tup, unpG_ref, opEq_s, opNe_s, len2_str, leX_ss, seqIX_mk, srcX_str, ↓toBT, ↓toWT, bt_ok, bt_bt, wt_bt, wt_okM, wt_ok, wt_exc, wt_ite, wt_lift, wt_make, wt_try, mget2E_mk, ev] <;> try simp -implicitDefEqProofs only [bt_eq, wt_eq])
  refine wp_call (k1 m2) ?_
  rintro d m3 ⟨rfl, e3⟩
  have j3 := j2.ext e3
  have hX3 : ∀ x ∈ X, x < m3.length := fun x hx => Nat.lt_of_lt_of_le (hX2 x hx) e3.1
  obtain ⟨a, ha, _, _, hz⟩ := j3.k.get hi15 hX3
  have e4 : Ext m3 (m3 ++ [O.lst []]) := Ext.app _ _
  generalize f (i % 15).toNat = Q at *
  generalize kD (i % 15).toNat = K at *
  (simp -implicitDefEqProofs (maxSteps := 2000000) (disch := (first | omega | decide +kernel | (simp only [isSome_set, isSome_app, isSome_new, Option.isSome_some, *]; done) | (simp only [isSome_lt, List.length_set, List.length_append, List.length_cons, List.length_nil, decide_eq_true_eq]; omega))) only [seqS_mk, asgS_mk, ifS_mk, retS_mk, retNS_mk, skipS_mk, dropS_mk, brkS_mk, cntS_mk, forS_mk, seqI_mk, matE_mk, callF_mk, callB_mk, consA_mk, nilA_mk, consT_mk, nilT_mk, tvs_mk, binE_mk, varE_0, varE_s, kE_mk, set_0, set_s, nmG_mk, lstE_mk, tupE_mk, bT_mk, tstT_mk, notT_mk, andT_mk, orT_mk, yesT_mk, andE_mk, orE_mk, notE_mk, ifE_mk, negE_mk, sliceE_mk, noP_mk, intP_mk, bmE_mk, bmE0_mk, isiB_mk, lcE_mk, lcT_mk, wipeE_nil, wipeE_cons, liftF_ok, matD_d, matD_l, boolT_mk, truthM_bl, truthM_int, truthM_non, opAdd_i, opSub_i, opLt_i, opLe_i, opGt_i, opGe_i, opEq_i, opNe_i, opMod_p, opDiv_p, seqSrc_l, seqSrc_clst, seqSrc_tup, ofL_n, ofR_n, opCut_l, opCut_tup, opCut_clst, callB_len_clst, callB_len_l, callB_len_tup, isi_int_int, isi_int_bool, isi_bool_bool, isi_bool_int, if_true, List.map_cons, List.map_nil, Int.toNat_natCast, List.length_cons, List.length_nil, List.replicate_succ, List.replicate_zero, List.cons_append, List.nil_append, Nat.sub_self, Nat.reduceSub, Nat.reduceAdd, ite_at, Bool.not_true, Bool.not_false, decide_true, decide_false, Bool.false_eq_true, if_false, reduceIte, fldE_mk, ev_fld, sfldS_mk, ev_setF, ev_putD_nil, ev_putD, methE_mk, ev_meth, augFS_mk, ev_aug, ev_len, ev_len2, len2_clst, len2_l, len2_tup, ev_list, ev_list2, list_tup, list_clst, list_l, list2_tup, list2_l, list2_clst, ev_tuple, tuple_tup, bTuple_l, ev_cut, ev_idx, ev_idxT, ev_idxL, ev_idxC, subS_mk, ev_subs, subs_l, subs_tup, subs_clst, subs_str, key_int, key_str, ev_getK_nil, ev_getK, ev_put, ev_src, ev_append, ev_extend, listOfM_l, ev_listOfM, listOf_l, listOf_clst, ev_listOf, ev_clear, chk_list, chk_str, chk_dic, dgetE_mk, dgetM_ev, dget2E_mk, dget2M_ev, ev_dget, ev_dgetY, ev_dget2Y, dpopE_mk, get_set_ne', get_set_is, get_app_is, get_new, ite_lt, ite_le, at_0, at_1, at_2, at_3, at_4, at_end, tupG_mk, tupG_mk', consG_mk, nilG_mk, sne, sbne, beq_self_eq_true, List.lookup_cons, List.lookup_nil, List.mem_cons, List.not_mem_nil, or_false, false_or, true_or, or_true, and_true, true_and, and_false, false_and, eq_self, Option.isSome_some, Option.isSome_none, Option.map_some, Option.map_none, opIs_nn, opIs_ni, opIsNot_nn, opIsNot_ni, opIsB_b, opIsNotB_b, opMul_l, opMul_r, opEq_b, opNe_b, bMax2_i, bMin2_i, List.map_cons, Sum.inl.injEq, Sum.inr.injEq, isi_l_list, isi_tup_tup, List.length_set, decide_eq_true_eq, negE_mk, Nat.reduceLT, Nat.reduceLeDiff, Nat.reduceEqDiff, Nat.reduceMul, Int.reduceLT, Int.reduceLE, Int.reduceEq, Int.reduceAdd, Int.reduceSub, Int.reduceMul, Int.reduceNeg, Int.reduceToNat, Int.reducePow, Nat.reducePow, Int.reduceMod, Int.reduceDiv, reduceCtorEq, ite_true, List.nil_append, Nat.reduceBEq, isXE_mk, ev_isX, xfE_mk, ev_xf, raiseS_mk, raiseFS_mk, excM_mk, goneF_nxt, goneF_ret, opMulX_i, ev_addRL, ev_addLR, ev_addRR, ite_le2, opAdd_s, opAdd_t, chainE_mk, chainR_b, ev_isl, andE_mk, orE_mk, notE_mk, is_non_int, is_non_bool, is_non_str, is_non_list, is_non_tuple, is_bl_int, is_bl_bool, is_bl_str, is_bl_list, is_bl_tuple, is_int_int, is_int_bool, is_int_str, is_int_list, is_int_tuple, is_str_int, is_str_bool, is_str_str, is_str_list, is_str_tuple, is_tup_int, is_tup_bool, is_tup_str, is_tup_list, is_tup_tuple, is_l_int, is_l_bool, is_l_str, is_l_list, is_l_tuple, unpG_tup, unpG_ref, opEq_s, opNe_s, len2_str, leX_ss, seqIX_mk, srcX_str, ↓toBT, ↓toWT, bt_ok, bt_bt, wt_bt, wt_okM, wt_ok, wt_exc, wt_ite, wt_lift, wt_make, wt_try, hz, ha] <;> try simp -implicitDefEqProofs only [bt_eq, wt_eq])
  exact ((e1.trans e2).trans e3).trans e4
theorem right_ok (h : GJ m X G kd lu pl row f c kvs) (j : LJ m X Lr Lk row f c2 kvs2) (R : RS pl row f) (hX : ∀ x ∈ X, x < m.length) :
    wpR (F_law_right [.ref G, .ref Lr, .ref Lk] m) (fun d m' => d = .bl true ∧ Ext m m') noEx := by
  have r0 := @right0
  have w0 := @waiting_ok
  refine wp_fn ?_
  unfold m_law_right
  generalize F_Gate_waiting = FW at *
  generalize m_law_right_0 = B at *
  have ok7 := keys_ok row R.rb
  have hgG := h.g
  have hrl := R.len
  have f1 := w0 h
  obtain ⟨m1, hm1⟩ : ∃ m1, m1 = m ++ [O.lst (row.map kD)] := ⟨_, rfl⟩
  rw [← hm1] at f1
  have e1 : Ext m m1 := by rw [hm1]; exact Ext.app _ _
  have l1 : m1[m.length]? = some (.lst (row.map kD)) := by rw [hm1]; exact get_new
  have h1 := h.ext e1
  have j1 := j.ext e1
  have f2 := w0 h1
  obtain ⟨m2, hm2⟩ : ∃ m2, m2 = m1 ++ [O.lst (row.map kD)] := ⟨_, rfl⟩
  rw [← hm2] at f2
  have e2 : Ext m1 m2 := by rw [hm2]; exact Ext.app _ _
  have l2 : m2[m1.length]? = some (.lst (row.map kD)) := by rw [hm2]; exact get_new
  have n1 : opNe (.d (.ref m.length)) (.d (.ref Lr)) m1 = .ok (.d (.bl false)) m1 := by
    rw [opNe_lst (m := m1) (listOf_ref l1) (listOf_ref j1.l) ok7 ok7]; simp
  have hg0 := h.g
  have hg1 := h1.g
  unfold gate at hg0 hg1
  have h2 := h1.ext e2
  have j2 := j1.ext e2
  have e02 := e1.trans e2
  have hX2 : ∀ x ∈ X, x < m2.length := fun x hx => Nat.lt_of_lt_of_le (hX x hx) e02.1
  generalize hRW : row.map kD = RW at *
  (simp -implicitDefEqProofs (maxSteps := 2000000) (disch := (first | omega | decide +kernel | (simp only [isSome_set, isSome_app, isSome_new, Option.isSome_some, *]; done) | (simp only [isSome_lt, List.length_set, List.length_append, List.length_cons, List.length_nil, decide_eq_true_eq]; omega))) only [seqS_mk, asgS_mk, ifS_mk, retS_mk, retNS_mk, skipS_mk, dropS_mk, brkS_mk, cntS_mk, forS_mk, seqI_mk, matE_mk, callF_mk, callB_mk, consA_mk, nilA_mk, consT_mk, nilT_mk, tvs_mk, binE_mk, varE_0, varE_s, kE_mk, set_0, set_s, nmG_mk, lstE_mk, tupE_mk, bT_mk, tstT_mk, notT_mk, andT_mk, orT_mk, yesT_mk, andE_mk, orE_mk, notE_mk, ifE_mk, negE_mk, sliceE_mk, noP_mk, intP_mk, bmE_mk, bmE0_mk, isiB_mk, lcE_mk, lcT_mk, wipeE_nil, wipeE_cons, liftF_ok, matD_d, matD_l, boolT_mk, truthM_bl, truthM_int, truthM_non, opAdd_i, opSub_i, opLt_i, opLe_i, opGt_i, opGe_i, opEq_i, opNe_i, opMod_p, opDiv_p, seqSrc_l, seqSrc_clst, seqSrc_tup, ofL_n, ofR_n, opCut_l, opCut_tup, opCut_clst, callB_len_clst, callB_len_l, callB_len_tup, isi_int_int, isi_int_bool, isi_bool_bool, isi_bool_int, if_true, List.map_cons, List.map_nil, Int.toNat_natCast, List.length_cons, List.length_nil, List.replicate_succ, List.replicate_zero, List.cons_append, List.nil_append, Nat.sub_self, Nat.reduceSub, Nat.reduceAdd, ite_at, Bool.not_true, Bool.not_false, decide_true, decide_false, Bool.false_eq_true, if_false, reduceIte, fldE_mk, ev_fld, sfldS_mk, ev_setF, ev_putD_nil, ev_putD, methE_mk, ev_meth, augFS_mk, ev_aug, ev_len, ev_len2, len2_clst, len2_l, len2_tup, ev_list, ev_list2, list_tup, list_clst, list_l, list2_tup, list2_l, list2_clst, ev_tuple, tuple_tup, bTuple_l, ev_cut, ev_idx, ev_idxT, ev_idxL, ev_idxC, subS_mk, ev_subs, subs_l, subs_tup, subs_clst, subs_str, key_int, key_str, ev_getK_nil, ev_getK, ev_put, ev_src, ev_append, ev_extend, listOfM_l, ev_listOfM, listOf_l, listOf_clst, ev_listOf, ev_clear, chk_list, chk_str, chk_dic, dgetE_mk, dgetM_ev, dget2E_mk, dget2M_ev, ev_dget, ev_dgetY, ev_dget2Y, dpopE_mk, get_set_ne', get_set_is, get_app_is, get_new, ite_lt, ite_le, at_0, at_1, at_2, at_3, at_4, at_end, tupG_mk, tupG_mk', consG_mk, nilG_mk, sne, sbne, beq_self_eq_true, List.lookup_cons, List.lookup_nil, List.mem_cons, List.not_mem_nil, or_false, false_or, true_or, or_true, and_true, true_and, and_false, false_and, eq_self, Option.isSome_some, Option.isSome_none, Option.map_some, Option.map_none, opIs_nn, opIs_ni, opIsNot_nn, opIsNot_ni, opIsB_b, opIsNotB_b, opMul_l, opMul_r, opEq_b, opNe_b, bMax2_i, bMin2_i, List.map_cons, Sum.inl.injEq, Sum.inr.injEq, isi_l_list, isi_tup_tup, List.length_set, decide_eq_true_eq, negE_mk, Nat.reduceLT, Nat.reduceLeDiff, Nat.reduceEqDiff, Nat.reduceMul, Int.reduceLT, Int.reduceLE, Int.reduceEq, Int.reduceAdd, Int.reduceSub, Int.reduceMul, Int.reduceNeg, Int.reduceToNat, Int.reducePow, Nat.reducePow, Int.reduceMod, Int.reduceDiv, reduceCtorEq, ite_true, List.nil_append, Nat.reduceBEq, isXE_mk, ev_isX, xfE_mk, ev_xf, raiseS_mk, raiseFS_mk, excM_mk, goneF_nxt, goneF_ret, opMulX_i, ev_addRL, ev_addLR, ev_addRR, ite_le2, opAdd_s, opAdd_t, chainE_mk, chainR_b, ev_isl, andE_mk, orE_mk, notE_mk, is_non_int, is_non_bool, is_non_str, is_non_list, is_non_tuple, is_bl_int, is_bl_bool, is_bl_str, is_bl_list, is_bl_tuple, is_int_int, is_int_bool, is_int_str, is_int_list, is_int_tuple, is_str_int, is_str_bool, is_str_str, is_str_list, is_str_tuple, is_tup_int, is_tup_bool, is_tup_str, is_tup_list, is_tup_tuple, is_l_int, is_l_bool, is_l_str, is_l_list, is_l_tuple, unpG_tup, unpG_ref, opEq_s, opNe_s, len2_str, leX_ss, seqIX_mk, srcX_str, ↓toBT, ↓toWT, bt_ok, bt_bt, wt_bt, wt_okM, wt_ok, wt_exc, wt_ite, wt_lift, wt_make, wt_try, hg0, f1, n1, hg1, f2, l2] <;> try simp -implicitDefEqProofs only [bt_eq, wt_eq])
  rw [rng1_ok (by omega)]
  (simp -implicitDefEqProofs (maxSteps := 2000000) (disch := (first | omega | decide +kernel | (simp only [isSome_set, isSome_app, isSome_new, Option.isSome_some, *]; done) | (simp only [isSome_lt, List.length_set, List.length_append, List.length_cons, List.length_nil, decide_eq_true_eq]; omega))) only [seqS_mk, asgS_mk, ifS_mk, retS_mk, retNS_mk, skipS_mk, dropS_mk, brkS_mk, cntS_mk, forS_mk, seqI_mk, matE_mk, callF_mk, callB_mk, consA_mk, nilA_mk, consT_mk, nilT_mk, tvs_mk, binE_mk, varE_0, varE_s, kE_mk, set_0, set_s, nmG_mk, lstE_mk, tupE_mk, bT_mk, tstT_mk, notT_mk, andT_mk, orT_mk, yesT_mk, andE_mk, orE_mk, notE_mk, ifE_mk, negE_mk, sliceE_mk, noP_mk, intP_mk, bmE_mk, bmE0_mk, isiB_mk, lcE_mk, lcT_mk, wipeE_nil, wipeE_cons, liftF_ok, matD_d, matD_l, boolT_mk, truthM_bl, truthM_int, truthM_non, opAdd_i, opSub_i, opLt_i, opLe_i, opGt_i, opGe_i, opEq_i, opNe_i, opMod_p, opDiv_p, seqSrc_l, seqSrc_clst, seqSrc_tup, ofL_n, ofR_n, opCut_l, opCut_tup, opCut_clst, callB_len_clst, callB_len_l, callB_len_tup, isi_int_int, isi_int_bool, isi_bool_bool, isi_bool_int, if_true, List.map_cons, List.map_nil, Int.toNat_natCast, List.length_cons, List.length_nil, List.replicate_succ, List.replicate_zero, List.cons_append, List.nil_append, Nat.sub_self, Nat.reduceSub, Nat.reduceAdd, ite_at, Bool.not_true, Bool.not_false, decide_true, decide_false, Bool.false_eq_true, if_false, reduceIte, fldE_mk, ev_fld, sfldS_mk, ev_setF, ev_putD_nil, ev_putD, methE_mk, ev_meth, augFS_mk, ev_aug, ev_len, ev_len2, len2_clst, len2_l, len2_tup, ev_list, ev_list2, list_tup, list_clst, list_l, list2_tup, list2_l, list2_clst, ev_tuple, tuple_tup, bTuple_l, ev_cut, ev_idx, ev_idxT, ev_idxL, ev_idxC, subS_mk, ev_subs, subs_l, subs_tup, subs_clst, subs_str, key_int, key_str, ev_getK_nil, ev_getK, ev_put, ev_src, ev_append, ev_extend, listOfM_l, ev_listOfM, listOf_l, listOf_clst, ev_listOf, ev_clear, chk_list, chk_str, chk_dic, dgetE_mk, dgetM_ev, dget2E_mk, dget2M_ev, ev_dget, ev_dgetY, ev_dget2Y, dpopE_mk, get_set_ne', get_set_is, get_app_is, get_new, ite_lt, ite_le, at_0, at_1, at_2, at_3, at_4, at_end, tupG_mk, tupG_mk', consG_mk, nilG_mk, sne, sbne, beq_self_eq_true, List.lookup_cons, List.lookup_nil, List.mem_cons, List.not_mem_nil, or_false, false_or, true_or, or_true, and_true, true_and, and_false, false_and, eq_self, Option.isSome_some, Option.isSome_none, Option.map_some, Option.map_none, opIs_nn, opIs_ni, opIsNot_nn, opIsNot_ni, opIsB_b, opIsNotB_b, opMul_l, opMul_r, opEq_b, opNe_b, bMax2_i, bMin2_i, List.map_cons, Sum.inl.injEq, Sum.inr.injEq, isi_l_list, isi_tup_tup, List.length_set, decide_eq_true_eq, negE_mk, Nat.reduceLT, Nat.reduceLeDiff, Nat.reduceEqDiff, Nat.reduceMul, Int.reduceLT, Int.reduceLE, Int.reduceEq, Int.reduceAdd, Int.reduceSub, Int.reduceMul, Int.reduceNeg, Int.reduceToNat, Int.reducePow, Nat.reducePow, Int.reduceMod, Int.reduceDiv, reduceCtorEq, ite_true, List.nil_append, Nat.reduceBEq, isXE_mk, ev_isX, xfE_mk, ev_xf, raiseS_mk, raiseFS_mk, excM_mk, goneF_nxt, goneF_ret, opMulX_i, ev_addRL, ev_addLR, ev_addRR, ite_le2, opAdd_s, opAdd_t, chainE_mk, chainR_b, ev_isl, andE_mk, orE_mk, notE_mk, is_non_int, is_non_bool, is_non_str, is_non_list, is_non_tuple, is_bl_int, is_bl_bool, is_bl_str, is_bl_list, is_bl_tuple, is_int_int, is_int_bool, is_int_str, is_int_list, is_int_tuple, is_str_int, is_str_bool, is_str_str, is_str_list, is_str_tuple, is_tup_int, is_tup_bool, is_tup_str, is_tup_list, is_tup_tuple, is_l_int, is_l_bool, is_l_str, is_l_list, is_l_tuple, unpG_tup, unpG_ref, opEq_s, opNe_s, len2_str, leX_ss, seqIX_mk, srcX_str, ↓toBT, ↓toWT, bt_ok, bt_bt, wt_bt, wt_okM, wt_ok, wt_exc, wt_ite, wt_lift, wt_make, wt_try] <;> try simp -implicitDefEqProofs only [bt_eq, wt_eq])
  have hlr : (rngL 0 15).length = 15 := rngL_len 0 15
  obtain ⟨I, hI⟩ := opaque_inv fun i env m' => (∃ y, env = [some (.ref G), some (.ref Lr), some (.ref Lk), y]) ∧ Ext m2 m'
  refine wp_loop (ds := rngL 0 15) I ((hI _ _ _).2 ⟨⟨_, rfl⟩, Ext.refl _⟩) (fun i env m' p => rfl) ?_ ?_
  · intro i d env m' hi p
    obtain ⟨hlt, rfl⟩ := rngL_of hi
    obtain ⟨⟨y, rfl⟩, e⟩ := (hI _ _ _).1 p
    have st := r0 (h2.ext e) (j2.ext e) (fun x hx => Nat.lt_of_lt_of_le (hX2 x hx) e.1) (i := 0 + (i : Int)) (by omega)
    (simp -implicitDefEqProofs (maxSteps := 2000000) (disch := (first | omega | decide +kernel | (simp only [isSome_set, isSome_app, isSome_new, Option.isSome_some, *]; done) | (simp only [isSome_lt, List.length_set, List.length_append, List.length_cons, List.length_nil, decide_eq_true_eq]; omega))) only [seqS_mk, asgS_mk, ifS_mk, retS_mk, retNS_mk, skipS_mk, dropS_mk, brkS_mk, cntS_mk, forS_mk, seqI_mk, matE_mk, callF_mk, callB_mk, consA_mk, nilA_mk, consT_mk, nilT_mk, tvs_mk, binE_mk, varE_0, varE_s, kE_mk, set_0, set_s, nmG_mk, lstE_mk, tupE_mk, bT_mk, tstT_mk, notT_mk, andT_mk, orT_mk, yesT_mk, andE_mk, orE_mk, notE_mk, ifE_mk, negE_mk, sliceE_mk, noP_mk, intP_mk, bmE_mk, bmE0_mk, isiB_mk, lcE_mk, lcT_mk, wipeE_nil, wipeE_cons, liftF_ok, matD_d, matD_l, boolT_mk, truthM_bl, truthM_int, truthM_non, opAdd_i, opSub_i, opLt_i, opLe_i, opGt_i, opGe_i, opEq_i, opNe_i, opMod_p, opDiv_p, seqSrc_l, seqSrc_clst, seqSrc_tup, ofL_n, ofR_n, opCut_l, opCut_tup, opCut_clst, callB_len_clst, callB_len_l, callB_len_tup, isi_int_int, isi_int_bool, isi_bool_bool, isi_bool_int, if_true, List.map_cons, List.map_nil, Int.toNat_natCast, List.length_cons, List.length_nil, List.replicate_succ, List.replicate_zero, List.cons_append, List.nil_append, Nat.sub_self, Nat.reduceSub, Nat.reduceAdd, ite_at, Bool.not_true, Bool.not_false, decide_true, decide_false, Bool.false_eq_true, if_false, reduceIte, fldE_mk, ev_fld, sfldS_mk, ev_setF, ev_putD_nil, ev_putD, methE_mk, ev_meth, augFS_mk, ev_aug, ev_len, ev_len2, len2_clst, len2_l, len2_tup, ev_list, ev_list2, list_tup, list_clst, list_l, list2_tup, list2_l, list2_clst, ev_tuple, tuple_tup, bTuple_l, ev_cut, ev_idx, ev_idxT, ev_idxL, ev_idxC, subS_mk, ev_subs, subs_l, subs_tup, subs_clst, subs_str, key_int, key_str, ev_getK_nil, ev_getK, ev_put, ev_src, ev_append, ev_extend, listOfM_l, ev_listOfM, listOf_l, listOf_clst, ev_listOf, ev_clear, chk_list, chk_str, chk_dic, dgetE_mk, dgetM_ev, dget2E_mk, dget2M_ev, ev_dget, ev_dgetY, ev_dget2Y, dpopE_mk, get_set_ne', get_set_is, get_app_is, get_new, ite_lt, ite_le, at_0, at_1, at_2, at_3, at_4, at_end, tupG_mk, tupG_mk', consG_mk, nilG_mk, sne, sbne, beq_self_eq_true, List.lookup_cons, List.lookup_nil, List.mem_cons, List.not_mem_nil, or_false, false_or, true_or, or_true, and_true, true_and, and_false, false_and, eq_self, Option.isSome_some, Option.isSome_none, Option.map_some, Option.map_none, opIs_nn, opIs_ni, opIsNot_nn, opIsNot_ni, opIsB_b, opIsNotB_b, opMul_l, opMul_r, opEq_b, opNe_b, bMax2_i, bMin2_i, List.map_cons, Sum.inl.injEq, Sum.inr.injEq, isi_l_list, isi_tup_tup, List.length_set, decide_eq_true_eq, negE_mk, Nat.reduceLT, Nat.reduceLeDiff, Nat.reduceEqDiff, Nat.reduceMul, Int.reduceLT, Int.reduceLE, Int.reduceEq, Int.reduceAdd, Int.reduceSub, Int.reduceMul, Int.reduceNeg, Int.reduceToNat, Int.reducePow, Nat.reducePow, Int.reduceMod, Int.reduceDiv, reduceCtorEq, ite_true, List.nil_append, Nat.reduceBEq, isXE_mk, ev_isX, xfE_mk, ev_xf, raiseS_mk, raiseFS_mk, excM_mk, goneF_nxt, goneF_ret, opMulX_i, ev_addRL, ev_addLR, ev_addRR, ite_le2, opAdd_s, opAdd_t, chainE_mk, chainR_b, ev_isl, andE_mk, orE_mk, notE_mk, is_non_int, is_non_bool, is_non_str, is_non_list, is_non_tuple, is_bl_int, is_bl_bool, is_bl_str, is_bl_list, is_bl_tuple, is_int_int, is_int_bool, is_int_str, is_int_list, is_int_tuple, is_str_int, is_str_bool, is_str_str, is_str_list, is_str_tuple, is_tup_int, is_tup_bool, is_tup_str, is_tup_list, is_tup_tuple, is_l_int, is_l_bool, is_l_str, is_l_list, is_l_tuple, unpG_tup, unpG_ref, opEq_s, opNe_s, len2_str, leX_ss, seqIX_mk, srcX_str, ↓toBT, ↓toWT, bt_ok, bt_bt, wt_bt, wt_okM, wt_ok, wt_exc, wt_ite, wt_lift, wt_make, wt_try] <;> try simp -implicitDefEqProofs only [bt_eq, wt_eq])
    refine wp_then st ?_
    rintro fl m3 ⟨rfl, e3⟩
    exact (hI _ _ _).2 ⟨⟨_, rfl⟩, e.trans e3⟩
  · intro env m' p
    obtain ⟨⟨y, rfl⟩, e⟩ := (hI _ _ _).1 p
    have h3 := h2.ext e
    have j3 := j2.ext e
    have e03 := e02.trans e
    clear p hI
    have f3 := w0 h3
    rw [hRW] at f3
    obtain ⟨m4, hm4⟩ : ∃ m4, m4 = m' ++ [O.lst RW] := ⟨_, rfl⟩
    rw [← hm4] at f3
    have e4 : Ext m' m4 := by rw [hm4]; exact Ext.app _ _
    have l4 : m4[m'.length]? = some (.lst RW) := by rw [hm4]; exact get_new
    obtain ⟨m5, hm5⟩ : ∃ m5, m5 = m4.set m'.length (.lst (RW ++ [.int 1])) := ⟨_, rfl⟩
    have e5 : Ext m' m5 := by rw [hm5]; exact e4.set (Nat.le_refl _) _
    have h5 := h3.ext e5
    have j5 := j3.ext e5
    have f5 := w0 h5
    rw [hRW] at f5
    obtain ⟨m6, hm6⟩ : ∃ m6, m6 = m5 ++ [O.lst RW] := ⟨_, rfl⟩
    rw [← hm6] at f5
    have e6 : Ext m5 m6 := by rw [hm6]; exact Ext.app _ _
    have l6 : m6[m5.length]? = some (.lst RW) := by rw [hm6]; exact get_new
    have j6 := j5.ext e6
    have jl := j6.l
    rw [hRW] at jl
    have n6 : opEq (.d (.ref m5.length)) (.d (.ref Lr)) m6 = .ok (.d (.bl true)) m6 := by
      rw [opEq_lst (m := m6) (listOf_ref l6) (listOf_ref jl) ok7 ok7]; simp
    have hg3 := h3.g
    have hg5 := h5.g
    unfold gate at hg3 hg5
    have hlen : RW.length < 16777216 := by rw [← hRW, List.length_map]; omega
    (simp -implicitDefEqProofs (maxSteps := 2000000) (disch := (first | omega | decide +kernel | (simp only [isSome_set, isSome_app, isSome_new, Option.isSome_some, *]; done) | (simp only [isSome_lt, List.length_set, List.length_append, List.length_cons, List.length_nil, decide_eq_true_eq]; omega))) only [seqS_mk, asgS_mk, ifS_mk, retS_mk, retNS_mk, skipS_mk, dropS_mk, brkS_mk, cntS_mk, forS_mk, seqI_mk, matE_mk, callF_mk, callB_mk, consA_mk, nilA_mk, consT_mk, nilT_mk, tvs_mk, binE_mk, varE_0, varE_s, kE_mk, set_0, set_s, nmG_mk, lstE_mk, tupE_mk, bT_mk, tstT_mk, notT_mk, andT_mk, orT_mk, yesT_mk, andE_mk, orE_mk, notE_mk, ifE_mk, negE_mk, sliceE_mk, noP_mk, intP_mk, bmE_mk, bmE0_mk, isiB_mk, lcE_mk, lcT_mk, wipeE_nil, wipeE_cons, liftF_ok, matD_d, matD_l, boolT_mk, truthM_bl, truthM_int, truthM_non, opAdd_i, opSub_i, opLt_i, opLe_i, opGt_i, opGe_i, opEq_i, opNe_i, opMod_p, opDiv_p, seqSrc_l, seqSrc_clst, seqSrc_tup, ofL_n, ofR_n, opCut_l, opCut_tup, opCut_clst, callB_len_clst, callB_len_l, callB_len_tup, isi_int_int, isi_int_bool, isi_bool_bool, isi_bool_int, if_true, List.map_cons, List.map_nil, Int.toNat_natCast, List.length_cons, List.length_nil, List.replicate_succ, List.replicate_zero, List.cons_append, List.nil_append, Nat.sub_self, Nat.reduceSub, Nat.reduceAdd, ite_at, Bool.not_true, Bool.not_false, decide_true, decide_false, Bool.false_eq_true, if_false, reduceIte, fldE_mk, ev_fld, sfldS_mk, ev_setF, ev_putD_nil, ev_putD, methE_mk, ev_meth, augFS_mk, ev_aug, ev_len, ev_len2, len2_clst, len2_l, len2_tup, ev_list, ev_list2, list_tup, list_clst, list_l, list2_tup, list2_l, list2_clst, ev_tuple, tuple_tup, bTuple_l, ev_cut, ev_idx, ev_idxT, ev_idxL, ev_idxC, subS_mk, ev_subs, subs_l, subs_tup, subs_clst, subs_str, key_int, key_str, ev_getK_nil, ev_getK, ev_put, ev_src, ev_append, ev_extend, listOfM_l, ev_listOfM, listOf_l, listOf_clst, ev_listOf, ev_clear, chk_list, chk_str, chk_dic, dgetE_mk, dgetM_ev, dget2E_mk, dget2M_ev, ev_dget, ev_dgetY, ev_dget2Y, dpopE_mk, get_set_ne', get_set_is, get_app_is, get_new, ite_lt, ite_le, at_0, at_1, at_2, at_3, at_4, at_end, tupG_mk, tupG_mk', consG_mk, nilG_mk, sne, sbne, beq_self_eq_true, List.lookup_cons, List.lookup_nil, List.mem_cons, List.not_mem_nil, or_false, false_or, true_or, or_true, and_true, true_and, and_false, false_and, eq_self, Option.isSome_some, Option.isSome_none, Option.map_some, Option.map_none, opIs_nn, opIs_ni, opIsNot_nn, opIsNot_ni, opIsB_b, opIsNotB_b, opMul_l, opMul_r, opEq_b, opNe_b, bMax2_i, bMin2_i, List.map_cons, Sum.inl.injEq, Sum.inr.injEq, isi_l_list, isi_tup_tup, List.length_set, decide_eq_true_eq, negE_mk, Nat.reduceLT, Nat.reduceLeDiff, Nat.reduceEqDiff, Nat.reduceMul, Int.reduceLT, Int.reduceLE, Int.reduceEq, Int.reduceAdd, Int.reduceSub, Int.reduceMul, Int.reduceNeg, Int.reduceToNat, Int.reducePow, Nat.reducePow, Int.reduceMod, Int.reduceDiv, reduceCtorEq, ite_true, List.nil_append, Nat.reduceBEq, isXE_mk, ev_isX, xfE_mk, ev_xf, raiseS_mk, raiseFS_mk, excM_mk, goneF_nxt, goneF_ret, opMulX_i, ev_addRL, ev_addLR, ev_addRR, ite_le2, opAdd_s, opAdd_t, chainE_mk, chainR_b, ev_isl, andE_mk, orE_mk, notE_mk, is_non_int, is_non_bool, is_non_str, is_non_list, is_non_tuple, is_bl_int, is_bl_bool, is_bl_str, is_bl_list, is_bl_tuple, is_int_int, is_int_bool, is_int_str, is_int_list, is_int_tuple, is_str_int, is_str_bool, is_str_str, is_str_list, is_str_tuple, is_tup_int, is_tup_bool, is_tup_str, is_tup_list, is_tup_tuple, is_l_int, is_l_bool, is_l_str, is_l_list, is_l_tuple, unpG_tup, unpG_ref, opEq_s, opNe_s, len2_str, leX_ss, seqIX_mk, srcX_str, ↓toBT, ↓toWT, bt_ok, bt_bt, wt_bt, wt_okM, wt_ok, wt_exc, wt_ite, wt_lift, wt_make, wt_try, hg3, f3, l4, hlen, hm5.symm, hg5, f5, n6] <;> try simp -implicitDefEqProofs only [bt_eq, wt_eq])
    exact (e03.trans e5).trans e6
end
end Law

set_option maxHeartbeats 1000000
namespace Law
open PySem L2 Mir
/-- a gate and the law's own row beside it -/
structure Pr (m : Mem) (X : List Nat) (G kd lu Lr Lk : Nat) (pl : Int) (row : List Nat) (f : Nat → List D) (c : Nat) : Prop where
  g : ∃ kvs, GJ m X G kd lu pl row f c kvs
  j : ∃ kvs, LJ m X Lr Lk row f c kvs
  R : RS pl row f
  X : ∀ x ∈ X, x < m.length
  n1 : kd ≠ Lk
  n2 : lu ≠ Lr
section
variable {m m' : Mem} {X J : List Nat} {G kd lu Lr Lk : Nat} {pl : Int} {row : List Nat} {f : Nat → List D} {c : Nat}
theorem ne_kind {i j : Nat} {o u : O} (h1 : m[i]? = some o) (h2 : m[j]? = some u) (hne : o ≠ u) : i ≠ j := by
  rintro rfl
  exact hne (Option.some.inj (h1.symm.trans h2))
theorem Pr.apart (h : Pr m X G kd lu Lr Lk pl row f c) : Lr ∉ [G, kd, lu] ∧ Lk ∉ [G, kd, lu] := by
  obtain ⟨kvs, g⟩ := h.g
  obtain ⟨kvs2, j⟩ := h.j
  have a1 : G ≠ Lr := ne_kind g.g j.l (by intro z; cases z)
  have a2 : kd ≠ Lr := ne_kind g.k.d j.l (by intro z; cases z)
  have a3 : G ≠ Lk := ne_kind g.g j.k.d (by intro z; cases z)
  have a4 : lu ≠ Lk := ne_kind g.l j.k.d (by intro z; cases z)
  have := h.n1
  have := h.n2
  simp only [List.mem_cons, List.not_mem_nil, or_false, not_or]
  exact ⟨⟨Ne.symm a1, Ne.symm a2, by omega⟩, ⟨Ne.symm a3, by omega, Ne.symm a4⟩⟩
theorem Pr.ext (h : Pr m X G kd lu Lr Lk pl row f c) (e : Ext m m') : Pr m' X G kd lu Lr Lk pl row f c := by
  obtain ⟨kvs, g⟩ := h.g
  obtain ⟨kvs2, j⟩ := h.j
  exact ⟨⟨_, g.ext e⟩, ⟨_, j.ext e⟩, h.R, fun x hx => Nat.lt_of_lt_of_le (h.X x hx) e.1, h.n1, h.n2⟩
theorem GJ.mono {kvs : List (NestedKey × D)} (h : GJ m X G kd lu pl row f c kvs) {c' : Nat} (hc : c ≤ c') : GJ m X G kd lu pl row f c' kvs := ⟨h.g, h.l, h.k.mono hc, h.gx, h.dx, h.lx⟩
/-- what a deed leaves -/
def After (m : Mem) (X : List Nat) (G kd lu Lr Lk : Nat) (pl : Int) (c : Nat) (m' : Mem) : Prop := ∃ lu' Y row' f', Pr m' Y G kd lu' Lr Lk pl row' f' (c + 10) ∧ (∀ x ∈ X, x ∈ Y) ∧ (∀ y ∈ Y, y ∈ X ∨ m.length ≤ y) ∧ (lu' = lu ∨ m.length ≤ lu') ∧ Frm [G, kd, lu, Lr, Lk] m m'
theorem put_both (h : Pr m X G kd lu Lr Lk pl row f c) (hc : c ≤ 40000) {DS : Nat} {a0 a1 a2 a3 a4 a5 fst : Int} (hD : m[DS]? = some (.lst [.int a0, .int a1, .int a2, .int a3, .int a4, .int a5])) (x8 x9 : Option D) (x6 x7 : Option D) (ha : 0 ≤ a1 ∧ 0 ≤ a2 ∧ 0 ≤ a3 ∧ 0 ≤ a4) :
    wpR (m_law_does_0 [some (.ref G), some (.ref Lr), some (.ref Lk), some (.int pl), some (.ref DS), some (.int fst), x6, x7, x8, x9] m) (fun fl m' => fl = .ret (.bl true) ∧ After m X G kd lu Lr Lk pl c m') noEx := by
  obtain ⟨ap1, ap2⟩ := h.apart
  obtain ⟨kvs, g⟩ := h.g
  obtain ⟨kvs2, j⟩ := h.j
  have R := h.R
  have k1 := key_ok
  have p1 := parcel_ok
  have t1 := @put_ok
  have t2 := @lput_ok
  unfold m_law_does_0
  generalize F_law_key = FK at *
  generalize F_law_parcel = FP at *
  generalize F_Gate_put = FG at *
  generalize F_law_put = FL at *
  obtain ⟨M1, hM1, hat1⟩ : ∃ M : Int, 0 < M ∧ L2.atI [D.int 10000, .int 60, .int 7] (fst / 240 % 3) = some (.int M) := by
    obtain ⟨d, hd, e⟩ := pickA [D.int 10000, .int 60, .int 7] (i := fst / 240 % 3) (by simp only [List.length_cons, List.length_nil]; omega)
    simp only [List.mem_cons, List.not_mem_nil, or_false] at hd
    rcases hd with rfl | rfl | rfl
    · exact ⟨_, by omega, e⟩
    · exact ⟨_, by omega, e⟩
    · exact ⟨_, by omega, e⟩
  obtain ⟨M2, hM2, hat2⟩ : ∃ M : Int, 0 < M ∧ L2.atI [D.int 61, .int 3] (a4 % 2) = some (.int M) := by
    obtain ⟨d, hd, e⟩ := pickA [D.int 61, .int 3] (i := a4 % 2) (by simp only [List.length_cons, List.length_nil]; omega)
    simp only [List.mem_cons, List.not_mem_nil, or_false] at hd
    rcases hd with rfl | rfl
    · exact ⟨_, by omega, e⟩
    · exact ⟨_, by omega, e⟩
  have b1 : 0 < 1 + fst / 16 % 15 := by omega
  (simp -implicitDefEqProofs (maxSteps := 2000000) (disch := (first | omega | decide +kernel | (simp only [isSome_set, isSome_app, isSome_new, Option.isSome_some, *]; done) | (simp only [isSome_lt, List.length_set, List.length_append, List.length_cons, List.length_nil, decide_eq_true_eq]; omega))) only [seqS_mk, asgS_mk, ifS_mk, retS_mk, retNS_mk, skipS_mk, dropS_mk, brkS_mk, cntS_mk, forS_mk, seqI_mk, matE_mk, callF_mk, callB_mk, consA_mk, nilA_mk, consT_mk, nilT_mk, tvs_mk, binE_mk, varE_0, varE_s, kE_mk, set_0, set_s, nmG_mk, lstE_mk, tupE_mk, bT_mk, tstT_mk, notT_mk, andT_mk, orT_mk, yesT_mk, andE_mk, orE_mk, notE_mk, ifE_mk, negE_mk, sliceE_mk, noP_mk, intP_mk, bmE_mk, bmE0_mk, isiB_mk, lcE_mk, lcT_mk, wipeE_nil, wipeE_cons, liftF_ok, matD_d, matD_l, boolT_mk, truthM_bl, truthM_int, truthM_non, opAdd_i, opSub_i, opLt_i, opLe_i, opGt_i, opGe_i, opEq_i, opNe_i, opMod_p, opDiv_p, seqSrc_l, seqSrc_clst, seqSrc_tup, ofL_n, ofR_n, opCut_l, opCut_tup, opCut_clst, callB_len_clst, callB_len_l, callB_len_tup, isi_int_int, isi_int_bool, isi_bool_bool, isi_bool_int, if_true, List.map_cons, List.map_nil, Int.toNat_natCast, List.length_cons, List.length_nil, List.replicate_succ, List.replicate_zero, List.cons_append, List.nil_append, Nat.sub_self, Nat.reduceSub, Nat.reduceAdd, ite_at, Bool.not_true, Bool.not_false, decide_true, decide_false, Bool.false_eq_true, if_false, reduceIte, fldE_mk, ev_fld, sfldS_mk, ev_setF, ev_putD_nil, ev_putD, methE_mk, ev_meth, augFS_mk, ev_aug, ev_len, ev_len2, len2_clst, len2_l, len2_tup, ev_list, ev_list2, list_tup, list_clst, list_l, list2_tup, list2_l, list2_clst, ev_tuple, tuple_tup, bTuple_l, ev_cut, ev_idx, ev_idxT, ev_idxL, ev_idxC, subS_mk, ev_subs, subs_l, subs_tup, subs_clst, subs_str, key_int, key_str, ev_getK_nil, ev_getK, ev_put, ev_src, ev_append, ev_extend, listOfM_l, ev_listOfM, listOf_l, listOf_clst, ev_listOf, ev_clear, chk_list, chk_str, chk_dic, dgetE_mk, dgetM_ev, dget2E_mk, dget2M_ev, ev_dget, ev_dgetY, ev_dget2Y, dpopE_mk, get_set_ne', get_set_is, get_app_is, get_new, ite_lt, ite_le, at_0, at_1, at_2, at_3, at_4, at_end, tupG_mk, tupG_mk', consG_mk, nilG_mk, sne, sbne, beq_self_eq_true, List.lookup_cons, List.lookup_nil, List.mem_cons, List.not_mem_nil, or_false, false_or, true_or, or_true, and_true, true_and, and_false, false_and, eq_self, Option.isSome_some, Option.isSome_none, Option.map_some, Option.map_none, opIs_nn, opIs_ni, opIsNot_nn, opIsNot_ni, opIsB_b, opIsNotB_b, opMul_l, opMul_r, opEq_b, opNe_b, bMax2_i, bMin2_i, List.map_cons, Sum.inl.injEq, Sum.inr.injEq, isi_l_list, isi_tup_tup, List.length_set, decide_eq_true_eq, negE_mk, Nat.reduceLT, Nat.reduceLeDiff, Nat.reduceEqDiff, Nat.reduceMul, Int.reduceLT, Int.reduceLE, Int.reduceEq, Int.reduceAdd, Int.reduceSub, Int.reduceMul, Int.reduceNeg, Int.reduceToNat, Int.reducePow, Nat.reducePow, Int.reduceMod, Int.reduceDiv, reduceCtorEq, ite_true, List.nil_append, Nat.reduceBEq, isXE_mk, ev_isX, xfE_mk, ev_xf, raiseS_mk, raiseFS_mk, excM_mk, goneF_nxt, goneF_ret, opMulX_i, ev_addRL, ev_addLR, ev_addRR, ite_le2, opAdd_s, opAdd_t, chainE_mk, chainR_b, ev_isl, andE_mk, orE_mk, notE_mk, is_non_int, is_non_bool, is_non_str, is_non_list, is_non_tuple, is_bl_int, is_bl_bool, is_bl_str, is_bl_list, is_bl_tuple, is_int_int, is_int_bool, is_int_str, is_int_list, is_int_tuple, is_str_int, is_str_bool, is_str_str, is_str_list, is_str_tuple, is_tup_int, is_tup_bool, is_tup_str, is_tup_list, is_tup_tuple, is_l_int, is_l_bool, is_l_str, is_l_list, is_l_tuple, unpG_tup, unpG_ref, opEq_s, opNe_s, len2_str, leX_ss, seqIX_mk, srcX_str, ↓toBT, ↓toWT, bt_ok, bt_bt, wt_bt, wt_okM, wt_ok, wt_exc, wt_ite, wt_lift, wt_make, wt_try, hD, b1] <;> try simp -implicitDefEqProofs only [bt_eq, wt_eq])
  refine wp_call (k1 _ m) ?_
  rintro d m1 ⟨rfl, e1⟩
  have hD1 := e1.2 _ _ hD
  have g1 := g.ext e1
  have j1 := j.ext e1
  have hX1 : ∀ x ∈ X, x < m1.length := fun x hx => Nat.lt_of_lt_of_le (h.X x hx) e1.1
  generalize hi0 : ((a1 % (1 + fst / 16 % 15)) % 15).toNat = i at *
  have hi : i < 15 := by omega
  clear hi0
  have hg1 := g1.g
  unfold gate at hg1
  generalize hK : kD i = K at *
  (simp -implicitDefEqProofs (maxSteps := 2000000) (disch := (first | omega | decide +kernel | (simp only [isSome_set, isSome_app, isSome_new, Option.isSome_some, *]; done) | (simp only [isSome_lt, List.length_set, List.length_append, List.length_cons, List.length_nil, decide_eq_true_eq]; omega))) only [seqS_mk, asgS_mk, ifS_mk, retS_mk, retNS_mk, skipS_mk, dropS_mk, brkS_mk, cntS_mk, forS_mk, seqI_mk, matE_mk, callF_mk, callB_mk, consA_mk, nilA_mk, consT_mk, nilT_mk, tvs_mk, binE_mk, varE_0, varE_s, kE_mk, set_0, set_s, nmG_mk, lstE_mk, tupE_mk, bT_mk, tstT_mk, notT_mk, andT_mk, orT_mk, yesT_mk, andE_mk, orE_mk, notE_mk, ifE_mk, negE_mk, sliceE_mk, noP_mk, intP_mk, bmE_mk, bmE0_mk, isiB_mk, lcE_mk, lcT_mk, wipeE_nil, wipeE_cons, liftF_ok, matD_d, matD_l, boolT_mk, truthM_bl, truthM_int, truthM_non, opAdd_i, opSub_i, opLt_i, opLe_i, opGt_i, opGe_i, opEq_i, opNe_i, opMod_p, opDiv_p, seqSrc_l, seqSrc_clst, seqSrc_tup, ofL_n, ofR_n, opCut_l, opCut_tup, opCut_clst, callB_len_clst, callB_len_l, callB_len_tup, isi_int_int, isi_int_bool, isi_bool_bool, isi_bool_int, if_true, List.map_cons, List.map_nil, Int.toNat_natCast, List.length_cons, List.length_nil, List.replicate_succ, List.replicate_zero, List.cons_append, List.nil_append, Nat.sub_self, Nat.reduceSub, Nat.reduceAdd, ite_at, Bool.not_true, Bool.not_false, decide_true, decide_false, Bool.false_eq_true, if_false, reduceIte, fldE_mk, ev_fld, sfldS_mk, ev_setF, ev_putD_nil, ev_putD, methE_mk, ev_meth, augFS_mk, ev_aug, ev_len, ev_len2, len2_clst, len2_l, len2_tup, ev_list, ev_list2, list_tup, list_clst, list_l, list2_tup, list2_l, list2_clst, ev_tuple, tuple_tup, bTuple_l, ev_cut, ev_idx, ev_idxT, ev_idxL, ev_idxC, subS_mk, ev_subs, subs_l, subs_tup, subs_clst, subs_str, key_int, key_str, ev_getK_nil, ev_getK, ev_put, ev_src, ev_append, ev_extend, listOfM_l, ev_listOfM, listOf_l, listOf_clst, ev_listOf, ev_clear, chk_list, chk_str, chk_dic, dgetE_mk, dgetM_ev, dget2E_mk, dget2M_ev, ev_dget, ev_dgetY, ev_dget2Y, dpopE_mk, get_set_ne', get_set_is, get_app_is, get_new, ite_lt, ite_le, at_0, at_1, at_2, at_3, at_4, at_end, tupG_mk, tupG_mk', consG_mk, nilG_mk, sne, sbne, beq_self_eq_true, List.lookup_cons, List.lookup_nil, List.mem_cons, List.not_mem_nil, or_false, false_or, true_or, or_true, and_true, true_and, and_false, false_and, eq_self, Option.isSome_some, Option.isSome_none, Option.map_some, Option.map_none, opIs_nn, opIs_ni, opIsNot_nn, opIsNot_ni, opIsB_b, opIsNotB_b, opMul_l, opMul_r, opEq_b, opNe_b, bMax2_i, bMin2_i, List.map_cons, Sum.inl.injEq, Sum.inr.injEq, isi_l_list, isi_tup_tup, List.length_set, decide_eq_true_eq, negE_mk, Nat.reduceLT, Nat.reduceLeDiff, Nat.reduceEqDiff, Nat.reduceMul, Int.reduceLT, Int.reduceLE, Int.reduceEq, Int.reduceAdd, Int.reduceSub, Int.reduceMul, Int.reduceNeg, Int.reduceToNat, Int.reducePow, Nat.reducePow, Int.reduceMod, Int.reduceDiv, reduceCtorEq, ite_true, List.nil_append, Nat.reduceBEq, isXE_mk, ev_isX, xfE_mk, ev_xf, raiseS_mk, raiseFS_mk, excM_mk, goneF_nxt, goneF_ret, opMulX_i, ev_addRL, ev_addLR, ev_addRR, ite_le2, opAdd_s, opAdd_t, chainE_mk, chainR_b, ev_isl, andE_mk, orE_mk, notE_mk, is_non_int, is_non_bool, is_non_str, is_non_list, is_non_tuple, is_bl_int, is_bl_bool, is_bl_str, is_bl_list, is_bl_tuple, is_int_int, is_int_bool, is_int_str, is_int_list, is_int_tuple, is_str_int, is_str_bool, is_str_str, is_str_list, is_str_tuple, is_tup_int, is_tup_bool, is_tup_str, is_tup_list, is_tup_tuple, is_l_int, is_l_bool, is_l_str, is_l_list, is_l_tuple, unpG_tup, unpG_ref, opEq_s, opNe_s, len2_str, leX_ss, seqIX_mk, srcX_str, ↓toBT, ↓toWT, bt_ok, bt_bt, wt_bt, wt_okM, wt_ok, wt_exc, wt_ite, wt_lift, wt_make, wt_try, hD1, hM1, hM2, hat1, hat2] <;> try simp -implicitDefEqProofs only [bt_eq, wt_eq])
  refine wp_call (p1 _ _ m1) ?_
  rintro d m2 ⟨⟨ys, rfl, hy⟩, rfl⟩
  (simp -implicitDefEqProofs (maxSteps := 2000000) (disch := (first | omega | decide +kernel | (simp only [isSome_set, isSome_app, isSome_new, Option.isSome_some, *]; done) | (simp only [isSome_lt, List.length_set, List.length_append, List.length_cons, List.length_nil, decide_eq_true_eq]; omega))) only [seqS_mk, asgS_mk, ifS_mk, retS_mk, retNS_mk, skipS_mk, dropS_mk, brkS_mk, cntS_mk, forS_mk, seqI_mk, matE_mk, callF_mk, callB_mk, consA_mk, nilA_mk, consT_mk, nilT_mk, tvs_mk, binE_mk, varE_0, varE_s, kE_mk, set_0, set_s, nmG_mk, lstE_mk, tupE_mk, bT_mk, tstT_mk, notT_mk, andT_mk, orT_mk, yesT_mk, andE_mk, orE_mk, notE_mk, ifE_mk, negE_mk, sliceE_mk, noP_mk, intP_mk, bmE_mk, bmE0_mk, isiB_mk, lcE_mk, lcT_mk, wipeE_nil, wipeE_cons, liftF_ok, matD_d, matD_l, boolT_mk, truthM_bl, truthM_int, truthM_non, opAdd_i, opSub_i, opLt_i, opLe_i, opGt_i, opGe_i, opEq_i, opNe_i, opMod_p, opDiv_p, seqSrc_l, seqSrc_clst, seqSrc_tup, ofL_n, ofR_n, opCut_l, opCut_tup, opCut_clst, callB_len_clst, callB_len_l, callB_len_tup, isi_int_int, isi_int_bool, isi_bool_bool, isi_bool_int, if_true, List.map_cons, List.map_nil, Int.toNat_natCast, List.length_cons, List.length_nil, List.replicate_succ, List.replicate_zero, List.cons_append, List.nil_append, Nat.sub_self, Nat.reduceSub, Nat.reduceAdd, ite_at, Bool.not_true, Bool.not_false, decide_true, decide_false, Bool.false_eq_true, if_false, reduceIte, fldE_mk, ev_fld, sfldS_mk, ev_setF, ev_putD_nil, ev_putD, methE_mk, ev_meth, augFS_mk, ev_aug, ev_len, ev_len2, len2_clst, len2_l, len2_tup, ev_list, ev_list2, list_tup, list_clst, list_l, list2_tup, list2_l, list2_clst, ev_tuple, tuple_tup, bTuple_l, ev_cut, ev_idx, ev_idxT, ev_idxL, ev_idxC, subS_mk, ev_subs, subs_l, subs_tup, subs_clst, subs_str, key_int, key_str, ev_getK_nil, ev_getK, ev_put, ev_src, ev_append, ev_extend, listOfM_l, ev_listOfM, listOf_l, listOf_clst, ev_listOf, ev_clear, chk_list, chk_str, chk_dic, dgetE_mk, dgetM_ev, dget2E_mk, dget2M_ev, ev_dget, ev_dgetY, ev_dget2Y, dpopE_mk, get_set_ne', get_set_is, get_app_is, get_new, ite_lt, ite_le, at_0, at_1, at_2, at_3, at_4, at_end, tupG_mk, tupG_mk', consG_mk, nilG_mk, sne, sbne, beq_self_eq_true, List.lookup_cons, List.lookup_nil, List.mem_cons, List.not_mem_nil, or_false, false_or, true_or, or_true, and_true, true_and, and_false, false_and, eq_self, Option.isSome_some, Option.isSome_none, Option.map_some, Option.map_none, opIs_nn, opIs_ni, opIsNot_nn, opIsNot_ni, opIsB_b, opIsNotB_b, opMul_l, opMul_r, opEq_b, opNe_b, bMax2_i, bMin2_i, List.map_cons, Sum.inl.injEq, Sum.inr.injEq, isi_l_list, isi_tup_tup, List.length_set, decide_eq_true_eq, negE_mk, Nat.reduceLT, Nat.reduceLeDiff, Nat.reduceEqDiff, Nat.reduceMul, Int.reduceLT, Int.reduceLE, Int.reduceEq, Int.reduceAdd, Int.reduceSub, Int.reduceMul, Int.reduceNeg, Int.reduceToNat, Int.reducePow, Nat.reducePow, Int.reduceMod, Int.reduceDiv, reduceCtorEq, ite_true, List.nil_append, Nat.reduceBEq, isXE_mk, ev_isX, xfE_mk, ev_xf, raiseS_mk, raiseFS_mk, excM_mk, goneF_nxt, goneF_ret, opMulX_i, ev_addRL, ev_addLR, ev_addRR, ite_le2, opAdd_s, opAdd_t, chainE_mk, chainR_b, ev_isl, andE_mk, orE_mk, notE_mk, is_non_int, is_non_bool, is_non_str, is_non_list, is_non_tuple, is_bl_int, is_bl_bool, is_bl_str, is_bl_list, is_bl_tuple, is_int_int, is_int_bool, is_int_str, is_int_list, is_int_tuple, is_str_int, is_str_bool, is_str_str, is_str_list, is_str_tuple, is_tup_int, is_tup_bool, is_tup_str, is_tup_list, is_tup_tuple, is_l_int, is_l_bool, is_l_str, is_l_list, is_l_tuple, unpG_tup, unpG_ref, opEq_s, opNe_s, len2_str, leX_ss, seqIX_mk, srcX_str, ↓toBT, ↓toWT, bt_ok, bt_bt, wt_bt, wt_okM, wt_ok, wt_exc, wt_ite, wt_lift, wt_make, wt_try, hg1] <;> try simp -implicitDefEqProofs only [bt_eq, wt_eq])
  subst hK
  refine wp_call (t1 g1 R hX1 (by omega) hi hy) ?_
  rintro d m3 ⟨rfl, ⟨kvs3, g3⟩, fr3⟩
  have hX3 : ∀ x ∈ X, x < m3.length := fun x hx => Nat.lt_of_lt_of_le (hX1 x hx) fr3.1
  have j3 := j1.frm fr3 (by simp [g1.dx, g1.lx]) (by simp at ap1 ⊢; omega) (by simp at ap2 ⊢; omega)
  (simp -implicitDefEqProofs (maxSteps := 2000000) (disch := (first | omega | decide +kernel | (simp only [isSome_set, isSome_app, isSome_new, Option.isSome_some, *]; done) | (simp only [isSome_lt, List.length_set, List.length_append, List.length_cons, List.length_nil, decide_eq_true_eq]; omega))) only [seqS_mk, asgS_mk, ifS_mk, retS_mk, retNS_mk, skipS_mk, dropS_mk, brkS_mk, cntS_mk, forS_mk, seqI_mk, matE_mk, callF_mk, callB_mk, consA_mk, nilA_mk, consT_mk, nilT_mk, tvs_mk, binE_mk, varE_0, varE_s, kE_mk, set_0, set_s, nmG_mk, lstE_mk, tupE_mk, bT_mk, tstT_mk, notT_mk, andT_mk, orT_mk, yesT_mk, andE_mk, orE_mk, notE_mk, ifE_mk, negE_mk, sliceE_mk, noP_mk, intP_mk, bmE_mk, bmE0_mk, isiB_mk, lcE_mk, lcT_mk, wipeE_nil, wipeE_cons, liftF_ok, matD_d, matD_l, boolT_mk, truthM_bl, truthM_int, truthM_non, opAdd_i, opSub_i, opLt_i, opLe_i, opGt_i, opGe_i, opEq_i, opNe_i, opMod_p, opDiv_p, seqSrc_l, seqSrc_clst, seqSrc_tup, ofL_n, ofR_n, opCut_l, opCut_tup, opCut_clst, callB_len_clst, callB_len_l, callB_len_tup, isi_int_int, isi_int_bool, isi_bool_bool, isi_bool_int, if_true, List.map_cons, List.map_nil, Int.toNat_natCast, List.length_cons, List.length_nil, List.replicate_succ, List.replicate_zero, List.cons_append, List.nil_append, Nat.sub_self, Nat.reduceSub, Nat.reduceAdd, ite_at, Bool.not_true, Bool.not_false, decide_true, decide_false, Bool.false_eq_true, if_false, reduceIte, fldE_mk, ev_fld, sfldS_mk, ev_setF, ev_putD_nil, ev_putD, methE_mk, ev_meth, augFS_mk, ev_aug, ev_len, ev_len2, len2_clst, len2_l, len2_tup, ev_list, ev_list2, list_tup, list_clst, list_l, list2_tup, list2_l, list2_clst, ev_tuple, tuple_tup, bTuple_l, ev_cut, ev_idx, ev_idxT, ev_idxL, ev_idxC, subS_mk, ev_subs, subs_l, subs_tup, subs_clst, subs_str, key_int, key_str, ev_getK_nil, ev_getK, ev_put, ev_src, ev_append, ev_extend, listOfM_l, ev_listOfM, listOf_l, listOf_clst, ev_listOf, ev_clear, chk_list, chk_str, chk_dic, dgetE_mk, dgetM_ev, dget2E_mk, dget2M_ev, ev_dget, ev_dgetY, ev_dget2Y, dpopE_mk, get_set_ne', get_set_is, get_app_is, get_new, ite_lt, ite_le, at_0, at_1, at_2, at_3, at_4, at_end, tupG_mk, tupG_mk', consG_mk, nilG_mk, sne, sbne, beq_self_eq_true, List.lookup_cons, List.lookup_nil, List.mem_cons, List.not_mem_nil, or_false, false_or, true_or, or_true, and_true, true_and, and_false, false_and, eq_self, Option.isSome_some, Option.isSome_none, Option.map_some, Option.map_none, opIs_nn, opIs_ni, opIsNot_nn, opIsNot_ni, opIsB_b, opIsNotB_b, opMul_l, opMul_r, opEq_b, opNe_b, bMax2_i, bMin2_i, List.map_cons, Sum.inl.injEq, Sum.inr.injEq, isi_l_list, isi_tup_tup, List.length_set, decide_eq_true_eq, negE_mk, Nat.reduceLT, Nat.reduceLeDiff, Nat.reduceEqDiff, Nat.reduceMul, Int.reduceLT, Int.reduceLE, Int.reduceEq, Int.reduceAdd, Int.reduceSub, Int.reduceMul, Int.reduceNeg, Int.reduceToNat, Int.reducePow, Nat.reducePow, Int.reduceMod, Int.reduceDiv, reduceCtorEq, ite_true, List.nil_append, Nat.reduceBEq, isXE_mk, ev_isX, xfE_mk, ev_xf, raiseS_mk, raiseFS_mk, excM_mk, goneF_nxt, goneF_ret, opMulX_i, ev_addRL, ev_addLR, ev_addRR, ite_le2, opAdd_s, opAdd_t, chainE_mk, chainR_b, ev_isl, andE_mk, orE_mk, notE_mk, is_non_int, is_non_bool, is_non_str, is_non_list, is_non_tuple, is_bl_int, is_bl_bool, is_bl_str, is_bl_list, is_bl_tuple, is_int_int, is_int_bool, is_int_str, is_int_list, is_int_tuple, is_str_int, is_str_bool, is_str_str, is_str_list, is_str_tuple, is_tup_int, is_tup_bool, is_tup_str, is_tup_list, is_tup_tuple, is_l_int, is_l_bool, is_l_str, is_l_list, is_l_tuple, unpG_tup, unpG_ref, opEq_s, opNe_s, len2_str, leX_ss, seqIX_mk, srcX_str, ↓toBT, ↓toWT, bt_ok, bt_bt, wt_bt, wt_okM, wt_ok, wt_exc, wt_ite, wt_lift, wt_make, wt_try] <;> try simp -implicitDefEqProofs only [bt_eq, wt_eq])
  refine wp_call (t2 j3 R hX3 (by omega) hi hy) ?_
  rintro d m4 ⟨rfl, ⟨kvs4, j4⟩, fr4⟩
  have g4 := g3.frm fr4 (by simp [j3.lx, j3.kx]) (by simp at ap1 ap2 ⊢; omega) (by simp at ap1 ap2 ⊢; omega) (by simp at ap1 ap2 ⊢; omega)
  have fin : After m X G kd lu Lr Lk pl c m4 := ⟨lu, X, _, _, ⟨⟨_, g4.mono (by omega)⟩, ⟨_, j4.mono (by omega)⟩, R.putS hi ⟨ys, rfl, hy⟩, fun x hx => Nat.lt_of_lt_of_le (hX3 x hx) fr4.1, h.n1, h.n2⟩, fun x hx => hx, fun y hy => .inl hy, .inl rfl,
    ((Frm.of e1).trans (fr3.mono (by simp))).trans (fr4.mono (by simp))⟩
  generalize (putS pl row f i (.tup ys)).1 = b at *
  (simp -implicitDefEqProofs (maxSteps := 2000000) (disch := (first | omega | decide +kernel | (simp only [isSome_set, isSome_app, isSome_new, Option.isSome_some, *]; done) | (simp only [isSome_lt, List.length_set, List.length_append, List.length_cons, List.length_nil, decide_eq_true_eq]; omega))) only [seqS_mk, asgS_mk, ifS_mk, retS_mk, retNS_mk, skipS_mk, dropS_mk, brkS_mk, cntS_mk, forS_mk, seqI_mk, matE_mk, callF_mk, callB_mk, consA_mk, nilA_mk, consT_mk, nilT_mk, tvs_mk, binE_mk, varE_0, varE_s, kE_mk, set_0, set_s, nmG_mk, lstE_mk, tupE_mk, bT_mk, tstT_mk, notT_mk, andT_mk, orT_mk, yesT_mk, andE_mk, orE_mk, notE_mk, ifE_mk, negE_mk, sliceE_mk, noP_mk, intP_mk, bmE_mk, bmE0_mk, isiB_mk, lcE_mk, lcT_mk, wipeE_nil, wipeE_cons, liftF_ok, matD_d, matD_l, boolT_mk, truthM_bl, truthM_int, truthM_non, opAdd_i, opSub_i, opLt_i, opLe_i, opGt_i, opGe_i, opEq_i, opNe_i, opMod_p, opDiv_p, seqSrc_l, seqSrc_clst, seqSrc_tup, ofL_n, ofR_n, opCut_l, opCut_tup, opCut_clst, callB_len_clst, callB_len_l, callB_len_tup, isi_int_int, isi_int_bool, isi_bool_bool, isi_bool_int, if_true, List.map_cons, List.map_nil, Int.toNat_natCast, List.length_cons, List.length_nil, List.replicate_succ, List.replicate_zero, List.cons_append, List.nil_append, Nat.sub_self, Nat.reduceSub, Nat.reduceAdd, ite_at, Bool.not_true, Bool.not_false, decide_true, decide_false, Bool.false_eq_true, if_false, reduceIte, fldE_mk, ev_fld, sfldS_mk, ev_setF, ev_putD_nil, ev_putD, methE_mk, ev_meth, augFS_mk, ev_aug, ev_len, ev_len2, len2_clst, len2_l, len2_tup, ev_list, ev_list2, list_tup, list_clst, list_l, list2_tup, list2_l, list2_clst, ev_tuple, tuple_tup, bTuple_l, ev_cut, ev_idx, ev_idxT, ev_idxL, ev_idxC, subS_mk, ev_subs, subs_l, subs_tup, subs_clst, subs_str, key_int, key_str, ev_getK_nil, ev_getK, ev_put, ev_src, ev_append, ev_extend, listOfM_l, ev_listOfM, listOf_l, listOf_clst, ev_listOf, ev_clear, chk_list, chk_str, chk_dic, dgetE_mk, dgetM_ev, dget2E_mk, dget2M_ev, ev_dget, ev_dgetY, ev_dget2Y, dpopE_mk, get_set_ne', get_set_is, get_app_is, get_new, ite_lt, ite_le, at_0, at_1, at_2, at_3, at_4, at_end, tupG_mk, tupG_mk', consG_mk, nilG_mk, sne, sbne, beq_self_eq_true, List.lookup_cons, List.lookup_nil, List.mem_cons, List.not_mem_nil, or_false, false_or, true_or, or_true, and_true, true_and, and_false, false_and, eq_self, Option.isSome_some, Option.isSome_none, Option.map_some, Option.map_none, opIs_nn, opIs_ni, opIsNot_nn, opIsNot_ni, opIsB_b, opIsNotB_b, opMul_l, opMul_r, opEq_b, opNe_b, bMax2_i, bMin2_i, List.map_cons, Sum.inl.injEq, Sum.inr.injEq, isi_l_list, isi_tup_tup, List.length_set, decide_eq_true_eq, negE_mk, Nat.reduceLT, Nat.reduceLeDiff, Nat.reduceEqDiff, Nat.reduceMul, Int.reduceLT, Int.reduceLE, Int.reduceEq, Int.reduceAdd, Int.reduceSub, Int.reduceMul, Int.reduceNeg, Int.reduceToNat, Int.reducePow, Nat.reducePow, Int.reduceMod, Int.reduceDiv, reduceCtorEq, ite_true, List.nil_append, Nat.reduceBEq, isXE_mk, ev_isX, xfE_mk, ev_xf, raiseS_mk, raiseFS_mk, excM_mk, goneF_nxt, goneF_ret, opMulX_i, ev_addRL, ev_addLR, ev_addRR, ite_le2, opAdd_s, opAdd_t, chainE_mk, chainR_b, ev_isl, andE_mk, orE_mk, notE_mk, is_non_int, is_non_bool, is_non_str, is_non_list, is_non_tuple, is_bl_int, is_bl_bool, is_bl_str, is_bl_list, is_bl_tuple, is_int_int, is_int_bool, is_int_str, is_int_list, is_int_tuple, is_str_int, is_str_bool, is_str_str, is_str_list, is_str_tuple, is_tup_int, is_tup_bool, is_tup_str, is_tup_list, is_tup_tuple, is_l_int, is_l_bool, is_l_str, is_l_list, is_l_tuple, unpG_tup, unpG_ref, opEq_s, opNe_s, len2_str, leX_ss, seqIX_mk, srcX_str, ↓toBT, ↓toWT, bt_ok, bt_bt, wt_bt, wt_okM, wt_ok, wt_exc, wt_ite, wt_lift, wt_make, wt_try] <;> try simp -implicitDefEqProofs only [bt_eq, wt_eq])
  first
  | exact fin
  | (refine ⟨?_, fin⟩; first | rfl | simp)
end
end Law

set_option maxHeartbeats 1000000
namespace Law
open PySem L2 Mir
section
variable {m m' : Mem} {X J : List Nat} {G kd lu Lr Lk : Nat} {pl : Int} {row : List Nat} {f : Nat → List D} {c : Nat}
/-- both give out: the same parcels -/
theorem outs_both (h : Pr m X G kd lu Lr Lk pl row f c) (hc : c ≤ 40000) {n : Nat} (hn : n ≤ 1000) :
    wpR (F_Gate_out [.ref G, .int (n : Int)] m) (fun d m1 => d = .ref m.length ∧ (∃ L, m1[m.length]? = some (.lst L)) ∧ Frm [G, kd, lu, Lr, Lk] m m1 ∧ wpR (F_law_out [.ref Lr, .ref Lk, .int (n : Int)] m1) (fun d2 m2 => d2 = .ref m1.length ∧ opNe (.d (.ref m.length)) (.d (.ref m1.length)) m2 = .ok (.d (.bl false)) m2 ∧
      ∃ L, m2[m.length]? = some (.lst L) ∧ L.length ≤ n ∧ (∀ u, ∃ lu' Y, Pr (m2.set m.length u) Y G kd lu' Lr Lk pl (outS n row f).2.1 (outS n row f).2.2 (c + n) ∧ (∀ x ∈ X, x ∈ Y) ∧ (∀ y ∈ Y, y ∈ X ∨ m.length ≤ y) ∧ (lu' = lu ∨ m.length ≤ lu') ∧ Frm [G, kd, lu, Lr, Lk] m (m2.set m.length u))) noEx) noEx := by
  have t1 := @out_ok
  have t2 := @lout_ok
  generalize F_Gate_out = FG at *
  generalize F_law_out = FL at *
  obtain ⟨ap1, ap2⟩ := h.apart
  obtain ⟨kvs, g⟩ := h.g
  obtain ⟨kvs2, j⟩ := h.j
  have R := h.R
  have hlr := h.X _ j.lx
  have hlk := h.X _ j.kx
  have hG := h.X _ g.gx
  have hK := h.X _ g.dx
  have hn1 := h.n1
  have hn2 := h.n2
  refine wp_call (t1 g R h.X (by omega) hn) ?_
  rintro d m1 ⟨rfl, lu', Y, kvs3, g1, R1, hF1, hY1, hY2, hY3, hlu, hlm, hP, hle, fr1, ml1⟩
  refine ⟨rfl, ⟨_, hF1⟩, fr1.mono (by simp), ?_⟩
  have j1 := (j.to hY2 (fun x hx => hY1 x (by simp [hx]))).frm fr1 (by simp only [List.mem_cons, List.not_mem_nil, or_false]; rintro x (rfl | rfl) <;> exact hY1 _ (by simp [g.gx, g.dx])) (by simp at ap1 ⊢; omega) (by simp at ap2 ⊢; omega)
  refine wp_call (t2 j1 R hY3 (by omega) hn) ?_
  rintro d m2 ⟨rfl, ⟨kvs4, j2⟩, hF2, fr2, ml2⟩
  have hF1' : m2[m.length]? = some (.lst (outS n row f).1) := fr2.2 _ _ (by simp; omega) hF1
  have ok7 : ∀ d ∈ (outS n row f).1, okD 7 d := fun d hd => (hP d hd).ok
  have hmY : m.length ∈ Y := hY1 _ (by simp)
  have g2 := (g1.to (Y := m1.length :: Y) (fun y hy => by
    rcases List.mem_cons.mp hy with z | z
    · exact .inr (by omega)
    · exact .inl z) (fun x hx => List.mem_cons_of_mem _ hx)).frm fr2 (by simp only [List.mem_cons, List.not_mem_nil, or_false]; rintro x (rfl | rfl) <;> exact .inr (hY1 _ (by simp [j.lx, j.kx]))) (by simp at ap1 ap2 ⊢; omega) (by simp at ap1 ap2 ⊢; omega) (by simp at ap1 ap2 ⊢; omega)
  refine ⟨rfl, by rw [opNe_lst (m := m2) (listOf_ref hF1') (listOf_ref hF2) ok7 ok7]; simp, _, hF1', hle, fun u => ⟨lu', m1.length :: Y, ?_, fun x hx => List.mem_cons_of_mem _ (hY1 x (by simp [hx])), ?_, hlu, ?_⟩⟩
  · have fr3 : Frm [m.length] m2 (m2.set m.length u) := (Frm.refl _ _).set (.inl (by simp)) _
    refine ⟨⟨_, g2.frm fr3 (by simp [hmY]) (by simp; omega) (by simp; omega) (by simp; omega)⟩, ⟨_, (j2.frm fr3 (by simp [hmY]) (by simp; omega) (by simp; omega)).mono (by omega)⟩, R1, ?_, hn1, by simp at ap1; omega⟩
    intro x hx
    rw [List.length_set]
    rcases List.mem_cons.mp hx with z | z
    · omega
    · have := hY3 x z
      have := fr2.1
      omega
  · intro y hy
    rcases List.mem_cons.mp hy with z | z
    · exact .inr (by omega)
    · exact hY2 y z
  · exact ((fr1.mono (by simp)).trans (show Frm [G, kd, lu, Lr, Lk] m1 m2 from fr2.mono (by simp))).set (.inr (Nat.le_refl _)) _
theorem does_ok (h : Pr m X G kd lu Lr Lk pl row f c) (hc : c ≤ 40000) {DS : Nat} {a0 a1 a2 a3 a4 a5 fst : Int} (hD : m[DS]? = some (.lst [.int a0, .int a1, .int a2, .int a3, .int a4, .int a5])) (ha : 0 ≤ a1 ∧ 0 ≤ a2 ∧ 0 ≤ a3 ∧ 0 ≤ a4) :
    wpR (F_law_does [.ref G, .ref Lr, .ref Lk, .int pl, .ref DS, .int fst] m) (fun d m' => d = .bl true ∧ After m X G kd lu Lr Lk pl c m') noEx := by
  have p0 := @put_both
  have o0 := @outs_both
  refine wp_fn ?_
  unfold m_law_does
  generalize m_law_does_0 = B0 at *
  generalize F_Gate_out = FG at *
  generalize F_law_out = FL at *
  by_cases hp : a0 % 8 < 5
  · have st := p0 h hc (fst := fst) hD none none none none ha
    (simp -implicitDefEqProofs (maxSteps := 2000000) (disch := (first | omega | decide +kernel | (simp only [isSome_set, isSome_app, isSome_new, Option.isSome_some, *]; done) | (simp only [isSome_lt, List.length_set, List.length_append, List.length_cons, List.length_nil, decide_eq_true_eq]; omega))) only [seqS_mk, asgS_mk, ifS_mk, retS_mk, retNS_mk, skipS_mk, dropS_mk, brkS_mk, cntS_mk, forS_mk, seqI_mk, matE_mk, callF_mk, callB_mk, consA_mk, nilA_mk, consT_mk, nilT_mk, tvs_mk, binE_mk, varE_0, varE_s, kE_mk, set_0, set_s, nmG_mk, lstE_mk, tupE_mk, bT_mk, tstT_mk, notT_mk, andT_mk, orT_mk, yesT_mk, andE_mk, orE_mk, notE_mk, ifE_mk, negE_mk, sliceE_mk, noP_mk, intP_mk, bmE_mk, bmE0_mk, isiB_mk, lcE_mk, lcT_mk, wipeE_nil, wipeE_cons, liftF_ok, matD_d, matD_l, boolT_mk, truthM_bl, truthM_int, truthM_non, opAdd_i, opSub_i, opLt_i, opLe_i, opGt_i, opGe_i, opEq_i, opNe_i, opMod_p, opDiv_p, seqSrc_l, seqSrc_clst, seqSrc_tup, ofL_n, ofR_n, opCut_l, opCut_tup, opCut_clst, callB_len_clst, callB_len_l, callB_len_tup, isi_int_int, isi_int_bool, isi_bool_bool, isi_bool_int, if_true, List.map_cons, List.map_nil, Int.toNat_natCast, List.length_cons, List.length_nil, List.replicate_succ, List.replicate_zero, List.cons_append, List.nil_append, Nat.sub_self, Nat.reduceSub, Nat.reduceAdd, ite_at, Bool.not_true, Bool.not_false, decide_true, decide_false, Bool.false_eq_true, if_false, reduceIte, fldE_mk, ev_fld, sfldS_mk, ev_setF, ev_putD_nil, ev_putD, methE_mk, ev_meth, augFS_mk, ev_aug, ev_len, ev_len2, len2_clst, len2_l, len2_tup, ev_list, ev_list2, list_tup, list_clst, list_l, list2_tup, list2_l, list2_clst, ev_tuple, tuple_tup, bTuple_l, ev_cut, ev_idx, ev_idxT, ev_idxL, ev_idxC, subS_mk, ev_subs, subs_l, subs_tup, subs_clst, subs_str, key_int, key_str, ev_getK_nil, ev_getK, ev_put, ev_src, ev_append, ev_extend, listOfM_l, ev_listOfM, listOf_l, listOf_clst, ev_listOf, ev_clear, chk_list, chk_str, chk_dic, dgetE_mk, dgetM_ev, dget2E_mk, dget2M_ev, ev_dget, ev_dgetY, ev_dget2Y, dpopE_mk, get_set_ne', get_set_is, get_app_is, get_new, ite_lt, ite_le, at_0, at_1, at_2, at_3, at_4, at_end, tupG_mk, tupG_mk', consG_mk, nilG_mk, sne, sbne, beq_self_eq_true, List.lookup_cons, List.lookup_nil, List.mem_cons, List.not_mem_nil, or_false, false_or, true_or, or_true, and_true, true_and, and_false, false_and, eq_self, Option.isSome_some, Option.isSome_none, Option.map_some, Option.map_none, opIs_nn, opIs_ni, opIsNot_nn, opIsNot_ni, opIsB_b, opIsNotB_b, opMul_l, opMul_r, opEq_b, opNe_b, bMax2_i, bMin2_i, List.map_cons, Sum.inl.injEq, Sum.inr.injEq, isi_l_list, isi_tup_tup, List.length_set, decide_eq_true_eq, negE_mk, Nat.reduceLT, Nat.reduceLeDiff, Nat.reduceEqDiff, Nat.reduceMul, Int.reduceLT, Int.reduceLE, Int.reduceEq, Int.reduceAdd, Int.reduceSub, Int.reduceMul, Int.reduceNeg, Int.reduceToNat, Int.reducePow, Nat.reducePow, Int.reduceMod, Int.reduceDiv, reduceCtorEq, ite_true, List.nil_append, Nat.reduceBEq, isXE_mk, ev_isX, xfE_mk, ev_xf, raiseS_mk, raiseFS_mk, excM_mk, goneF_nxt, goneF_ret, opMulX_i, ev_addRL, ev_addLR, ev_addRR, ite_le2, opAdd_s, opAdd_t, chainE_mk, chainR_b, ev_isl, andE_mk, orE_mk, notE_mk, is_non_int, is_non_bool, is_non_str, is_non_list, is_non_tuple, is_bl_int, is_bl_bool, is_bl_str, is_bl_list, is_bl_tuple, is_int_int, is_int_bool, is_int_str, is_int_list, is_int_tuple, is_str_int, is_str_bool, is_str_str, is_str_list, is_str_tuple, is_tup_int, is_tup_bool, is_tup_str, is_tup_list, is_tup_tuple, is_l_int, is_l_bool, is_l_str, is_l_list, is_l_tuple, unpG_tup, unpG_ref, opEq_s, opNe_s, len2_str, leX_ss, seqIX_mk, srcX_str, ↓toBT, ↓toWT, bt_ok, bt_bt, wt_bt, wt_okM, wt_ok, wt_exc, wt_ite, wt_lift, wt_make, wt_try, hD, hp] <;> try simp -implicitDefEqProofs only [bt_eq, wt_eq])
    refine wp_then st ?_
    rintro fl m' ⟨rfl, hA⟩
    exact ⟨rfl, hA⟩
  · obtain ⟨M1, hM1, hat1⟩ : ∃ M : Int, (0 < M ∧ M ≤ 10) ∧ L2.atI [D.int 10, .int 3] (fst / 720 % 2) = some (.int M) := by
      obtain ⟨d, hd, e⟩ := pickA [D.int 10, .int 3] (i := fst / 720 % 2) (by simp only [List.length_cons, List.length_nil]; omega)
      simp only [List.mem_cons, List.not_mem_nil, or_false] at hd
      rcases hd with rfl | rfl
      · exact ⟨_, by omega, e⟩
      · exact ⟨_, by omega, e⟩
    obtain ⟨hM0, hM9⟩ := hM1
    have b1 := Int.emod_nonneg a1 (show M1 ≠ 0 by omega)
    have b2 := Int.emod_lt_of_pos a1 hM0
    obtain ⟨n, hn⟩ : ∃ n : Nat, a1 % M1 = (n : Int) := ⟨(a1 % M1).toNat, by omega⟩
    obtain ⟨kvs, g⟩ := h.g
    have hg := g.g
    unfold gate at hg
    (simp -implicitDefEqProofs (maxSteps := 2000000) (disch := (first | omega | decide +kernel | (simp only [isSome_set, isSome_app, isSome_new, Option.isSome_some, *]; done) | (simp only [isSome_lt, List.length_set, List.length_append, List.length_cons, List.length_nil, decide_eq_true_eq]; omega))) only [seqS_mk, asgS_mk, ifS_mk, retS_mk, retNS_mk, skipS_mk, dropS_mk, brkS_mk, cntS_mk, forS_mk, seqI_mk, matE_mk, callF_mk, callB_mk, consA_mk, nilA_mk, consT_mk, nilT_mk, tvs_mk, binE_mk, varE_0, varE_s, kE_mk, set_0, set_s, nmG_mk, lstE_mk, tupE_mk, bT_mk, tstT_mk, notT_mk, andT_mk, orT_mk, yesT_mk, andE_mk, orE_mk, notE_mk, ifE_mk, negE_mk, sliceE_mk, noP_mk, intP_mk, bmE_mk, bmE0_mk, isiB_mk, lcE_mk, lcT_mk, wipeE_nil, wipeE_cons, liftF_ok, matD_d, matD_l, boolT_mk, truthM_bl, truthM_int, truthM_non, opAdd_i, opSub_i, opLt_i, opLe_i, opGt_i, opGe_i, opEq_i, opNe_i, opMod_p, opDiv_p, seqSrc_l, seqSrc_clst, seqSrc_tup, ofL_n, ofR_n, opCut_l, opCut_tup, opCut_clst, callB_len_clst, callB_len_l, callB_len_tup, isi_int_int, isi_int_bool, isi_bool_bool, isi_bool_int, if_true, List.map_cons, List.map_nil, Int.toNat_natCast, List.length_cons, List.length_nil, List.replicate_succ, List.replicate_zero, List.cons_append, List.nil_append, Nat.sub_self, Nat.reduceSub, Nat.reduceAdd, ite_at, Bool.not_true, Bool.not_false, decide_true, decide_false, Bool.false_eq_true, if_false, reduceIte, fldE_mk, ev_fld, sfldS_mk, ev_setF, ev_putD_nil, ev_putD, methE_mk, ev_meth, augFS_mk, ev_aug, ev_len, ev_len2, len2_clst, len2_l, len2_tup, ev_list, ev_list2, list_tup, list_clst, list_l, list2_tup, list2_l, list2_clst, ev_tuple, tuple_tup, bTuple_l, ev_cut, ev_idx, ev_idxT, ev_idxL, ev_idxC, subS_mk, ev_subs, subs_l, subs_tup, subs_clst, subs_str, key_int, key_str, ev_getK_nil, ev_getK, ev_put, ev_src, ev_append, ev_extend, listOfM_l, ev_listOfM, listOf_l, listOf_clst, ev_listOf, ev_clear, chk_list, chk_str, chk_dic, dgetE_mk, dgetM_ev, dget2E_mk, dget2M_ev, ev_dget, ev_dgetY, ev_dget2Y, dpopE_mk, get_set_ne', get_set_is, get_app_is, get_new, ite_lt, ite_le, at_0, at_1, at_2, at_3, at_4, at_end, tupG_mk, tupG_mk', consG_mk, nilG_mk, sne, sbne, beq_self_eq_true, List.lookup_cons, List.lookup_nil, List.mem_cons, List.not_mem_nil, or_false, false_or, true_or, or_true, and_true, true_and, and_false, false_and, eq_self, Option.isSome_some, Option.isSome_none, Option.map_some, Option.map_none, opIs_nn, opIs_ni, opIsNot_nn, opIsNot_ni, opIsB_b, opIsNotB_b, opMul_l, opMul_r, opEq_b, opNe_b, bMax2_i, bMin2_i, List.map_cons, Sum.inl.injEq, Sum.inr.injEq, isi_l_list, isi_tup_tup, List.length_set, decide_eq_true_eq, negE_mk, Nat.reduceLT, Nat.reduceLeDiff, Nat.reduceEqDiff, Nat.reduceMul, Int.reduceLT, Int.reduceLE, Int.reduceEq, Int.reduceAdd, Int.reduceSub, Int.reduceMul, Int.reduceNeg, Int.reduceToNat, Int.reducePow, Nat.reducePow, Int.reduceMod, Int.reduceDiv, reduceCtorEq, ite_true, List.nil_append, Nat.reduceBEq, isXE_mk, ev_isX, xfE_mk, ev_xf, raiseS_mk, raiseFS_mk, excM_mk, goneF_nxt, goneF_ret, opMulX_i, ev_addRL, ev_addLR, ev_addRR, ite_le2, opAdd_s, opAdd_t, chainE_mk, chainR_b, ev_isl, andE_mk, orE_mk, notE_mk, is_non_int, is_non_bool, is_non_str, is_non_list, is_non_tuple, is_bl_int, is_bl_bool, is_bl_str, is_bl_list, is_bl_tuple, is_int_int, is_int_bool, is_int_str, is_int_list, is_int_tuple, is_str_int, is_str_bool, is_str_str, is_str_list, is_str_tuple, is_tup_int, is_tup_bool, is_tup_str, is_tup_list, is_tup_tuple, is_l_int, is_l_bool, is_l_str, is_l_list, is_l_tuple, unpG_tup, unpG_ref, opEq_s, opNe_s, len2_str, leX_ss, seqIX_mk, srcX_str, ↓toBT, ↓toWT, bt_ok, bt_bt, wt_bt, wt_okM, wt_ok, wt_exc, wt_ite, wt_lift, wt_make, wt_try, hD, hp, hat1, hM0, hn, hg] <;> try simp -implicitDefEqProofs only [bt_eq, wt_eq])
    refine wp_call (o0 h hc (n := n) (by omega)) ?_
    rintro d m1 ⟨rfl, ⟨L1, hL1⟩, _, w1⟩
    (simp -implicitDefEqProofs (maxSteps := 2000000) (disch := (first | omega | decide +kernel | (simp only [isSome_set, isSome_app, isSome_new, Option.isSome_some, *]; done) | (simp only [isSome_lt, List.length_set, List.length_append, List.length_cons, List.length_nil, decide_eq_true_eq]; omega))) only [seqS_mk, asgS_mk, ifS_mk, retS_mk, retNS_mk, skipS_mk, dropS_mk, brkS_mk, cntS_mk, forS_mk, seqI_mk, matE_mk, callF_mk, callB_mk, consA_mk, nilA_mk, consT_mk, nilT_mk, tvs_mk, binE_mk, varE_0, varE_s, kE_mk, set_0, set_s, nmG_mk, lstE_mk, tupE_mk, bT_mk, tstT_mk, notT_mk, andT_mk, orT_mk, yesT_mk, andE_mk, orE_mk, notE_mk, ifE_mk, negE_mk, sliceE_mk, noP_mk, intP_mk, bmE_mk, bmE0_mk, isiB_mk, lcE_mk, lcT_mk, wipeE_nil, wipeE_cons, liftF_ok, matD_d, matD_l, boolT_mk, truthM_bl, truthM_int, truthM_non, opAdd_i, opSub_i, opLt_i, opLe_i, opGt_i, opGe_i, opEq_i, opNe_i, opMod_p, opDiv_p, seqSrc_l, seqSrc_clst, seqSrc_tup, ofL_n, ofR_n, opCut_l, opCut_tup, opCut_clst, callB_len_clst, callB_len_l, callB_len_tup, isi_int_int, isi_int_bool, isi_bool_bool, isi_bool_int, if_true, List.map_cons, List.map_nil, Int.toNat_natCast, List.length_cons, List.length_nil, List.replicate_succ, List.replicate_zero, List.cons_append, List.nil_append, Nat.sub_self, Nat.reduceSub, Nat.reduceAdd, ite_at, Bool.not_true, Bool.not_false, decide_true, decide_false, Bool.false_eq_true, if_false, reduceIte, fldE_mk, ev_fld, sfldS_mk, ev_setF, ev_putD_nil, ev_putD, methE_mk, ev_meth, augFS_mk, ev_aug, ev_len, ev_len2, len2_clst, len2_l, len2_tup, ev_list, ev_list2, list_tup, list_clst, list_l, list2_tup, list2_l, list2_clst, ev_tuple, tuple_tup, bTuple_l, ev_cut, ev_idx, ev_idxT, ev_idxL, ev_idxC, subS_mk, ev_subs, subs_l, subs_tup, subs_clst, subs_str, key_int, key_str, ev_getK_nil, ev_getK, ev_put, ev_src, ev_append, ev_extend, listOfM_l, ev_listOfM, listOf_l, listOf_clst, ev_listOf, ev_clear, chk_list, chk_str, chk_dic, dgetE_mk, dgetM_ev, dget2E_mk, dget2M_ev, ev_dget, ev_dgetY, ev_dget2Y, dpopE_mk, get_set_ne', get_set_is, get_app_is, get_new, ite_lt, ite_le, at_0, at_1, at_2, at_3, at_4, at_end, tupG_mk, tupG_mk', consG_mk, nilG_mk, sne, sbne, beq_self_eq_true, List.lookup_cons, List.lookup_nil, List.mem_cons, List.not_mem_nil, or_false, false_or, true_or, or_true, and_true, true_and, and_false, false_and, eq_self, Option.isSome_some, Option.isSome_none, Option.map_some, Option.map_none, opIs_nn, opIs_ni, opIsNot_nn, opIsNot_ni, opIsB_b, opIsNotB_b, opMul_l, opMul_r, opEq_b, opNe_b, bMax2_i, bMin2_i, List.map_cons, Sum.inl.injEq, Sum.inr.injEq, isi_l_list, isi_tup_tup, List.length_set, decide_eq_true_eq, negE_mk, Nat.reduceLT, Nat.reduceLeDiff, Nat.reduceEqDiff, Nat.reduceMul, Int.reduceLT, Int.reduceLE, Int.reduceEq, Int.reduceAdd, Int.reduceSub, Int.reduceMul, Int.reduceNeg, Int.reduceToNat, Int.reducePow, Nat.reducePow, Int.reduceMod, Int.reduceDiv, reduceCtorEq, ite_true, List.nil_append, Nat.reduceBEq, isXE_mk, ev_isX, xfE_mk, ev_xf, raiseS_mk, raiseFS_mk, excM_mk, goneF_nxt, goneF_ret, opMulX_i, ev_addRL, ev_addLR, ev_addRR, ite_le2, opAdd_s, opAdd_t, chainE_mk, chainR_b, ev_isl, andE_mk, orE_mk, notE_mk, is_non_int, is_non_bool, is_non_str, is_non_list, is_non_tuple, is_bl_int, is_bl_bool, is_bl_str, is_bl_list, is_bl_tuple, is_int_int, is_int_bool, is_int_str, is_int_list, is_int_tuple, is_str_int, is_str_bool, is_str_str, is_str_list, is_str_tuple, is_tup_int, is_tup_bool, is_tup_str, is_tup_list, is_tup_tuple, is_l_int, is_l_bool, is_l_str, is_l_list, is_l_tuple, unpG_tup, unpG_ref, opEq_s, opNe_s, len2_str, leX_ss, seqIX_mk, srcX_str, ↓toBT, ↓toWT, bt_ok, bt_bt, wt_bt, wt_okM, wt_ok, wt_exc, wt_ite, wt_lift, wt_make, wt_try, hL1] <;> try simp -implicitDefEqProofs only [bt_eq, wt_eq])
    refine wp_call w1 ?_
    rintro d m2 ⟨rfl, hne, L, hL, hle, hfin⟩
    have hlt : L.length < 16777216 := by omega
    obtain ⟨lu', Y, hPr, q1, q2, q3, q4⟩ := hfin (.lst (L ++ [.int 1]))
    have fin : After m X G kd lu Lr Lk pl c (m2.set m.length (.lst (L ++ [.int 1]))) := by
      obtain ⟨kv1, gg⟩ := hPr.g
      obtain ⟨kv2, jj⟩ := hPr.j
      exact ⟨lu', Y, _, _, ⟨⟨_, gg.mono (by omega)⟩, ⟨_, jj.mono (by omega)⟩, hPr.R, hPr.X, hPr.n1, hPr.n2⟩, q1, q2, q3, q4⟩
    obtain ⟨m3, hm3⟩ : ∃ m3, m3 = m2.set m.length (.lst (L ++ [.int 1])) := ⟨_, rfl⟩
    rw [← hm3] at fin
    (simp -implicitDefEqProofs (maxSteps := 2000000) (disch := (first | omega | decide +kernel | (simp only [isSome_set, isSome_app, isSome_new, Option.isSome_some, *]; done) | (simp only [isSome_lt, List.length_set, List.length_append, List.length_cons, List.length_nil, decide_eq_true_eq]; omega))) only [seqS_mk, asgS_mk, ifS_mk, retS_mk, retNS_mk, skipS_mk, dropS_mk, brkS_mk, cntS_mk, forS_mk, seqI_mk, matE_mk, callF_mk, callB_mk, consA_mk, nilA_mk, consT_mk, nilT_mk, tvs_mk, binE_mk, varE_0, varE_s, kE_mk, set_0, set_s, nmG_mk, lstE_mk, tupE_mk, bT_mk, tstT_mk, notT_mk, andT_mk, orT_mk, yesT_mk, andE_mk, orE_mk, notE_mk, ifE_mk, negE_mk, sliceE_mk, noP_mk, intP_mk, bmE_mk, bmE0_mk, isiB_mk, lcE_mk, lcT_mk, wipeE_nil, wipeE_cons, liftF_ok, matD_d, matD_l, boolT_mk, truthM_bl, truthM_int, truthM_non, opAdd_i, opSub_i, opLt_i, opLe_i, opGt_i, opGe_i, opEq_i, opNe_i, opMod_p, opDiv_p, seqSrc_l, seqSrc_clst, seqSrc_tup, ofL_n, ofR_n, opCut_l, opCut_tup, opCut_clst, callB_len_clst, callB_len_l, callB_len_tup, isi_int_int, isi_int_bool, isi_bool_bool, isi_bool_int, if_true, List.map_cons, List.map_nil, Int.toNat_natCast, List.length_cons, List.length_nil, List.replicate_succ, List.replicate_zero, List.cons_append, List.nil_append, Nat.sub_self, Nat.reduceSub, Nat.reduceAdd, ite_at, Bool.not_true, Bool.not_false, decide_true, decide_false, Bool.false_eq_true, if_false, reduceIte, fldE_mk, ev_fld, sfldS_mk, ev_setF, ev_putD_nil, ev_putD, methE_mk, ev_meth, augFS_mk, ev_aug, ev_len, ev_len2, len2_clst, len2_l, len2_tup, ev_list, ev_list2, list_tup, list_clst, list_l, list2_tup, list2_l, list2_clst, ev_tuple, tuple_tup, bTuple_l, ev_cut, ev_idx, ev_idxT, ev_idxL, ev_idxC, subS_mk, ev_subs, subs_l, subs_tup, subs_clst, subs_str, key_int, key_str, ev_getK_nil, ev_getK, ev_put, ev_src, ev_append, ev_extend, listOfM_l, ev_listOfM, listOf_l, listOf_clst, ev_listOf, ev_clear, chk_list, chk_str, chk_dic, dgetE_mk, dgetM_ev, dget2E_mk, dget2M_ev, ev_dget, ev_dgetY, ev_dget2Y, dpopE_mk, get_set_ne', get_set_is, get_app_is, get_new, ite_lt, ite_le, at_0, at_1, at_2, at_3, at_4, at_end, tupG_mk, tupG_mk', consG_mk, nilG_mk, sne, sbne, beq_self_eq_true, List.lookup_cons, List.lookup_nil, List.mem_cons, List.not_mem_nil, or_false, false_or, true_or, or_true, and_true, true_and, and_false, false_and, eq_self, Option.isSome_some, Option.isSome_none, Option.map_some, Option.map_none, opIs_nn, opIs_ni, opIsNot_nn, opIsNot_ni, opIsB_b, opIsNotB_b, opMul_l, opMul_r, opEq_b, opNe_b, bMax2_i, bMin2_i, List.map_cons, Sum.inl.injEq, Sum.inr.injEq, isi_l_list, isi_tup_tup, List.length_set, decide_eq_true_eq, negE_mk, Nat.reduceLT, Nat.reduceLeDiff, Nat.reduceEqDiff, Nat.reduceMul, Int.reduceLT, Int.reduceLE, Int.reduceEq, Int.reduceAdd, Int.reduceSub, Int.reduceMul, Int.reduceNeg, Int.reduceToNat, Int.reducePow, Nat.reducePow, Int.reduceMod, Int.reduceDiv, reduceCtorEq, ite_true, List.nil_append, Nat.reduceBEq, isXE_mk, ev_isX, xfE_mk, ev_xf, raiseS_mk, raiseFS_mk, excM_mk, goneF_nxt, goneF_ret, opMulX_i, ev_addRL, ev_addLR, ev_addRR, ite_le2, opAdd_s, opAdd_t, chainE_mk, chainR_b, ev_isl, andE_mk, orE_mk, notE_mk, is_non_int, is_non_bool, is_non_str, is_non_list, is_non_tuple, is_bl_int, is_bl_bool, is_bl_str, is_bl_list, is_bl_tuple, is_int_int, is_int_bool, is_int_str, is_int_list, is_int_tuple, is_str_int, is_str_bool, is_str_str, is_str_list, is_str_tuple, is_tup_int, is_tup_bool, is_tup_str, is_tup_list, is_tup_tuple, is_l_int, is_l_bool, is_l_str, is_l_list, is_l_tuple, unpG_tup, unpG_ref, opEq_s, opNe_s, len2_str, leX_ss, seqIX_mk, srcX_str, ↓toBT, ↓toWT, bt_ok, bt_bt, wt_bt, wt_okM, wt_ok, wt_exc, wt_ite, wt_lift, wt_make, wt_try, hne, hL, hlt, hm3.symm] <;> try simp -implicitDefEqProofs only [bt_eq, wt_eq])
    first
    | exact fin
    | exact ⟨rfl, fin⟩
end
end Law

set_option maxHeartbeats 1000000
namespace Law
open PySem L2 Mir
/-! ### two gates -/
structure Two (m : Mem) (Z : List (Nat × O)) (g0 k0 r0 l0 g1 k1 r1 l1 : Nat) (p0 p1 : Int) (c : Nat) : Prop where
  ex : ∃ X lu0 lu1 row0 f0 row1 f1, Pr m X g0 k0 lu0 r0 l0 p0 row0 f0 c ∧ Pr m X g1 k1 lu1 r1 l1 p1 row1 f1 c ∧ (∀ a ∈ [g0, k0, lu0, r0, l0], a ∉ [g1, k1, lu1, r1, l1]) ∧ ∀ z ∈ Z, m[z.1]? = some z.2 ∧ z.1 ∉ [g0, k0, lu0, r0, l0] ∧ z.1 ∉ [g1, k1, lu1, r1, l1]
section
variable {m m' : Mem} {Z : List (Nat × O)} {g0 k0 r0 l0 g1 k1 r1 l1 : Nat} {p0 p1 : Int} {c : Nat}
theorem Two.swap (h : Two m Z g0 k0 r0 l0 g1 k1 r1 l1 p0 p1 c) : Two m Z g1 k1 r1 l1 g0 k0 r0 l0 p1 p0 c := by
  obtain ⟨X, lu0, lu1, row0, f0, row1, f1, a, b, d, z⟩ := h.ex
  exact ⟨X, lu1, lu0, row1, f1, row0, f0, b, a, fun x hx hy => d x hy hx, fun y hy => ⟨(z y hy).1, (z y hy).2.2, (z y hy).2.1⟩⟩
theorem Two.ext (h : Two m Z g0 k0 r0 l0 g1 k1 r1 l1 p0 p1 c) (e : Ext m m') : Two m' Z g0 k0 r0 l0 g1 k1 r1 l1 p0 p1 c := by
  obtain ⟨X, lu0, lu1, row0, f0, row1, f1, a, b, d, z⟩ := h.ex
  exact ⟨X, lu0, lu1, row0, f0, row1, f1, a.ext e, b.ext e, d, fun y hy => ⟨e.2 _ _ (z y hy).1, (z y hy).2⟩⟩
theorem Two.at (h : Two m Z g0 k0 r0 l0 g1 k1 r1 l1 p0 p1 c) {i : Nat} {o : O} (hz : (i, o) ∈ Z) : m[i]? = some o := by
  obtain ⟨X, lu0, lu1, row0, f0, row1, f1, a, b, d, z⟩ := h.ex
  exact (z _ hz).1
/-- one of them has changed -/
theorem two_next {X : List Nat} {lu0 lu1 lu' : Nat} {row0 row1 row' : List Nat} {f0 f1 f' : Nat → List D} {Y : List Nat} {c' : Nat} (hc : c ≤ c')
    (a : Pr m X g0 k0 lu0 r0 l0 p0 row0 f0 c) (b : Pr m X g1 k1 lu1 r1 l1 p1 row1 f1 c) (d : ∀ x ∈ [g0, k0, lu0, r0, l0], x ∉ [g1, k1, lu1, r1, l1]) (z : ∀ z ∈ Z, m[z.1]? = some z.2 ∧ z.1 ∉ [g0, k0, lu0, r0, l0] ∧ z.1 ∉ [g1, k1, lu1, r1, l1])
    (h : Pr m' Y g0 k0 lu' r0 l0 p0 row' f' c') (hs : ∀ x ∈ X, x ∈ Y) (hY : ∀ y ∈ Y, y ∈ X ∨ m.length ≤ y) (hl : lu' = lu0 ∨ m.length ≤ lu') (fr : Frm [g0, k0, lu0, r0, l0] m m') :
    Pr m' Y g1 k1 lu1 r1 l1 p1 row1 f1 c' ∧ (∀ x ∈ [g0, k0, lu', r0, l0], x ∉ [g1, k1, lu1, r1, l1]) ∧ ∀ z ∈ Z, m'[z.1]? = some z.2 ∧ z.1 ∉ [g0, k0, lu', r0, l0] ∧ z.1 ∉ [g1, k1, lu1, r1, l1] := by
  obtain ⟨kv0, ga⟩ := a.g
  obtain ⟨kv1, ja⟩ := a.j
  obtain ⟨kv2, gb⟩ := b.g
  obtain ⟨kv3, jb⟩ := b.j
  have d' : ∀ x ∈ [g1, k1, lu1, r1, l1], x ∉ [g0, k0, lu0, r0, l0] := fun x hx hy => d x hy hx
  have hJ : ∀ x ∈ [g0, k0, lu0, r0, l0], x ∈ Y := by
    simp only [List.mem_cons, List.not_mem_nil, or_false]
    rintro x (rfl | rfl | rfl | rfl | rfl)
    · exact hs _ ga.gx
    · exact hs _ ga.dx
    · exact hs _ ga.lx
    · exact hs _ ja.lx
    · exact hs _ ja.kx
  have hlt : ∀ x ∈ [g1, k1, lu1, r1, l1], x < m.length := by
    simp only [List.mem_cons, List.not_mem_nil, or_false]
    rintro x (rfl | rfl | rfl | rfl | rfl)
    · exact b.X _ gb.gx
    · exact b.X _ gb.dx
    · exact b.X _ gb.lx
    · exact b.X _ jb.lx
    · exact b.X _ jb.kx
  have new : ∀ x ∈ [g0, k0, lu', r0, l0], x ∈ [g0, k0, lu0, r0, l0] ∨ m.length ≤ x := by
    simp only [List.mem_cons, List.not_mem_nil, or_false]
    rintro x (rfl | rfl | rfl | rfl | rfl)
    · exact .inl (by simp)
    · exact .inl (by simp)
    · rcases hl with e | e
      · exact .inl (by simp [e])
      · exact .inr e
    · exact .inl (by simp)
    · exact .inl (by simp)
  refine ⟨⟨⟨_, ((gb.to hY hs).frm fr hJ (d' _ (by simp)) (d' _ (by simp)) (d' _ (by simp))).mono hc⟩, ⟨_, ((jb.to hY hs).frm fr hJ (d' _ (by simp)) (d' _ (by simp))).mono hc⟩, b.R, h.X, b.n1, b.n2⟩, fun x hx hy => ?_, fun y hy => ⟨fr.2 _ _ (z y hy).2.1 (z y hy).1, fun q => ?_, (z y hy).2.2⟩⟩
  · rcases new x hx with q | q
    · exact d x q hy
    · have := hlt x hy; omega
  · rcases new _ q with q | q
    · exact (z y hy).2.1 q
    · have := lt_of (z y hy).1; omega
theorem two_does (h : Two m Z g0 k0 r0 l0 g1 k1 r1 l1 p0 p1 c) (hc : c ≤ 40000) {DS : Nat} {a0 a1 a2 a3 a4 a5 fst : Int} (hD : m[DS]? = some (.lst [.int a0, .int a1, .int a2, .int a3, .int a4, .int a5])) (ha : 0 ≤ a1 ∧ 0 ≤ a2 ∧ 0 ≤ a3 ∧ 0 ≤ a4) :
    wpR (F_law_does [.ref g0, .ref r0, .ref l0, .int p0, .ref DS, .int fst] m) (fun d m' => d = .bl true ∧ Two m' Z g0 k0 r0 l0 g1 k1 r1 l1 p0 p1 (c + 10)) noEx := by
  have q := @does_ok
  generalize F_law_does = FD at *
  obtain ⟨X, lu0, lu1, row0, f0, row1, f1, a, b, d, z⟩ := h.ex
  refine wp_call (q a hc hD ha) ?_
  rintro v m' ⟨rfl, lu', Y, row', f', hp, hs, hY, hl, fr⟩
  obtain ⟨u1, u2, u3⟩ := two_next (by omega) a b d z hp hs hY hl fr
  exact ⟨rfl, Y, lu', lu1, row', f', row1, f1, hp, u1, u2, u3⟩
theorem two_right (h : Two m Z g0 k0 r0 l0 g1 k1 r1 l1 p0 p1 c) : wpR (F_law_right [.ref g0, .ref r0, .ref l0] m) (fun d m' => d = .bl true ∧ Ext m m') noEx := by
  have q := @right_ok
  generalize F_law_right = FD at *
  obtain ⟨X, lu0, lu1, row0, f0, row1, f1, a, b, d, z⟩ := h.ex
  obtain ⟨kv0, ga⟩ := a.g
  obtain ⟨kv1, ja⟩ := a.j
  exact q ga ja a.R a.X
end
/-! ### all is given out -/
def tot (f : Nat → List D) : Nat := (f 0).length + (f 1).length + (f 2).length + (f 3).length + (f 4).length + (f 5).length + (f 6).length + (f 7).length + (f 8).length + (f 9).length + (f 10).length + (f 11).length + (f 12).length + (f 13).length + (f 14).length
theorem tot_out {f : Nat → List D} {p : D} {t : List D} : ∀ {k : Nat}, k < 15 → f k = p :: t → tot (fset f k t) + 1 = tot f
  | 0, _, h | 1, _, h | 2, _, h | 3, _, h | 4, _, h | 5, _, h | 6, _, h | 7, _, h | 8, _, h | 9, _, h | 10, _, h | 11, _, h | 12, _, h | 13, _, h | 14, _, h => by
    simp [tot, fset, h]; try omega
  | _ + 15, hk, _ => by omega
theorem tot_le {pl : Int} {row : List Nat} {f : Nat → List D} (R : RS pl row f) : tot f ≤ 240 := by
  have hp := R.pb
  have := R.fl 0 (by omega)
  have := R.fl 1 (by omega)
  have := R.fl 2 (by omega)
  have := R.fl 3 (by omega)
  have := R.fl 4 (by omega)
  have := R.fl 5 (by omega)
  have := R.fl 6 (by omega)
  have := R.fl 7 (by omega)
  have := R.fl 8 (by omega)
  have := R.fl 9 (by omega)
  have := R.fl 10 (by omega)
  have := R.fl 11 (by omega)
  have := R.fl 12 (by omega)
  have := R.fl 13 (by omega)
  have := R.fl 14 (by omega)
  unfold tot
  omega
theorem len_tot {f : Nat → List D} : ∀ {k : Nat}, k < 15 → (f k).length ≤ tot f
  | 0, _ | 1, _ | 2, _ | 3, _ | 4, _ | 5, _ | 6, _ | 7, _ | 8, _ | 9, _ | 10, _ | 11, _ | 12, _ | 13, _ | 14, _ => by unfold tot; omega
  | _ + 15, h => by omega
theorem out_all {pl : Int} : ∀ (n : Nat) (row : List Nat) (f : Nat → List D), RS pl row f → tot f ≤ n → (outS n row f).2.1 = []
  | n, [], f, _, _ => by rw [outS_nil]
  | 0, k :: rest, f, R, h => by
    have hk := R.rb k (by simp)
    have h1 := len_tot (f := f) hk
    have h2 := (R.fe k hk).1 (by simp)
    exact absurd (List.eq_nil_of_length_eq_zero (by omega)) h2
  | n + 1, k :: rest, f, R, h => by
    have hk := R.rb k (by simp)
    have h2 := (R.fe k hk).1 (by simp)
    obtain ⟨p, t, e⟩ : ∃ p t, f k = p :: t := by
      cases e : f k with
      | nil => exact absurd e h2
      | cons p t => exact ⟨p, t, rfl⟩
    rw [outS_cons e]
    have := tot_out hk e
    exact out_all n _ _ (R.out e) (by omega)
end Law

set_option maxHeartbeats 1000000
namespace Law
open PySem L2 Mir
section
variable {m m' : Mem} {Z : List (Nat × O)} {g0 k0 r0 l0 g1 k1 r1 l1 : Nat} {p0 p1 : Int} {c : Nat} {PL GL RL KL : Nat} {ps gs rs ls : List D} {i : Int}
theorem end_ok (h : Two m Z g0 k0 r0 l0 g1 k1 r1 l1 p0 p1 c) (hc : c ≤ 20000) (zG : (GL, O.lst gs) ∈ Z) (zR : (RL, O.lst rs) ∈ Z) (zK : (KL, O.lst ls) ∈ Z) (h1 : L2.atI gs i = some (.ref g0)) (h2 : L2.atI rs i = some (.ref r0)) (h3 : L2.atI ls i = some (.ref l0)) {x0 x1 x2 x6 x7 x8 : Option D} :
    wpR (m_law_2 [x0, x1, x2, some (.ref GL), some (.ref RL), some (.ref KL), x6, x7, x8, some (.int i)] m) (fun fl m' => fl = .nxt [x0, x1, x2, some (.ref GL), some (.ref RL), some (.ref KL), x6, x7, x8, some (.int i)] ∧ Two m' Z g0 k0 r0 l0 g1 k1 r1 l1 p0 p1 (c + 1005)) noEx := by
  have o0 := @outs_both
  have o1 := @out_ok
  have w0 := @waiting_ok
  unfold m_law_2
  generalize F_Gate_out = FG at *
  generalize F_law_out = FL at *
  generalize F_Gate_waiting = FW at *
  obtain ⟨X, lu0, lu1, row0, f0, row1, f1, a, b, d, z⟩ := h.ex
  have q0 := o0 a (by omega) (n := 1000) (by omega)
  rw [show (((1000 : Nat) : Int)) = 1000 from rfl] at q0
  have hGL := (z _ zG).1
  obtain ⟨kv0, ga⟩ := a.g
  have hg := ga.g
  unfold gate at hg
  dsimp only at hGL
  (simp -implicitDefEqProofs (maxSteps := 2000000) (disch := (first | omega | decide +kernel | (simp only [isSome_set, isSome_app, isSome_new, Option.isSome_some, *]; done) | (simp only [isSome_lt, List.length_set, List.length_append, List.length_cons, List.length_nil, decide_eq_true_eq]; omega))) only [seqS_mk, asgS_mk, ifS_mk, retS_mk, retNS_mk, skipS_mk, dropS_mk, brkS_mk, cntS_mk, forS_mk, seqI_mk, matE_mk, callF_mk, callB_mk, consA_mk, nilA_mk, consT_mk, nilT_mk, tvs_mk, binE_mk, varE_0, varE_s, kE_mk, set_0, set_s, nmG_mk, lstE_mk, tupE_mk, bT_mk, tstT_mk, notT_mk, andT_mk, orT_mk, yesT_mk, andE_mk, orE_mk, notE_mk, ifE_mk, negE_mk, sliceE_mk, noP_mk, intP_mk, bmE_mk, bmE0_mk, isiB_mk, lcE_mk, lcT_mk, wipeE_nil, wipeE_cons, liftF_ok, matD_d, matD_l, boolT_mk, truthM_bl, truthM_int, truthM_non, opAdd_i, opSub_i, opLt_i, opLe_i, opGt_i, opGe_i, opEq_i, opNe_i, opMod_p, opDiv_p, seqSrc_l, seqSrc_clst, seqSrc_tup, ofL_n, ofR_n, opCut_l, opCut_tup, opCut_clst, callB_len_clst, callB_len_l, callB_len_tup, isi_int_int, isi_int_bool, isi_bool_bool, isi_bool_int, if_true, List.map_cons, List.map_nil, Int.toNat_natCast, List.length_cons, List.length_nil, List.replicate_succ, List.replicate_zero, List.cons_append, List.nil_append, Nat.sub_self, Nat.reduceSub, Nat.reduceAdd, ite_at, Bool.not_true, Bool.not_false, decide_true, decide_false, Bool.false_eq_true, if_false, reduceIte, fldE_mk, ev_fld, sfldS_mk, ev_setF, ev_putD_nil, ev_putD, methE_mk, ev_meth, augFS_mk, ev_aug, ev_len, ev_len2, len2_clst, len2_l, len2_tup, ev_list, ev_list2, list_tup, list_clst, list_l, list2_tup, list2_l, list2_clst, ev_tuple, tuple_tup, bTuple_l, ev_cut, ev_idx, ev_idxT, ev_idxL, ev_idxC, subS_mk, ev_subs, subs_l, subs_tup, subs_clst, subs_str, key_int, key_str, ev_getK_nil, ev_getK, ev_put, ev_src, ev_append, ev_extend, listOfM_l, ev_listOfM, listOf_l, listOf_clst, ev_listOf, ev_clear, chk_list, chk_str, chk_dic, dgetE_mk, dgetM_ev, dget2E_mk, dget2M_ev, ev_dget, ev_dgetY, ev_dget2Y, dpopE_mk, get_set_ne', get_set_is, get_app_is, get_new, ite_lt, ite_le, at_0, at_1, at_2, at_3, at_4, at_end, tupG_mk, tupG_mk', consG_mk, nilG_mk, sne, sbne, beq_self_eq_true, List.lookup_cons, List.lookup_nil, List.mem_cons, List.not_mem_nil, or_false, false_or, true_or, or_true, and_true, true_and, and_false, false_and, eq_self, Option.isSome_some, Option.isSome_none, Option.map_some, Option.map_none, opIs_nn, opIs_ni, opIsNot_nn, opIsNot_ni, opIsB_b, opIsNotB_b, opMul_l, opMul_r, opEq_b, opNe_b, bMax2_i, bMin2_i, List.map_cons, Sum.inl.injEq, Sum.inr.injEq, isi_l_list, isi_tup_tup, List.length_set, decide_eq_true_eq, negE_mk, Nat.reduceLT, Nat.reduceLeDiff, Nat.reduceEqDiff, Nat.reduceMul, Int.reduceLT, Int.reduceLE, Int.reduceEq, Int.reduceAdd, Int.reduceSub, Int.reduceMul, Int.reduceNeg, Int.reduceToNat, Int.reducePow, Nat.reducePow, Int.reduceMod, Int.reduceDiv, reduceCtorEq, ite_true, List.nil_append, Nat.reduceBEq, isXE_mk, ev_isX, xfE_mk, ev_xf, raiseS_mk, raiseFS_mk, excM_mk, goneF_nxt, goneF_ret, opMulX_i, ev_addRL, ev_addLR, ev_addRR, ite_le2, opAdd_s, opAdd_t, chainE_mk, chainR_b, ev_isl, andE_mk, orE_mk, notE_mk, is_non_int, is_non_bool, is_non_str, is_non_list, is_non_tuple, is_bl_int, is_bl_bool, is_bl_str, is_bl_list, is_bl_tuple, is_int_int, is_int_bool, is_int_str, is_int_list, is_int_tuple, is_str_int, is_str_bool, is_str_str, is_str_list, is_str_tuple, is_tup_int, is_tup_bool, is_tup_str, is_tup_list, is_tup_tuple, is_l_int, is_l_bool, is_l_str, is_l_list, is_l_tuple, unpG_tup, unpG_ref, opEq_s, opNe_s, len2_str, leX_ss, seqIX_mk, srcX_str, ↓toBT, ↓toWT, bt_ok, bt_bt, wt_bt, wt_okM, wt_ok, wt_exc, wt_ite, wt_lift, wt_make, wt_try, hGL, h1, hg] <;> try simp -implicitDefEqProofs only [bt_eq, wt_eq])
  refine wp_call q0 ?_
  rintro v m1 ⟨rfl, _, fr1, w1⟩
  have hRL1 := fr1.2 _ _ (z _ zR).2.1 (z _ zR).1
  have hKL1 := fr1.2 _ _ (z _ zK).2.1 (z _ zK).1
  dsimp only at hRL1 hKL1
  (simp -implicitDefEqProofs (maxSteps := 2000000) (disch := (first | omega | decide +kernel | (simp only [isSome_set, isSome_app, isSome_new, Option.isSome_some, *]; done) | (simp only [isSome_lt, List.length_set, List.length_append, List.length_cons, List.length_nil, decide_eq_true_eq]; omega))) only [seqS_mk, asgS_mk, ifS_mk, retS_mk, retNS_mk, skipS_mk, dropS_mk, brkS_mk, cntS_mk, forS_mk, seqI_mk, matE_mk, callF_mk, callB_mk, consA_mk, nilA_mk, consT_mk, nilT_mk, tvs_mk, binE_mk, varE_0, varE_s, kE_mk, set_0, set_s, nmG_mk, lstE_mk, tupE_mk, bT_mk, tstT_mk, notT_mk, andT_mk, orT_mk, yesT_mk, andE_mk, orE_mk, notE_mk, ifE_mk, negE_mk, sliceE_mk, noP_mk, intP_mk, bmE_mk, bmE0_mk, isiB_mk, lcE_mk, lcT_mk, wipeE_nil, wipeE_cons, liftF_ok, matD_d, matD_l, boolT_mk, truthM_bl, truthM_int, truthM_non, opAdd_i, opSub_i, opLt_i, opLe_i, opGt_i, opGe_i, opEq_i, opNe_i, opMod_p, opDiv_p, seqSrc_l, seqSrc_clst, seqSrc_tup, ofL_n, ofR_n, opCut_l, opCut_tup, opCut_clst, callB_len_clst, callB_len_l, callB_len_tup, isi_int_int, isi_int_bool, isi_bool_bool, isi_bool_int, if_true, List.map_cons, List.map_nil, Int.toNat_natCast, List.length_cons, List.length_nil, List.replicate_succ, List.replicate_zero, List.cons_append, List.nil_append, Nat.sub_self, Nat.reduceSub, Nat.reduceAdd, ite_at, Bool.not_true, Bool.not_false, decide_true, decide_false, Bool.false_eq_true, if_false, reduceIte, fldE_mk, ev_fld, sfldS_mk, ev_setF, ev_putD_nil, ev_putD, methE_mk, ev_meth, augFS_mk, ev_aug, ev_len, ev_len2, len2_clst, len2_l, len2_tup, ev_list, ev_list2, list_tup, list_clst, list_l, list2_tup, list2_l, list2_clst, ev_tuple, tuple_tup, bTuple_l, ev_cut, ev_idx, ev_idxT, ev_idxL, ev_idxC, subS_mk, ev_subs, subs_l, subs_tup, subs_clst, subs_str, key_int, key_str, ev_getK_nil, ev_getK, ev_put, ev_src, ev_append, ev_extend, listOfM_l, ev_listOfM, listOf_l, listOf_clst, ev_listOf, ev_clear, chk_list, chk_str, chk_dic, dgetE_mk, dgetM_ev, dget2E_mk, dget2M_ev, ev_dget, ev_dgetY, ev_dget2Y, dpopE_mk, get_set_ne', get_set_is, get_app_is, get_new, ite_lt, ite_le, at_0, at_1, at_2, at_3, at_4, at_end, tupG_mk, tupG_mk', consG_mk, nilG_mk, sne, sbne, beq_self_eq_true, List.lookup_cons, List.lookup_nil, List.mem_cons, List.not_mem_nil, or_false, false_or, true_or, or_true, and_true, true_and, and_false, false_and, eq_self, Option.isSome_some, Option.isSome_none, Option.map_some, Option.map_none, opIs_nn, opIs_ni, opIsNot_nn, opIsNot_ni, opIsB_b, opIsNotB_b, opMul_l, opMul_r, opEq_b, opNe_b, bMax2_i, bMin2_i, List.map_cons, Sum.inl.injEq, Sum.inr.injEq, isi_l_list, isi_tup_tup, List.length_set, decide_eq_true_eq, negE_mk, Nat.reduceLT, Nat.reduceLeDiff, Nat.reduceEqDiff, Nat.reduceMul, Int.reduceLT, Int.reduceLE, Int.reduceEq, Int.reduceAdd, Int.reduceSub, Int.reduceMul, Int.reduceNeg, Int.reduceToNat, Int.reducePow, Nat.reducePow, Int.reduceMod, Int.reduceDiv, reduceCtorEq, ite_true, List.nil_append, Nat.reduceBEq, isXE_mk, ev_isX, xfE_mk, ev_xf, raiseS_mk, raiseFS_mk, excM_mk, goneF_nxt, goneF_ret, opMulX_i, ev_addRL, ev_addLR, ev_addRR, ite_le2, opAdd_s, opAdd_t, chainE_mk, chainR_b, ev_isl, andE_mk, orE_mk, notE_mk, is_non_int, is_non_bool, is_non_str, is_non_list, is_non_tuple, is_bl_int, is_bl_bool, is_bl_str, is_bl_list, is_bl_tuple, is_int_int, is_int_bool, is_int_str, is_int_list, is_int_tuple, is_str_int, is_str_bool, is_str_str, is_str_list, is_str_tuple, is_tup_int, is_tup_bool, is_tup_str, is_tup_list, is_tup_tuple, is_l_int, is_l_bool, is_l_str, is_l_list, is_l_tuple, unpG_tup, unpG_ref, opEq_s, opNe_s, len2_str, leX_ss, seqIX_mk, srcX_str, ↓toBT, ↓toWT, bt_ok, bt_bt, wt_bt, wt_okM, wt_ok, wt_exc, wt_ite, wt_lift, wt_make, wt_try, hRL1, hKL1, h2, h3] <;> try simp -implicitDefEqProofs only [bt_eq, wt_eq])
  refine wp_call w1 ?_
  rintro v m2 ⟨rfl, hne, L, hL, hle, hfin⟩
  obtain ⟨lu', Y, hp, hs, hY, hl, fr⟩ := hfin (.lst L)
  rw [set_same hL] at hp fr
  obtain ⟨u1, u2, u3⟩ := two_next (by omega) a b d z hp hs hY hl fr
  have hrow : (outS 1000 row0 f0).2.1 = [] := out_all 1000 row0 f0 a.R (Nat.le_trans (tot_le a.R) (by omega))
  rw [hrow] at hp
  generalize (outS 1000 row0 f0).2.2 = f2 at *
  obtain ⟨kv2, g2⟩ := hp.g
  obtain ⟨kv3, j2⟩ := hp.j
  obtain ⟨ap1, ap2⟩ := hp.apart
  have hGL2 := (u3 _ zG).1
  have hg2 := g2.g
  unfold gate at hg2
  dsimp only at hGL2
  have q1 := o1 g2 hp.R hp.X (by omega) (n := 5) (by omega)
  rw [show (((5 : Nat) : Int)) = 5 from rfl, outS_nil] at q1
  (simp -implicitDefEqProofs (maxSteps := 2000000) (disch := (first | omega | decide +kernel | (simp only [isSome_set, isSome_app, isSome_new, Option.isSome_some, *]; done) | (simp only [isSome_lt, List.length_set, List.length_append, List.length_cons, List.length_nil, decide_eq_true_eq]; omega))) only [seqS_mk, asgS_mk, ifS_mk, retS_mk, retNS_mk, skipS_mk, dropS_mk, brkS_mk, cntS_mk, forS_mk, seqI_mk, matE_mk, callF_mk, callB_mk, consA_mk, nilA_mk, consT_mk, nilT_mk, tvs_mk, binE_mk, varE_0, varE_s, kE_mk, set_0, set_s, nmG_mk, lstE_mk, tupE_mk, bT_mk, tstT_mk, notT_mk, andT_mk, orT_mk, yesT_mk, andE_mk, orE_mk, notE_mk, ifE_mk, negE_mk, sliceE_mk, noP_mk, intP_mk, bmE_mk, bmE0_mk, isiB_mk, lcE_mk, lcT_mk, wipeE_nil, wipeE_cons, liftF_ok, matD_d, matD_l, boolT_mk, truthM_bl, truthM_int, truthM_non, opAdd_i, opSub_i, opLt_i, opLe_i, opGt_i, opGe_i, opEq_i, opNe_i, opMod_p, opDiv_p, seqSrc_l, seqSrc_clst, seqSrc_tup, ofL_n, ofR_n, opCut_l, opCut_tup, opCut_clst, callB_len_clst, callB_len_l, callB_len_tup, isi_int_int, isi_int_bool, isi_bool_bool, isi_bool_int, if_true, List.map_cons, List.map_nil, Int.toNat_natCast, List.length_cons, List.length_nil, List.replicate_succ, List.replicate_zero, List.cons_append, List.nil_append, Nat.sub_self, Nat.reduceSub, Nat.reduceAdd, ite_at, Bool.not_true, Bool.not_false, decide_true, decide_false, Bool.false_eq_true, if_false, reduceIte, fldE_mk, ev_fld, sfldS_mk, ev_setF, ev_putD_nil, ev_putD, methE_mk, ev_meth, augFS_mk, ev_aug, ev_len, ev_len2, len2_clst, len2_l, len2_tup, ev_list, ev_list2, list_tup, list_clst, list_l, list2_tup, list2_l, list2_clst, ev_tuple, tuple_tup, bTuple_l, ev_cut, ev_idx, ev_idxT, ev_idxL, ev_idxC, subS_mk, ev_subs, subs_l, subs_tup, subs_clst, subs_str, key_int, key_str, ev_getK_nil, ev_getK, ev_put, ev_src, ev_append, ev_extend, listOfM_l, ev_listOfM, listOf_l, listOf_clst, ev_listOf, ev_clear, chk_list, chk_str, chk_dic, dgetE_mk, dgetM_ev, dget2E_mk, dget2M_ev, ev_dget, ev_dgetY, ev_dget2Y, dpopE_mk, get_set_ne', get_set_is, get_app_is, get_new, ite_lt, ite_le, at_0, at_1, at_2, at_3, at_4, at_end, tupG_mk, tupG_mk', consG_mk, nilG_mk, sne, sbne, beq_self_eq_true, List.lookup_cons, List.lookup_nil, List.mem_cons, List.not_mem_nil, or_false, false_or, true_or, or_true, and_true, true_and, and_false, false_and, eq_self, Option.isSome_some, Option.isSome_none, Option.map_some, Option.map_none, opIs_nn, opIs_ni, opIsNot_nn, opIsNot_ni, opIsB_b, opIsNotB_b, opMul_l, opMul_r, opEq_b, opNe_b, bMax2_i, bMin2_i, List.map_cons, Sum.inl.injEq, Sum.inr.injEq, isi_l_list, isi_tup_tup, List.length_set, decide_eq_true_eq, negE_mk, Nat.reduceLT, Nat.reduceLeDiff, Nat.reduceEqDiff, Nat.reduceMul, Int.reduceLT, Int.reduceLE, Int.reduceEq, Int.reduceAdd, Int.reduceSub, Int.reduceMul, Int.reduceNeg, Int.reduceToNat, Int.reducePow, Nat.reducePow, Int.reduceMod, Int.reduceDiv, reduceCtorEq, ite_true, List.nil_append, Nat.reduceBEq, isXE_mk, ev_isX, xfE_mk, ev_xf, raiseS_mk, raiseFS_mk, excM_mk, goneF_nxt, goneF_ret, opMulX_i, ev_addRL, ev_addLR, ev_addRR, ite_le2, opAdd_s, opAdd_t, chainE_mk, chainR_b, ev_isl, andE_mk, orE_mk, notE_mk, is_non_int, is_non_bool, is_non_str, is_non_list, is_non_tuple, is_bl_int, is_bl_bool, is_bl_str, is_bl_list, is_bl_tuple, is_int_int, is_int_bool, is_int_str, is_int_list, is_int_tuple, is_str_int, is_str_bool, is_str_str, is_str_list, is_str_tuple, is_tup_int, is_tup_bool, is_tup_str, is_tup_list, is_tup_tuple, is_l_int, is_l_bool, is_l_str, is_l_list, is_l_tuple, unpG_tup, unpG_ref, opEq_s, opNe_s, len2_str, leX_ss, seqIX_mk, srcX_str, ↓toBT, ↓toWT, bt_ok, bt_bt, wt_bt, wt_okM, wt_ok, wt_exc, wt_ite, wt_lift, wt_make, wt_try, hne, hGL2, h1, hg2] <;> try simp -implicitDefEqProofs only [bt_eq, wt_eq])
  refine wp_call q1 ?_
  rintro v m3 ⟨rfl, lu3, Y3, kv4, g3, R3, hF3, hs3, hY3, hX3, hl3, hm3, _, _, fr3, ml3⟩
  dsimp only at g3 R3 hF3
  have hn3 := opNe_nil hF3 (by simp)
  have j3 := (j2.to hY3 (fun x hx => hs3 x (by simp [hx]))).frm fr3 (by simp only [List.mem_cons, List.not_mem_nil, or_false]; rintro x (rfl | rfl) <;> exact hs3 _ (by simp [g2.gx, g2.dx])) (by simp at ap1 ⊢; omega) (by simp at ap2 ⊢; omega)
  have hlr := hp.X _ j2.lx
  have P3 : Pr m3 Y3 g0 k0 lu3 r0 l0 p0 [] f2 (c + 1005) := ⟨⟨_, g3.mono (by omega)⟩, ⟨_, j3.mono (by omega)⟩, R3, hX3, hp.n1, by simp at ap1; omega⟩
  obtain ⟨v1, v2, v3⟩ := two_next (by omega) hp u1 u2 u3 P3 (fun x hx => hs3 x (by simp [hx])) hY3 hl3 (fr3.mono (by simp))
  have T3 : Two m3 Z g0 k0 r0 l0 g1 k1 r1 l1 p0 p1 (c + 1005) := ⟨Y3, lu3, lu1, [], f2, row1, f1, P3, v1, v2, v3⟩
  have hGL3 := (v3 _ zG).1
  have hg3 := g3.g
  unfold gate at hg3
  dsimp only at hGL3
  have w3 := w0 g3
  have T4 := T3.ext (Ext.app m3 [O.lst (List.map kD [])])
  have hn4 := opNe_nil (m := m3 ++ [O.lst (List.map kD [])]) (k := m3.length) get_new (by simp)
  generalize m3 ++ [O.lst (List.map kD [])] = m4 at *
  simp only [List.map_nil, List.length_nil, decide_true, Bool.not_true] at hn3 hn4
  (simp -implicitDefEqProofs (maxSteps := 2000000) (disch := (first | omega | decide +kernel | (simp only [isSome_set, isSome_app, isSome_new, Option.isSome_some, *]; done) | (simp only [isSome_lt, List.length_set, List.length_append, List.length_cons, List.length_nil, decide_eq_true_eq]; omega))) only [seqS_mk, asgS_mk, ifS_mk, retS_mk, retNS_mk, skipS_mk, dropS_mk, brkS_mk, cntS_mk, forS_mk, seqI_mk, matE_mk, callF_mk, callB_mk, consA_mk, nilA_mk, consT_mk, nilT_mk, tvs_mk, binE_mk, varE_0, varE_s, kE_mk, set_0, set_s, nmG_mk, lstE_mk, tupE_mk, bT_mk, tstT_mk, notT_mk, andT_mk, orT_mk, yesT_mk, andE_mk, orE_mk, notE_mk, ifE_mk, negE_mk, sliceE_mk, noP_mk, intP_mk, bmE_mk, bmE0_mk, isiB_mk, lcE_mk, lcT_mk, wipeE_nil, wipeE_cons, liftF_ok, matD_d, matD_l, boolT_mk, truthM_bl, truthM_int, truthM_non, opAdd_i, opSub_i, opLt_i, opLe_i, opGt_i, opGe_i, opEq_i, opNe_i, opMod_p, opDiv_p, seqSrc_l, seqSrc_clst, seqSrc_tup, ofL_n, ofR_n, opCut_l, opCut_tup, opCut_clst, callB_len_clst, callB_len_l, callB_len_tup, isi_int_int, isi_int_bool, isi_bool_bool, isi_bool_int, if_true, List.map_cons, List.map_nil, Int.toNat_natCast, List.length_cons, List.length_nil, List.replicate_succ, List.replicate_zero, List.cons_append, List.nil_append, Nat.sub_self, Nat.reduceSub, Nat.reduceAdd, ite_at, Bool.not_true, Bool.not_false, decide_true, decide_false, Bool.false_eq_true, if_false, reduceIte, fldE_mk, ev_fld, sfldS_mk, ev_setF, ev_putD_nil, ev_putD, methE_mk, ev_meth, augFS_mk, ev_aug, ev_len, ev_len2, len2_clst, len2_l, len2_tup, ev_list, ev_list2, list_tup, list_clst, list_l, list2_tup, list2_l, list2_clst, ev_tuple, tuple_tup, bTuple_l, ev_cut, ev_idx, ev_idxT, ev_idxL, ev_idxC, subS_mk, ev_subs, subs_l, subs_tup, subs_clst, subs_str, key_int, key_str, ev_getK_nil, ev_getK, ev_put, ev_src, ev_append, ev_extend, listOfM_l, ev_listOfM, listOf_l, listOf_clst, ev_listOf, ev_clear, chk_list, chk_str, chk_dic, dgetE_mk, dgetM_ev, dget2E_mk, dget2M_ev, ev_dget, ev_dgetY, ev_dget2Y, dpopE_mk, get_set_ne', get_set_is, get_app_is, get_new, ite_lt, ite_le, at_0, at_1, at_2, at_3, at_4, at_end, tupG_mk, tupG_mk', consG_mk, nilG_mk, sne, sbne, beq_self_eq_true, List.lookup_cons, List.lookup_nil, List.mem_cons, List.not_mem_nil, or_false, false_or, true_or, or_true, and_true, true_and, and_false, false_and, eq_self, Option.isSome_some, Option.isSome_none, Option.map_some, Option.map_none, opIs_nn, opIs_ni, opIsNot_nn, opIsNot_ni, opIsB_b, opIsNotB_b, opMul_l, opMul_r, opEq_b, opNe_b, bMax2_i, bMin2_i, List.map_cons, Sum.inl.injEq, Sum.inr.injEq, isi_l_list, isi_tup_tup, List.length_set, decide_eq_true_eq, negE_mk, Nat.reduceLT, Nat.reduceLeDiff, Nat.reduceEqDiff, Nat.reduceMul, Int.reduceLT, Int.reduceLE, Int.reduceEq, Int.reduceAdd, Int.reduceSub, Int.reduceMul, Int.reduceNeg, Int.reduceToNat, Int.reducePow, Nat.reducePow, Int.reduceMod, Int.reduceDiv, reduceCtorEq, ite_true, List.nil_append, Nat.reduceBEq, isXE_mk, ev_isX, xfE_mk, ev_xf, raiseS_mk, raiseFS_mk, excM_mk, goneF_nxt, goneF_ret, opMulX_i, ev_addRL, ev_addLR, ev_addRR, ite_le2, opAdd_s, opAdd_t, chainE_mk, chainR_b, ev_isl, andE_mk, orE_mk, notE_mk, is_non_int, is_non_bool, is_non_str, is_non_list, is_non_tuple, is_bl_int, is_bl_bool, is_bl_str, is_bl_list, is_bl_tuple, is_int_int, is_int_bool, is_int_str, is_int_list, is_int_tuple, is_str_int, is_str_bool, is_str_str, is_str_list, is_str_tuple, is_tup_int, is_tup_bool, is_tup_str, is_tup_list, is_tup_tuple, is_l_int, is_l_bool, is_l_str, is_l_list, is_l_tuple, unpG_tup, unpG_ref, opEq_s, opNe_s, len2_str, leX_ss, seqIX_mk, srcX_str, ↓toBT, ↓toWT, bt_ok, bt_bt, wt_bt, wt_okM, wt_ok, wt_exc, wt_ite, wt_lift, wt_make, wt_try, hn3, hGL3, h1, hg3, w3, hn4] <;> try simp -implicitDefEqProofs only [bt_eq, wt_eq])
  exact T4
theorem rt_ok (h : Two m Z g0 k0 r0 l0 g1 k1 r1 l1 p0 p1 c) (zG : (GL, O.lst gs) ∈ Z) (zR : (RL, O.lst rs) ∈ Z) (zK : (KL, O.lst ls) ∈ Z) (h1 : L2.atI gs i = some (.ref g0)) (h2 : L2.atI rs i = some (.ref r0)) (h3 : L2.atI ls i = some (.ref l0)) {x0 x1 x2 x6 x7 x8 : Option D} :
    wpR (m_law_0 [x0, x1, x2, some (.ref GL), some (.ref RL), some (.ref KL), x6, x7, x8, some (.int i)] m) (fun fl m' => fl = .nxt [x0, x1, x2, some (.ref GL), some (.ref RL), some (.ref KL), x6, x7, x8, some (.int i)] ∧ Ext m m') noEx := by
  have q := two_right h
  have hGL := h.at zG
  have hRL := h.at zR
  have hKL := h.at zK
  unfold m_law_0
  generalize F_law_right = FD at *
  (simp -implicitDefEqProofs (maxSteps := 2000000) (disch := (first | omega | decide +kernel | (simp only [isSome_set, isSome_app, isSome_new, Option.isSome_some, *]; done) | (simp only [isSome_lt, List.length_set, List.length_append, List.length_cons, List.length_nil, decide_eq_true_eq]; omega))) only [seqS_mk, asgS_mk, ifS_mk, retS_mk, retNS_mk, skipS_mk, dropS_mk, brkS_mk, cntS_mk, forS_mk, seqI_mk, matE_mk, callF_mk, callB_mk, consA_mk, nilA_mk, consT_mk, nilT_mk, tvs_mk, binE_mk, varE_0, varE_s, kE_mk, set_0, set_s, nmG_mk, lstE_mk, tupE_mk, bT_mk, tstT_mk, notT_mk, andT_mk, orT_mk, yesT_mk, andE_mk, orE_mk, notE_mk, ifE_mk, negE_mk, sliceE_mk, noP_mk, intP_mk, bmE_mk, bmE0_mk, isiB_mk, lcE_mk, lcT_mk, wipeE_nil, wipeE_cons, liftF_ok, matD_d, matD_l, boolT_mk, truthM_bl, truthM_int, truthM_non, opAdd_i, opSub_i, opLt_i, opLe_i, opGt_i, opGe_i, opEq_i, opNe_i, opMod_p, opDiv_p, seqSrc_l, seqSrc_clst, seqSrc_tup, ofL_n, ofR_n, opCut_l, opCut_tup, opCut_clst, callB_len_clst, callB_len_l, callB_len_tup, isi_int_int, isi_int_bool, isi_bool_bool, isi_bool_int, if_true, List.map_cons, List.map_nil, Int.toNat_natCast, List.length_cons, List.length_nil, List.replicate_succ, List.replicate_zero, List.cons_append, List.nil_append, Nat.sub_self, Nat.reduceSub, Nat.reduceAdd, ite_at, Bool.not_true, Bool.not_false, decide_true, decide_false, Bool.false_eq_true, if_false, reduceIte, fldE_mk, ev_fld, sfldS_mk, ev_setF, ev_putD_nil, ev_putD, methE_mk, ev_meth, augFS_mk, ev_aug, ev_len, ev_len2, len2_clst, len2_l, len2_tup, ev_list, ev_list2, list_tup, list_clst, list_l, list2_tup, list2_l, list2_clst, ev_tuple, tuple_tup, bTuple_l, ev_cut, ev_idx, ev_idxT, ev_idxL, ev_idxC, subS_mk, ev_subs, subs_l, subs_tup, subs_clst, subs_str, key_int, key_str, ev_getK_nil, ev_getK, ev_put, ev_src, ev_append, ev_extend, listOfM_l, ev_listOfM, listOf_l, listOf_clst, ev_listOf, ev_clear, chk_list, chk_str, chk_dic, dgetE_mk, dgetM_ev, dget2E_mk, dget2M_ev, ev_dget, ev_dgetY, ev_dget2Y, dpopE_mk, get_set_ne', get_set_is, get_app_is, get_new, ite_lt, ite_le, at_0, at_1, at_2, at_3, at_4, at_end, tupG_mk, tupG_mk', consG_mk, nilG_mk, sne, sbne, beq_self_eq_true, List.lookup_cons, List.lookup_nil, List.mem_cons, List.not_mem_nil, or_false, false_or, true_or, or_true, and_true, true_and, and_false, false_and, eq_self, Option.isSome_some, Option.isSome_none, Option.map_some, Option.map_none, opIs_nn, opIs_ni, opIsNot_nn, opIsNot_ni, opIsB_b, opIsNotB_b, opMul_l, opMul_r, opEq_b, opNe_b, bMax2_i, bMin2_i, List.map_cons, Sum.inl.injEq, Sum.inr.injEq, isi_l_list, isi_tup_tup, List.length_set, decide_eq_true_eq, negE_mk, Nat.reduceLT, Nat.reduceLeDiff, Nat.reduceEqDiff, Nat.reduceMul, Int.reduceLT, Int.reduceLE, Int.reduceEq, Int.reduceAdd, Int.reduceSub, Int.reduceMul, Int.reduceNeg, Int.reduceToNat, Int.reducePow, Nat.reducePow, Int.reduceMod, Int.reduceDiv, reduceCtorEq, ite_true, List.nil_append, Nat.reduceBEq, isXE_mk, ev_isX, xfE_mk, ev_xf, raiseS_mk, raiseFS_mk, excM_mk, goneF_nxt, goneF_ret, opMulX_i, ev_addRL, ev_addLR, ev_addRR, ite_le2, opAdd_s, opAdd_t, chainE_mk, chainR_b, ev_isl, andE_mk, orE_mk, notE_mk, is_non_int, is_non_bool, is_non_str, is_non_list, is_non_tuple, is_bl_int, is_bl_bool, is_bl_str, is_bl_list, is_bl_tuple, is_int_int, is_int_bool, is_int_str, is_int_list, is_int_tuple, is_str_int, is_str_bool, is_str_str, is_str_list, is_str_tuple, is_tup_int, is_tup_bool, is_tup_str, is_tup_list, is_tup_tuple, is_l_int, is_l_bool, is_l_str, is_l_list, is_l_tuple, unpG_tup, unpG_ref, opEq_s, opNe_s, len2_str, leX_ss, seqIX_mk, srcX_str, ↓toBT, ↓toWT, bt_ok, bt_bt, wt_bt, wt_okM, wt_ok, wt_exc, wt_ite, wt_lift, wt_make, wt_try, hGL, hRL, hKL, h1, h2, h3] <;> try simp -implicitDefEqProofs only [bt_eq, wt_eq])
  refine wp_call q ?_
  rintro d m1 ⟨rfl, e⟩
  (simp -implicitDefEqProofs (maxSteps := 2000000) (disch := (first | omega | decide +kernel | (simp only [isSome_set, isSome_app, isSome_new, Option.isSome_some, *]; done) | (simp only [isSome_lt, List.length_set, List.length_append, List.length_cons, List.length_nil, decide_eq_true_eq]; omega))) only [seqS_mk, asgS_mk, ifS_mk, retS_mk, retNS_mk, skipS_mk, dropS_mk, brkS_mk, cntS_mk, forS_mk, seqI_mk, matE_mk, callF_mk, callB_mk, consA_mk, nilA_mk, consT_mk, nilT_mk, tvs_mk, binE_mk, varE_0, varE_s, kE_mk, set_0, set_s, nmG_mk, lstE_mk, tupE_mk, bT_mk, tstT_mk, notT_mk, andT_mk, orT_mk, yesT_mk, andE_mk, orE_mk, notE_mk, ifE_mk, negE_mk, sliceE_mk, noP_mk, intP_mk, bmE_mk, bmE0_mk, isiB_mk, lcE_mk, lcT_mk, wipeE_nil, wipeE_cons, liftF_ok, matD_d, matD_l, boolT_mk, truthM_bl, truthM_int, truthM_non, opAdd_i, opSub_i, opLt_i, opLe_i, opGt_i, opGe_i, opEq_i, opNe_i, opMod_p, opDiv_p, seqSrc_l, seqSrc_clst, seqSrc_tup, ofL_n, ofR_n, opCut_l, opCut_tup, opCut_clst, callB_len_clst, callB_len_l, callB_len_tup, isi_int_int, isi_int_bool, isi_bool_bool, isi_bool_int, if_true, List.map_cons, List.map_nil, Int.toNat_natCast, List.length_cons, List.length_nil, List.replicate_succ, List.replicate_zero, List.cons_append, List.nil_append, Nat.sub_self, Nat.reduceSub, Nat.reduceAdd, ite_at, Bool.not_true, Bool.not_false, decide_true, decide_false, Bool.false_eq_true, if_false, reduceIte, fldE_mk, ev_fld, sfldS_mk, ev_setF, ev_putD_nil, ev_putD, methE_mk, ev_meth, augFS_mk, ev_aug, ev_len, ev_len2, len2_clst, len2_l, len2_tup, ev_list, ev_list2, list_tup, list_clst, list_l, list2_tup, list2_l, list2_clst, ev_tuple, tuple_tup, bTuple_l, ev_cut, ev_idx, ev_idxT, ev_idxL, ev_idxC, subS_mk, ev_subs, subs_l, subs_tup, subs_clst, subs_str, key_int, key_str, ev_getK_nil, ev_getK, ev_put, ev_src, ev_append, ev_extend, listOfM_l, ev_listOfM, listOf_l, listOf_clst, ev_listOf, ev_clear, chk_list, chk_str, chk_dic, dgetE_mk, dgetM_ev, dget2E_mk, dget2M_ev, ev_dget, ev_dgetY, ev_dget2Y, dpopE_mk, get_set_ne', get_set_is, get_app_is, get_new, ite_lt, ite_le, at_0, at_1, at_2, at_3, at_4, at_end, tupG_mk, tupG_mk', consG_mk, nilG_mk, sne, sbne, beq_self_eq_true, List.lookup_cons, List.lookup_nil, List.mem_cons, List.not_mem_nil, or_false, false_or, true_or, or_true, and_true, true_and, and_false, false_and, eq_self, Option.isSome_some, Option.isSome_none, Option.map_some, Option.map_none, opIs_nn, opIs_ni, opIsNot_nn, opIsNot_ni, opIsB_b, opIsNotB_b, opMul_l, opMul_r, opEq_b, opNe_b, bMax2_i, bMin2_i, List.map_cons, Sum.inl.injEq, Sum.inr.injEq, isi_l_list, isi_tup_tup, List.length_set, decide_eq_true_eq, negE_mk, Nat.reduceLT, Nat.reduceLeDiff, Nat.reduceEqDiff, Nat.reduceMul, Int.reduceLT, Int.reduceLE, Int.reduceEq, Int.reduceAdd, Int.reduceSub, Int.reduceMul, Int.reduceNeg, Int.reduceToNat, Int.reducePow, Nat.reducePow, Int.reduceMod, Int.reduceDiv, reduceCtorEq, ite_true, List.nil_append, Nat.reduceBEq, isXE_mk, ev_isX, xfE_mk, ev_xf, raiseS_mk, raiseFS_mk, excM_mk, goneF_nxt, goneF_ret, opMulX_i, ev_addRL, ev_addLR, ev_addRR, ite_le2, opAdd_s, opAdd_t, chainE_mk, chainR_b, ev_isl, andE_mk, orE_mk, notE_mk, is_non_int, is_non_bool, is_non_str, is_non_list, is_non_tuple, is_bl_int, is_bl_bool, is_bl_str, is_bl_list, is_bl_tuple, is_int_int, is_int_bool, is_int_str, is_int_list, is_int_tuple, is_str_int, is_str_bool, is_str_str, is_str_list, is_str_tuple, is_tup_int, is_tup_bool, is_tup_str, is_tup_list, is_tup_tuple, is_l_int, is_l_bool, is_l_str, is_l_list, is_l_tuple, unpG_tup, unpG_ref, opEq_s, opNe_s, len2_str, leX_ss, seqIX_mk, srcX_str, ↓toBT, ↓toWT, bt_ok, bt_bt, wt_bt, wt_okM, wt_ok, wt_exc, wt_ite, wt_lift, wt_make, wt_try] <;> try simp -implicitDefEqProofs only [bt_eq, wt_eq])
  exact e
end
end Law

set_option maxHeartbeats 1000000
namespace Law
open PySem L2 Mir
theorem digits_ok (c : Int) (m : Mem) : wpR (F_law_digits [.int c, .int 10007, .int 6] m) (fun d m' => ∃ a0 a1 a2 a3 a4 a5 : Int, d = .ref m.length ∧ (0 ≤ a1 ∧ 0 ≤ a2 ∧ 0 ≤ a3 ∧ 0 ≤ a4) ∧ m' = m ++ [.lst [.int a0, .int a1, .int a2, .int a3, .int a4, .int a5]]) noEx := by
  have h := digits_run c 10007 6 (by omega) (by omega) m
  refine wp_call h ?_
  rintro d m' ⟨L, rfl, hl, hb, rfl⟩
  match L, hl with
  | [a0, a1, a2, a3, a4, a5], _ =>
    exact ⟨a0, a1, a2, a3, a4, a5, rfl, ⟨(hb a1 (by simp)).1, (hb a2 (by simp)).1, (hb a3 (by simp)).1, (hb a4 (by simp)).1⟩, rfl⟩
section
variable {m m' : Mem} {Z : List (Nat × O)} {g0 k0 r0 l0 g1 k1 r1 l1 : Nat} {p0 p1 : Int} {c : Nat} {PL GL RL KL : Nat}
def Zs (PL GL RL KL g0 r0 l0 g1 r1 l1 : Nat) (p0 p1 : Int) : List (Nat × O) := [(PL, .lst [.int p0, .int p1]), (GL, .lst [.ref g0, .ref g1]), (RL, .lst [.ref r0, .ref r1]), (KL, .lst [.ref l0, .ref l1])]
theorem mG : (GL, O.lst [.ref g0, .ref g1]) ∈ Zs PL GL RL KL g0 r0 l0 g1 r1 l1 p0 p1 := by simp [Zs]
theorem mR : (RL, O.lst [.ref r0, .ref r1]) ∈ Zs PL GL RL KL g0 r0 l0 g1 r1 l1 p0 p1 := by simp [Zs]
theorem mK : (KL, O.lst [.ref l0, .ref l1]) ∈ Zs PL GL RL KL g0 r0 l0 g1 r1 l1 p0 p1 := by simp [Zs]
theorem turn_ok (h : Two m (Zs PL GL RL KL g0 r0 l0 g1 r1 l1 p0 p1) g0 k0 r0 l0 g1 k1 r1 l1 p0 p1 c) (hc : c ≤ 40000) {x0 y7 y8 y9 : Option D} {fst cell : Int} :
    wpR (m_law_1 [x0, some (.int fst), some (.ref PL), some (.ref GL), some (.ref RL), some (.ref KL), some (.int cell), y7, y8, y9] m) (fun fl m' => ∃ z7 z8 z9, fl = .nxt [x0, some (.int fst), some (.ref PL), some (.ref GL), some (.ref RL), some (.ref KL), some (.int cell), z7, z8, z9] ∧ Two m' (Zs PL GL RL KL g0 r0 l0 g1 r1 l1 p0 p1) g0 k0 r0 l0 g1 k1 r1 l1 p0 p1 (c + 10)) noEx := by
  have q0 := digits_ok cell m
  have q1 := @two_does
  have q2 := @rt_ok
  unfold m_law_1
  generalize F_law_digits = FD at *
  generalize F_law_does = FO at *
  generalize m_law_0 = B0 at *
  have loop : ∀ (m1 : Mem) (z7 z8 z9 : Option D), Two m1 (Zs PL GL RL KL g0 r0 l0 g1 r1 l1 p0 p1) g0 k0 r0 l0 g1 k1 r1 l1 p0 p1 (c + 10) →
      wpR (loopS (Src.ofL (rngL 0 2)).at_ (nmG 9) B0 ((rngL 0 2).length + 1) 0 [x0, some (.int fst), some (.ref PL), some (.ref GL), some (.ref RL), some (.ref KL), some (.int cell), z7, z8, z9] m1) (fun fl m' => ∃ z7 z8 z9, fl = .nxt [x0, some (.int fst), some (.ref PL), some (.ref GL), some (.ref RL), some (.ref KL), some (.int cell), z7, z8, z9] ∧ Two m' (Zs PL GL RL KL g0 r0 l0 g1 r1 l1 p0 p1) g0 k0 r0 l0 g1 k1 r1 l1 p0 p1 (c + 10)) noEx := fun m1 z7 z8 z9 hT => by
    obtain ⟨I, hI⟩ := opaque_inv fun (i : Nat) (env : Mir.Env) (m' : Mem) => (∃ y, env = [x0, some (.int fst), some (.ref PL), some (.ref GL), some (.ref RL), some (.ref KL), some (.int cell), z7, z8, y]) ∧ Two m' (Zs PL GL RL KL g0 r0 l0 g1 r1 l1 p0 p1) g0 k0 r0 l0 g1 k1 r1 l1 p0 p1 (c + 10)
    refine wp_loop (ds := rngL 0 2) I ((hI _ _ _).2 ⟨⟨_, rfl⟩, hT⟩) (fun i env m' p => rfl) ?_ ?_
    · intro i d env m' hi p
      obtain ⟨hlt, rfl⟩ := rngL_of hi
      obtain ⟨⟨y, rfl⟩, hT'⟩ := (hI _ _ _).1 p
      have st : wpR (B0 [x0, some (.int fst), some (.ref PL), some (.ref GL), some (.ref RL), some (.ref KL), some (.int cell), z7, z8, some (.int (0 + (i : Int)))] m') (fun fl m2 => fl = .nxt [x0, some (.int fst), some (.ref PL), some (.ref GL), some (.ref RL), some (.ref KL), some (.int cell), z7, z8, some (.int (0 + (i : Int)))] ∧ Ext m' m2) noEx := by
        have : i = 0 ∨ i = 1 := by omega
        rcases this with e | e <;> subst e
        · exact q2 hT' mG mR mK rfl rfl rfl
        · exact q2 hT'.swap mG mR mK rfl rfl rfl
      (simp -implicitDefEqProofs (maxSteps := 2000000) (disch := (first | omega | decide +kernel | (simp only [isSome_set, isSome_app, isSome_new, Option.isSome_some, *]; done) | (simp only [isSome_lt, List.length_set, List.length_append, List.length_cons, List.length_nil, decide_eq_true_eq]; omega))) only [seqS_mk, asgS_mk, ifS_mk, retS_mk, retNS_mk, skipS_mk, dropS_mk, brkS_mk, cntS_mk, forS_mk, seqI_mk, matE_mk, callF_mk, callB_mk, consA_mk, nilA_mk, consT_mk, nilT_mk, tvs_mk, binE_mk, varE_0, varE_s, kE_mk, set_0, set_s, nmG_mk, lstE_mk, tupE_mk, bT_mk, tstT_mk, notT_mk, andT_mk, orT_mk, yesT_mk, andE_mk, orE_mk, notE_mk, ifE_mk, negE_mk, sliceE_mk, noP_mk, intP_mk, bmE_mk, bmE0_mk, isiB_mk, lcE_mk, lcT_mk, wipeE_nil, wipeE_cons, liftF_ok, matD_d, matD_l, boolT_mk, truthM_bl, truthM_int, truthM_non, opAdd_i, opSub_i, opLt_i, opLe_i, opGt_i, opGe_i, opEq_i, opNe_i, opMod_p, opDiv_p, seqSrc_l, seqSrc_clst, seqSrc_tup, ofL_n, ofR_n, opCut_l, opCut_tup, opCut_clst, callB_len_clst, callB_len_l, callB_len_tup, isi_int_int, isi_int_bool, isi_bool_bool, isi_bool_int, if_true, List.map_cons, List.map_nil, Int.toNat_natCast, List.length_cons, List.length_nil, List.replicate_succ, List.replicate_zero, List.cons_append, List.nil_append, Nat.sub_self, Nat.reduceSub, Nat.reduceAdd, ite_at, Bool.not_true, Bool.not_false, decide_true, decide_false, Bool.false_eq_true, if_false, reduceIte, fldE_mk, ev_fld, sfldS_mk, ev_setF, ev_putD_nil, ev_putD, methE_mk, ev_meth, augFS_mk, ev_aug, ev_len, ev_len2, len2_clst, len2_l, len2_tup, ev_list, ev_list2, list_tup, list_clst, list_l, list2_tup, list2_l, list2_clst, ev_tuple, tuple_tup, bTuple_l, ev_cut, ev_idx, ev_idxT, ev_idxL, ev_idxC, subS_mk, ev_subs, subs_l, subs_tup, subs_clst, subs_str, key_int, key_str, ev_getK_nil, ev_getK, ev_put, ev_src, ev_append, ev_extend, listOfM_l, ev_listOfM, listOf_l, listOf_clst, ev_listOf, ev_clear, chk_list, chk_str, chk_dic, dgetE_mk, dgetM_ev, dget2E_mk, dget2M_ev, ev_dget, ev_dgetY, ev_dget2Y, dpopE_mk, get_set_ne', get_set_is, get_app_is, get_new, ite_lt, ite_le, at_0, at_1, at_2, at_3, at_4, at_end, tupG_mk, tupG_mk', consG_mk, nilG_mk, sne, sbne, beq_self_eq_true, List.lookup_cons, List.lookup_nil, List.mem_cons, List.not_mem_nil, or_false, false_or, true_or, or_true, and_true, true_and, and_false, false_and, eq_self, Option.isSome_some, Option.isSome_none, Option.map_some, Option.map_none, opIs_nn, opIs_ni, opIsNot_nn, opIsNot_ni, opIsB_b, opIsNotB_b, opMul_l, opMul_r, opEq_b, opNe_b, bMax2_i, bMin2_i, List.map_cons, Sum.inl.injEq, Sum.inr.injEq, isi_l_list, isi_tup_tup, List.length_set, decide_eq_true_eq, negE_mk, Nat.reduceLT, Nat.reduceLeDiff, Nat.reduceEqDiff, Nat.reduceMul, Int.reduceLT, Int.reduceLE, Int.reduceEq, Int.reduceAdd, Int.reduceSub, Int.reduceMul, Int.reduceNeg, Int.reduceToNat, Int.reducePow, Nat.reducePow, Int.reduceMod, Int.reduceDiv, reduceCtorEq, ite_true, List.nil_append, Nat.reduceBEq, isXE_mk, ev_isX, xfE_mk, ev_xf, raiseS_mk, raiseFS_mk, excM_mk, goneF_nxt, goneF_ret, opMulX_i, ev_addRL, ev_addLR, ev_addRR, ite_le2, opAdd_s, opAdd_t, chainE_mk, chainR_b, ev_isl, andE_mk, orE_mk, notE_mk, is_non_int, is_non_bool, is_non_str, is_non_list, is_non_tuple, is_bl_int, is_bl_bool, is_bl_str, is_bl_list, is_bl_tuple, is_int_int, is_int_bool, is_int_str, is_int_list, is_int_tuple, is_str_int, is_str_bool, is_str_str, is_str_list, is_str_tuple, is_tup_int, is_tup_bool, is_tup_str, is_tup_list, is_tup_tuple, is_l_int, is_l_bool, is_l_str, is_l_list, is_l_tuple, unpG_tup, unpG_ref, opEq_s, opNe_s, len2_str, leX_ss, seqIX_mk, srcX_str, ↓toBT, ↓toWT, bt_ok, bt_bt, wt_bt, wt_okM, wt_ok, wt_exc, wt_ite, wt_lift, wt_make, wt_try] <;> try simp -implicitDefEqProofs only [bt_eq, wt_eq])
      refine wp_then st ?_
      rintro fl m2 ⟨rfl, e⟩
      exact (hI _ _ _).2 ⟨⟨_, rfl⟩, hT'.ext e⟩
    · intro env m' p
      obtain ⟨⟨y, rfl⟩, hT'⟩ := (hI _ _ _).1 p
      exact ⟨_, _, _, rfl, hT'⟩
  (simp -implicitDefEqProofs (maxSteps := 2000000) (disch := (first | omega | decide +kernel | (simp only [isSome_set, isSome_app, isSome_new, Option.isSome_some, *]; done) | (simp only [isSome_lt, List.length_set, List.length_append, List.length_cons, List.length_nil, decide_eq_true_eq]; omega))) only [seqS_mk, asgS_mk, ifS_mk, retS_mk, retNS_mk, skipS_mk, dropS_mk, brkS_mk, cntS_mk, forS_mk, seqI_mk, matE_mk, callF_mk, callB_mk, consA_mk, nilA_mk, consT_mk, nilT_mk, tvs_mk, binE_mk, varE_0, varE_s, kE_mk, set_0, set_s, nmG_mk, lstE_mk, tupE_mk, bT_mk, tstT_mk, notT_mk, andT_mk, orT_mk, yesT_mk, andE_mk, orE_mk, notE_mk, ifE_mk, negE_mk, sliceE_mk, noP_mk, intP_mk, bmE_mk, bmE0_mk, isiB_mk, lcE_mk, lcT_mk, wipeE_nil, wipeE_cons, liftF_ok, matD_d, matD_l, boolT_mk, truthM_bl, truthM_int, truthM_non, opAdd_i, opSub_i, opLt_i, opLe_i, opGt_i, opGe_i, opEq_i, opNe_i, opMod_p, opDiv_p, seqSrc_l, seqSrc_clst, seqSrc_tup, ofL_n, ofR_n, opCut_l, opCut_tup, opCut_clst, callB_len_clst, callB_len_l, callB_len_tup, isi_int_int, isi_int_bool, isi_bool_bool, isi_bool_int, if_true, List.map_cons, List.map_nil, Int.toNat_natCast, List.length_cons, List.length_nil, List.replicate_succ, List.replicate_zero, List.cons_append, List.nil_append, Nat.sub_self, Nat.reduceSub, Nat.reduceAdd, ite_at, Bool.not_true, Bool.not_false, decide_true, decide_false, Bool.false_eq_true, if_false, reduceIte, fldE_mk, ev_fld, sfldS_mk, ev_setF, ev_putD_nil, ev_putD, methE_mk, ev_meth, augFS_mk, ev_aug, ev_len, ev_len2, len2_clst, len2_l, len2_tup, ev_list, ev_list2, list_tup, list_clst, list_l, list2_tup, list2_l, list2_clst, ev_tuple, tuple_tup, bTuple_l, ev_cut, ev_idx, ev_idxT, ev_idxL, ev_idxC, subS_mk, ev_subs, subs_l, subs_tup, subs_clst, subs_str, key_int, key_str, ev_getK_nil, ev_getK, ev_put, ev_src, ev_append, ev_extend, listOfM_l, ev_listOfM, listOf_l, listOf_clst, ev_listOf, ev_clear, chk_list, chk_str, chk_dic, dgetE_mk, dgetM_ev, dget2E_mk, dget2M_ev, ev_dget, ev_dgetY, ev_dget2Y, dpopE_mk, get_set_ne', get_set_is, get_app_is, get_new, ite_lt, ite_le, at_0, at_1, at_2, at_3, at_4, at_end, tupG_mk, tupG_mk', consG_mk, nilG_mk, sne, sbne, beq_self_eq_true, List.lookup_cons, List.lookup_nil, List.mem_cons, List.not_mem_nil, or_false, false_or, true_or, or_true, and_true, true_and, and_false, false_and, eq_self, Option.isSome_some, Option.isSome_none, Option.map_some, Option.map_none, opIs_nn, opIs_ni, opIsNot_nn, opIsNot_ni, opIsB_b, opIsNotB_b, opMul_l, opMul_r, opEq_b, opNe_b, bMax2_i, bMin2_i, List.map_cons, Sum.inl.injEq, Sum.inr.injEq, isi_l_list, isi_tup_tup, List.length_set, decide_eq_true_eq, negE_mk, Nat.reduceLT, Nat.reduceLeDiff, Nat.reduceEqDiff, Nat.reduceMul, Int.reduceLT, Int.reduceLE, Int.reduceEq, Int.reduceAdd, Int.reduceSub, Int.reduceMul, Int.reduceNeg, Int.reduceToNat, Int.reducePow, Nat.reducePow, Int.reduceMod, Int.reduceDiv, reduceCtorEq, ite_true, List.nil_append, Nat.reduceBEq, isXE_mk, ev_isX, xfE_mk, ev_xf, raiseS_mk, raiseFS_mk, excM_mk, goneF_nxt, goneF_ret, opMulX_i, ev_addRL, ev_addLR, ev_addRR, ite_le2, opAdd_s, opAdd_t, chainE_mk, chainR_b, ev_isl, andE_mk, orE_mk, notE_mk, is_non_int, is_non_bool, is_non_str, is_non_list, is_non_tuple, is_bl_int, is_bl_bool, is_bl_str, is_bl_list, is_bl_tuple, is_int_int, is_int_bool, is_int_str, is_int_list, is_int_tuple, is_str_int, is_str_bool, is_str_str, is_str_list, is_str_tuple, is_tup_int, is_tup_bool, is_tup_str, is_tup_list, is_tup_tuple, is_l_int, is_l_bool, is_l_str, is_l_list, is_l_tuple, unpG_tup, unpG_ref, opEq_s, opNe_s, len2_str, leX_ss, seqIX_mk, srcX_str, ↓toBT, ↓toWT, bt_ok, bt_bt, wt_bt, wt_okM, wt_ok, wt_exc, wt_ite, wt_lift, wt_make, wt_try] <;> try simp -implicitDefEqProofs only [bt_eq, wt_eq])
  refine wp_call q0 ?_
  rintro d m1 ⟨a0, a1, a2, a3, a4, a5, rfl, ha, hm1⟩
  have hD : m1[m.length]? = some (.lst [.int a0, .int a1, .int a2, .int a3, .int a4, .int a5]) := by rw [hm1]; exact get_new
  have h1 := h.ext (show Ext m m1 by rw [hm1]; exact Ext.app _ _)
  have zP := h1.at (i := PL) (o := .lst [.int p0, .int p1]) (by simp [Zs])
  have zG := h1.at (i := GL) (o := .lst [.ref g0, .ref g1]) (by simp [Zs])
  have zR := h1.at (i := RL) (o := .lst [.ref r0, .ref r1]) (by simp [Zs])
  have zK := h1.at (i := KL) (o := .lst [.ref l0, .ref l1]) (by simp [Zs])
  have at5 : ∀ a b c d e f : D, L2.atI [a, b, c, d, e, f] 5 = some f := fun _ _ _ _ _ _ => rfl
  by_cases e : a5 % 4 = 0
  · have q3 := q1 h1.swap hc (fst := fst) hD ha
    (simp -implicitDefEqProofs (maxSteps := 2000000) (disch := (first | omega | decide +kernel | (simp only [isSome_set, isSome_app, isSome_new, Option.isSome_some, *]; done) | (simp only [isSome_lt, List.length_set, List.length_append, List.length_cons, List.length_nil, decide_eq_true_eq]; omega))) only [seqS_mk, asgS_mk, ifS_mk, retS_mk, retNS_mk, skipS_mk, dropS_mk, brkS_mk, cntS_mk, forS_mk, seqI_mk, matE_mk, callF_mk, callB_mk, consA_mk, nilA_mk, consT_mk, nilT_mk, tvs_mk, binE_mk, varE_0, varE_s, kE_mk, set_0, set_s, nmG_mk, lstE_mk, tupE_mk, bT_mk, tstT_mk, notT_mk, andT_mk, orT_mk, yesT_mk, andE_mk, orE_mk, notE_mk, ifE_mk, negE_mk, sliceE_mk, noP_mk, intP_mk, bmE_mk, bmE0_mk, isiB_mk, lcE_mk, lcT_mk, wipeE_nil, wipeE_cons, liftF_ok, matD_d, matD_l, boolT_mk, truthM_bl, truthM_int, truthM_non, opAdd_i, opSub_i, opLt_i, opLe_i, opGt_i, opGe_i, opEq_i, opNe_i, opMod_p, opDiv_p, seqSrc_l, seqSrc_clst, seqSrc_tup, ofL_n, ofR_n, opCut_l, opCut_tup, opCut_clst, callB_len_clst, callB_len_l, callB_len_tup, isi_int_int, isi_int_bool, isi_bool_bool, isi_bool_int, if_true, List.map_cons, List.map_nil, Int.toNat_natCast, List.length_cons, List.length_nil, List.replicate_succ, List.replicate_zero, List.cons_append, List.nil_append, Nat.sub_self, Nat.reduceSub, Nat.reduceAdd, ite_at, Bool.not_true, Bool.not_false, decide_true, decide_false, Bool.false_eq_true, if_false, reduceIte, fldE_mk, ev_fld, sfldS_mk, ev_setF, ev_putD_nil, ev_putD, methE_mk, ev_meth, augFS_mk, ev_aug, ev_len, ev_len2, len2_clst, len2_l, len2_tup, ev_list, ev_list2, list_tup, list_clst, list_l, list2_tup, list2_l, list2_clst, ev_tuple, tuple_tup, bTuple_l, ev_cut, ev_idx, ev_idxT, ev_idxL, ev_idxC, subS_mk, ev_subs, subs_l, subs_tup, subs_clst, subs_str, key_int, key_str, ev_getK_nil, ev_getK, ev_put, ev_src, ev_append, ev_extend, listOfM_l, ev_listOfM, listOf_l, listOf_clst, ev_listOf, ev_clear, chk_list, chk_str, chk_dic, dgetE_mk, dgetM_ev, dget2E_mk, dget2M_ev, ev_dget, ev_dgetY, ev_dget2Y, dpopE_mk, get_set_ne', get_set_is, get_app_is, get_new, ite_lt, ite_le, at_0, at_1, at_2, at_3, at_4, at_end, tupG_mk, tupG_mk', consG_mk, nilG_mk, sne, sbne, beq_self_eq_true, List.lookup_cons, List.lookup_nil, List.mem_cons, List.not_mem_nil, or_false, false_or, true_or, or_true, and_true, true_and, and_false, false_and, eq_self, Option.isSome_some, Option.isSome_none, Option.map_some, Option.map_none, opIs_nn, opIs_ni, opIsNot_nn, opIsNot_ni, opIsB_b, opIsNotB_b, opMul_l, opMul_r, opEq_b, opNe_b, bMax2_i, bMin2_i, List.map_cons, Sum.inl.injEq, Sum.inr.injEq, isi_l_list, isi_tup_tup, List.length_set, decide_eq_true_eq, negE_mk, Nat.reduceLT, Nat.reduceLeDiff, Nat.reduceEqDiff, Nat.reduceMul, Int.reduceLT, Int.reduceLE, Int.reduceEq, Int.reduceAdd, Int.reduceSub, Int.reduceMul, Int.reduceNeg, Int.reduceToNat, Int.reducePow, Nat.reducePow, Int.reduceMod, Int.reduceDiv, reduceCtorEq, ite_true, List.nil_append, Nat.reduceBEq, isXE_mk, ev_isX, xfE_mk, ev_xf, raiseS_mk, raiseFS_mk, excM_mk, goneF_nxt, goneF_ret, opMulX_i, ev_addRL, ev_addLR, ev_addRR, ite_le2, opAdd_s, opAdd_t, chainE_mk, chainR_b, ev_isl, andE_mk, orE_mk, notE_mk, is_non_int, is_non_bool, is_non_str, is_non_list, is_non_tuple, is_bl_int, is_bl_bool, is_bl_str, is_bl_list, is_bl_tuple, is_int_int, is_int_bool, is_int_str, is_int_list, is_int_tuple, is_str_int, is_str_bool, is_str_str, is_str_list, is_str_tuple, is_tup_int, is_tup_bool, is_tup_str, is_tup_list, is_tup_tuple, is_l_int, is_l_bool, is_l_str, is_l_list, is_l_tuple, unpG_tup, unpG_ref, opEq_s, opNe_s, len2_str, leX_ss, seqIX_mk, srcX_str, ↓toBT, ↓toWT, bt_ok, bt_bt, wt_bt, wt_okM, wt_ok, wt_exc, wt_ite, wt_lift, wt_make, wt_try, hD, e, at5, bInt_b, zP, zG, zR, zK] <;> try simp -implicitDefEqProofs only [bt_eq, wt_eq])
    refine wp_call q3 ?_
    rintro d m2 ⟨rfl, hT⟩
    (simp -implicitDefEqProofs (maxSteps := 2000000) (disch := (first | omega | decide +kernel | (simp only [isSome_set, isSome_app, isSome_new, Option.isSome_some, *]; done) | (simp only [isSome_lt, List.length_set, List.length_append, List.length_cons, List.length_nil, decide_eq_true_eq]; omega))) only [seqS_mk, asgS_mk, ifS_mk, retS_mk, retNS_mk, skipS_mk, dropS_mk, brkS_mk, cntS_mk, forS_mk, seqI_mk, matE_mk, callF_mk, callB_mk, consA_mk, nilA_mk, consT_mk, nilT_mk, tvs_mk, binE_mk, varE_0, varE_s, kE_mk, set_0, set_s, nmG_mk, lstE_mk, tupE_mk, bT_mk, tstT_mk, notT_mk, andT_mk, orT_mk, yesT_mk, andE_mk, orE_mk, notE_mk, ifE_mk, negE_mk, sliceE_mk, noP_mk, intP_mk, bmE_mk, bmE0_mk, isiB_mk, lcE_mk, lcT_mk, wipeE_nil, wipeE_cons, liftF_ok, matD_d, matD_l, boolT_mk, truthM_bl, truthM_int, truthM_non, opAdd_i, opSub_i, opLt_i, opLe_i, opGt_i, opGe_i, opEq_i, opNe_i, opMod_p, opDiv_p, seqSrc_l, seqSrc_clst, seqSrc_tup, ofL_n, ofR_n, opCut_l, opCut_tup, opCut_clst, callB_len_clst, callB_len_l, callB_len_tup, isi_int_int, isi_int_bool, isi_bool_bool, isi_bool_int, if_true, List.map_cons, List.map_nil, Int.toNat_natCast, List.length_cons, List.length_nil, List.replicate_succ, List.replicate_zero, List.cons_append, List.nil_append, Nat.sub_self, Nat.reduceSub, Nat.reduceAdd, ite_at, Bool.not_true, Bool.not_false, decide_true, decide_false, Bool.false_eq_true, if_false, reduceIte, fldE_mk, ev_fld, sfldS_mk, ev_setF, ev_putD_nil, ev_putD, methE_mk, ev_meth, augFS_mk, ev_aug, ev_len, ev_len2, len2_clst, len2_l, len2_tup, ev_list, ev_list2, list_tup, list_clst, list_l, list2_tup, list2_l, list2_clst, ev_tuple, tuple_tup, bTuple_l, ev_cut, ev_idx, ev_idxT, ev_idxL, ev_idxC, subS_mk, ev_subs, subs_l, subs_tup, subs_clst, subs_str, key_int, key_str, ev_getK_nil, ev_getK, ev_put, ev_src, ev_append, ev_extend, listOfM_l, ev_listOfM, listOf_l, listOf_clst, ev_listOf, ev_clear, chk_list, chk_str, chk_dic, dgetE_mk, dgetM_ev, dget2E_mk, dget2M_ev, ev_dget, ev_dgetY, ev_dget2Y, dpopE_mk, get_set_ne', get_set_is, get_app_is, get_new, ite_lt, ite_le, at_0, at_1, at_2, at_3, at_4, at_end, tupG_mk, tupG_mk', consG_mk, nilG_mk, sne, sbne, beq_self_eq_true, List.lookup_cons, List.lookup_nil, List.mem_cons, List.not_mem_nil, or_false, false_or, true_or, or_true, and_true, true_and, and_false, false_and, eq_self, Option.isSome_some, Option.isSome_none, Option.map_some, Option.map_none, opIs_nn, opIs_ni, opIsNot_nn, opIsNot_ni, opIsB_b, opIsNotB_b, opMul_l, opMul_r, opEq_b, opNe_b, bMax2_i, bMin2_i, List.map_cons, Sum.inl.injEq, Sum.inr.injEq, isi_l_list, isi_tup_tup, List.length_set, decide_eq_true_eq, negE_mk, Nat.reduceLT, Nat.reduceLeDiff, Nat.reduceEqDiff, Nat.reduceMul, Int.reduceLT, Int.reduceLE, Int.reduceEq, Int.reduceAdd, Int.reduceSub, Int.reduceMul, Int.reduceNeg, Int.reduceToNat, Int.reducePow, Nat.reducePow, Int.reduceMod, Int.reduceDiv, reduceCtorEq, ite_true, List.nil_append, Nat.reduceBEq, isXE_mk, ev_isX, xfE_mk, ev_xf, raiseS_mk, raiseFS_mk, excM_mk, goneF_nxt, goneF_ret, opMulX_i, ev_addRL, ev_addLR, ev_addRR, ite_le2, opAdd_s, opAdd_t, chainE_mk, chainR_b, ev_isl, andE_mk, orE_mk, notE_mk, is_non_int, is_non_bool, is_non_str, is_non_list, is_non_tuple, is_bl_int, is_bl_bool, is_bl_str, is_bl_list, is_bl_tuple, is_int_int, is_int_bool, is_int_str, is_int_list, is_int_tuple, is_str_int, is_str_bool, is_str_str, is_str_list, is_str_tuple, is_tup_int, is_tup_bool, is_tup_str, is_tup_list, is_tup_tuple, is_l_int, is_l_bool, is_l_str, is_l_list, is_l_tuple, unpG_tup, unpG_ref, opEq_s, opNe_s, len2_str, leX_ss, seqIX_mk, srcX_str, ↓toBT, ↓toWT, bt_ok, bt_bt, wt_bt, wt_okM, wt_ok, wt_exc, wt_ite, wt_lift, wt_make, wt_try] <;> try simp -implicitDefEqProofs only [bt_eq, wt_eq])
    rw [rng1_ok (by omega)]
    (simp -implicitDefEqProofs (maxSteps := 2000000) (disch := (first | omega | decide +kernel | (simp only [isSome_set, isSome_app, isSome_new, Option.isSome_some, *]; done) | (simp only [isSome_lt, List.length_set, List.length_append, List.length_cons, List.length_nil, decide_eq_true_eq]; omega))) only [seqS_mk, asgS_mk, ifS_mk, retS_mk, retNS_mk, skipS_mk, dropS_mk, brkS_mk, cntS_mk, forS_mk, seqI_mk, matE_mk, callF_mk, callB_mk, consA_mk, nilA_mk, consT_mk, nilT_mk, tvs_mk, binE_mk, varE_0, varE_s, kE_mk, set_0, set_s, nmG_mk, lstE_mk, tupE_mk, bT_mk, tstT_mk, notT_mk, andT_mk, orT_mk, yesT_mk, andE_mk, orE_mk, notE_mk, ifE_mk, negE_mk, sliceE_mk, noP_mk, intP_mk, bmE_mk, bmE0_mk, isiB_mk, lcE_mk, lcT_mk, wipeE_nil, wipeE_cons, liftF_ok, matD_d, matD_l, boolT_mk, truthM_bl, truthM_int, truthM_non, opAdd_i, opSub_i, opLt_i, opLe_i, opGt_i, opGe_i, opEq_i, opNe_i, opMod_p, opDiv_p, seqSrc_l, seqSrc_clst, seqSrc_tup, ofL_n, ofR_n, opCut_l, opCut_tup, opCut_clst, callB_len_clst, callB_len_l, callB_len_tup, isi_int_int, isi_int_bool, isi_bool_bool, isi_bool_int, if_true, List.map_cons, List.map_nil, Int.toNat_natCast, List.length_cons, List.length_nil, List.replicate_succ, List.replicate_zero, List.cons_append, List.nil_append, Nat.sub_self, Nat.reduceSub, Nat.reduceAdd, ite_at, Bool.not_true, Bool.not_false, decide_true, decide_false, Bool.false_eq_true, if_false, reduceIte, fldE_mk, ev_fld, sfldS_mk, ev_setF, ev_putD_nil, ev_putD, methE_mk, ev_meth, augFS_mk, ev_aug, ev_len, ev_len2, len2_clst, len2_l, len2_tup, ev_list, ev_list2, list_tup, list_clst, list_l, list2_tup, list2_l, list2_clst, ev_tuple, tuple_tup, bTuple_l, ev_cut, ev_idx, ev_idxT, ev_idxL, ev_idxC, subS_mk, ev_subs, subs_l, subs_tup, subs_clst, subs_str, key_int, key_str, ev_getK_nil, ev_getK, ev_put, ev_src, ev_append, ev_extend, listOfM_l, ev_listOfM, listOf_l, listOf_clst, ev_listOf, ev_clear, chk_list, chk_str, chk_dic, dgetE_mk, dgetM_ev, dget2E_mk, dget2M_ev, ev_dget, ev_dgetY, ev_dget2Y, dpopE_mk, get_set_ne', get_set_is, get_app_is, get_new, ite_lt, ite_le, at_0, at_1, at_2, at_3, at_4, at_end, tupG_mk, tupG_mk', consG_mk, nilG_mk, sne, sbne, beq_self_eq_true, List.lookup_cons, List.lookup_nil, List.mem_cons, List.not_mem_nil, or_false, false_or, true_or, or_true, and_true, true_and, and_false, false_and, eq_self, Option.isSome_some, Option.isSome_none, Option.map_some, Option.map_none, opIs_nn, opIs_ni, opIsNot_nn, opIsNot_ni, opIsB_b, opIsNotB_b, opMul_l, opMul_r, opEq_b, opNe_b, bMax2_i, bMin2_i, List.map_cons, Sum.inl.injEq, Sum.inr.injEq, isi_l_list, isi_tup_tup, List.length_set, decide_eq_true_eq, negE_mk, Nat.reduceLT, Nat.reduceLeDiff, Nat.reduceEqDiff, Nat.reduceMul, Int.reduceLT, Int.reduceLE, Int.reduceEq, Int.reduceAdd, Int.reduceSub, Int.reduceMul, Int.reduceNeg, Int.reduceToNat, Int.reducePow, Nat.reducePow, Int.reduceMod, Int.reduceDiv, reduceCtorEq, ite_true, List.nil_append, Nat.reduceBEq, isXE_mk, ev_isX, xfE_mk, ev_xf, raiseS_mk, raiseFS_mk, excM_mk, goneF_nxt, goneF_ret, opMulX_i, ev_addRL, ev_addLR, ev_addRR, ite_le2, opAdd_s, opAdd_t, chainE_mk, chainR_b, ev_isl, andE_mk, orE_mk, notE_mk, is_non_int, is_non_bool, is_non_str, is_non_list, is_non_tuple, is_bl_int, is_bl_bool, is_bl_str, is_bl_list, is_bl_tuple, is_int_int, is_int_bool, is_int_str, is_int_list, is_int_tuple, is_str_int, is_str_bool, is_str_str, is_str_list, is_str_tuple, is_tup_int, is_tup_bool, is_tup_str, is_tup_list, is_tup_tuple, is_l_int, is_l_bool, is_l_str, is_l_list, is_l_tuple, unpG_tup, unpG_ref, opEq_s, opNe_s, len2_str, leX_ss, seqIX_mk, srcX_str, ↓toBT, ↓toWT, bt_ok, bt_bt, wt_bt, wt_okM, wt_ok, wt_exc, wt_ite, wt_lift, wt_make, wt_try] <;> try simp -implicitDefEqProofs only [bt_eq, wt_eq])
    exact loop m2 _ _ _ hT.swap
  · have q3 := q1 h1 hc (fst := fst) hD ha
    (simp -implicitDefEqProofs (maxSteps := 2000000) (disch := (first | omega | decide +kernel | (simp only [isSome_set, isSome_app, isSome_new, Option.isSome_some, *]; done) | (simp only [isSome_lt, List.length_set, List.length_append, List.length_cons, List.length_nil, decide_eq_true_eq]; omega))) only [seqS_mk, asgS_mk, ifS_mk, retS_mk, retNS_mk, skipS_mk, dropS_mk, brkS_mk, cntS_mk, forS_mk, seqI_mk, matE_mk, callF_mk, callB_mk, consA_mk, nilA_mk, consT_mk, nilT_mk, tvs_mk, binE_mk, varE_0, varE_s, kE_mk, set_0, set_s, nmG_mk, lstE_mk, tupE_mk, bT_mk, tstT_mk, notT_mk, andT_mk, orT_mk, yesT_mk, andE_mk, orE_mk, notE_mk, ifE_mk, negE_mk, sliceE_mk, noP_mk, intP_mk, bmE_mk, bmE0_mk, isiB_mk, lcE_mk, lcT_mk, wipeE_nil, wipeE_cons, liftF_ok, matD_d, matD_l, boolT_mk, truthM_bl, truthM_int, truthM_non, opAdd_i, opSub_i, opLt_i, opLe_i, opGt_i, opGe_i, opEq_i, opNe_i, opMod_p, opDiv_p, seqSrc_l, seqSrc_clst, seqSrc_tup, ofL_n, ofR_n, opCut_l, opCut_tup, opCut_clst, callB_len_clst, callB_len_l, callB_len_tup, isi_int_int, isi_int_bool, isi_bool_bool, isi_bool_int, if_true, List.map_cons, List.map_nil, Int.toNat_natCast, List.length_cons, List.length_nil, List.replicate_succ, List.replicate_zero, List.cons_append, List.nil_append, Nat.sub_self, Nat.reduceSub, Nat.reduceAdd, ite_at, Bool.not_true, Bool.not_false, decide_true, decide_false, Bool.false_eq_true, if_false, reduceIte, fldE_mk, ev_fld, sfldS_mk, ev_setF, ev_putD_nil, ev_putD, methE_mk, ev_meth, augFS_mk, ev_aug, ev_len, ev_len2, len2_clst, len2_l, len2_tup, ev_list, ev_list2, list_tup, list_clst, list_l, list2_tup, list2_l, list2_clst, ev_tuple, tuple_tup, bTuple_l, ev_cut, ev_idx, ev_idxT, ev_idxL, ev_idxC, subS_mk, ev_subs, subs_l, subs_tup, subs_clst, subs_str, key_int, key_str, ev_getK_nil, ev_getK, ev_put, ev_src, ev_append, ev_extend, listOfM_l, ev_listOfM, listOf_l, listOf_clst, ev_listOf, ev_clear, chk_list, chk_str, chk_dic, dgetE_mk, dgetM_ev, dget2E_mk, dget2M_ev, ev_dget, ev_dgetY, ev_dget2Y, dpopE_mk, get_set_ne', get_set_is, get_app_is, get_new, ite_lt, ite_le, at_0, at_1, at_2, at_3, at_4, at_end, tupG_mk, tupG_mk', consG_mk, nilG_mk, sne, sbne, beq_self_eq_true, List.lookup_cons, List.lookup_nil, List.mem_cons, List.not_mem_nil, or_false, false_or, true_or, or_true, and_true, true_and, and_false, false_and, eq_self, Option.isSome_some, Option.isSome_none, Option.map_some, Option.map_none, opIs_nn, opIs_ni, opIsNot_nn, opIsNot_ni, opIsB_b, opIsNotB_b, opMul_l, opMul_r, opEq_b, opNe_b, bMax2_i, bMin2_i, List.map_cons, Sum.inl.injEq, Sum.inr.injEq, isi_l_list, isi_tup_tup, List.length_set, decide_eq_true_eq, negE_mk, Nat.reduceLT, Nat.reduceLeDiff, Nat.reduceEqDiff, Nat.reduceMul, Int.reduceLT, Int.reduceLE, Int.reduceEq, Int.reduceAdd, Int.reduceSub, Int.reduceMul, Int.reduceNeg, Int.reduceToNat, Int.reducePow, Nat.reducePow, Int.reduceMod, Int.reduceDiv, reduceCtorEq, ite_true, List.nil_append, Nat.reduceBEq, isXE_mk, ev_isX, xfE_mk, ev_xf, raiseS_mk, raiseFS_mk, excM_mk, goneF_nxt, goneF_ret, opMulX_i, ev_addRL, ev_addLR, ev_addRR, ite_le2, opAdd_s, opAdd_t, chainE_mk, chainR_b, ev_isl, andE_mk, orE_mk, notE_mk, is_non_int, is_non_bool, is_non_str, is_non_list, is_non_tuple, is_bl_int, is_bl_bool, is_bl_str, is_bl_list, is_bl_tuple, is_int_int, is_int_bool, is_int_str, is_int_list, is_int_tuple, is_str_int, is_str_bool, is_str_str, is_str_list, is_str_tuple, is_tup_int, is_tup_bool, is_tup_str, is_tup_list, is_tup_tuple, is_l_int, is_l_bool, is_l_str, is_l_list, is_l_tuple, unpG_tup, unpG_ref, opEq_s, opNe_s, len2_str, leX_ss, seqIX_mk, srcX_str, ↓toBT, ↓toWT, bt_ok, bt_bt, wt_bt, wt_okM, wt_ok, wt_exc, wt_ite, wt_lift, wt_make, wt_try, hD, e, at5, bInt_b, zP, zG, zR, zK] <;> try simp -implicitDefEqProofs only [bt_eq, wt_eq])
    refine wp_call q3 ?_
    rintro d m2 ⟨rfl, hT⟩
    (simp -implicitDefEqProofs (maxSteps := 2000000) (disch := (first | omega | decide +kernel | (simp only [isSome_set, isSome_app, isSome_new, Option.isSome_some, *]; done) | (simp only [isSome_lt, List.length_set, List.length_append, List.length_cons, List.length_nil, decide_eq_true_eq]; omega))) only [seqS_mk, asgS_mk, ifS_mk, retS_mk, retNS_mk, skipS_mk, dropS_mk, brkS_mk, cntS_mk, forS_mk, seqI_mk, matE_mk, callF_mk, callB_mk, consA_mk, nilA_mk, consT_mk, nilT_mk, tvs_mk, binE_mk, varE_0, varE_s, kE_mk, set_0, set_s, nmG_mk, lstE_mk, tupE_mk, bT_mk, tstT_mk, notT_mk, andT_mk, orT_mk, yesT_mk, andE_mk, orE_mk, notE_mk, ifE_mk, negE_mk, sliceE_mk, noP_mk, intP_mk, bmE_mk, bmE0_mk, isiB_mk, lcE_mk, lcT_mk, wipeE_nil, wipeE_cons, liftF_ok, matD_d, matD_l, boolT_mk, truthM_bl, truthM_int, truthM_non, opAdd_i, opSub_i, opLt_i, opLe_i, opGt_i, opGe_i, opEq_i, opNe_i, opMod_p, opDiv_p, seqSrc_l, seqSrc_clst, seqSrc_tup, ofL_n, ofR_n, opCut_l, opCut_tup, opCut_clst, callB_len_clst, callB_len_l, callB_len_tup, isi_int_int, isi_int_bool, isi_bool_bool, isi_bool_int, if_true, List.map_cons, List.map_nil, Int.toNat_natCast, List.length_cons, List.length_nil, List.replicate_succ, List.replicate_zero, List.cons_append, List.nil_append, Nat.sub_self, Nat.reduceSub, Nat.reduceAdd, ite_at, Bool.not_true, Bool.not_false, decide_true, decide_false, Bool.false_eq_true, if_false, reduceIte, fldE_mk, ev_fld, sfldS_mk, ev_setF, ev_putD_nil, ev_putD, methE_mk, ev_meth, augFS_mk, ev_aug, ev_len, ev_len2, len2_clst, len2_l, len2_tup, ev_list, ev_list2, list_tup, list_clst, list_l, list2_tup, list2_l, list2_clst, ev_tuple, tuple_tup, bTuple_l, ev_cut, ev_idx, ev_idxT, ev_idxL, ev_idxC, subS_mk, ev_subs, subs_l, subs_tup, subs_clst, subs_str, key_int, key_str, ev_getK_nil, ev_getK, ev_put, ev_src, ev_append, ev_extend, listOfM_l, ev_listOfM, listOf_l, listOf_clst, ev_listOf, ev_clear, chk_list, chk_str, chk_dic, dgetE_mk, dgetM_ev, dget2E_mk, dget2M_ev, ev_dget, ev_dgetY, ev_dget2Y, dpopE_mk, get_set_ne', get_set_is, get_app_is, get_new, ite_lt, ite_le, at_0, at_1, at_2, at_3, at_4, at_end, tupG_mk, tupG_mk', consG_mk, nilG_mk, sne, sbne, beq_self_eq_true, List.lookup_cons, List.lookup_nil, List.mem_cons, List.not_mem_nil, or_false, false_or, true_or, or_true, and_true, true_and, and_false, false_and, eq_self, Option.isSome_some, Option.isSome_none, Option.map_some, Option.map_none, opIs_nn, opIs_ni, opIsNot_nn, opIsNot_ni, opIsB_b, opIsNotB_b, opMul_l, opMul_r, opEq_b, opNe_b, bMax2_i, bMin2_i, List.map_cons, Sum.inl.injEq, Sum.inr.injEq, isi_l_list, isi_tup_tup, List.length_set, decide_eq_true_eq, negE_mk, Nat.reduceLT, Nat.reduceLeDiff, Nat.reduceEqDiff, Nat.reduceMul, Int.reduceLT, Int.reduceLE, Int.reduceEq, Int.reduceAdd, Int.reduceSub, Int.reduceMul, Int.reduceNeg, Int.reduceToNat, Int.reducePow, Nat.reducePow, Int.reduceMod, Int.reduceDiv, reduceCtorEq, ite_true, List.nil_append, Nat.reduceBEq, isXE_mk, ev_isX, xfE_mk, ev_xf, raiseS_mk, raiseFS_mk, excM_mk, goneF_nxt, goneF_ret, opMulX_i, ev_addRL, ev_addLR, ev_addRR, ite_le2, opAdd_s, opAdd_t, chainE_mk, chainR_b, ev_isl, andE_mk, orE_mk, notE_mk, is_non_int, is_non_bool, is_non_str, is_non_list, is_non_tuple, is_bl_int, is_bl_bool, is_bl_str, is_bl_list, is_bl_tuple, is_int_int, is_int_bool, is_int_str, is_int_list, is_int_tuple, is_str_int, is_str_bool, is_str_str, is_str_list, is_str_tuple, is_tup_int, is_tup_bool, is_tup_str, is_tup_list, is_tup_tuple, is_l_int, is_l_bool, is_l_str, is_l_list, is_l_tuple, unpG_tup, unpG_ref, opEq_s, opNe_s, len2_str, leX_ss, seqIX_mk, srcX_str, ↓toBT, ↓toWT, bt_ok, bt_bt, wt_bt, wt_okM, wt_ok, wt_exc, wt_ite, wt_lift, wt_make, wt_try] <;> try simp -implicitDefEqProofs only [bt_eq, wt_eq])
    rw [rng1_ok (by omega)]
    (simp -implicitDefEqProofs (maxSteps := 2000000) (disch := (first | omega | decide +kernel | (simp only [isSome_set, isSome_app, isSome_new, Option.isSome_some, *]; done) | (simp only [isSome_lt, List.length_set, List.length_append, List.length_cons, List.length_nil, decide_eq_true_eq]; omega))) only [seqS_mk, asgS_mk, ifS_mk, retS_mk, retNS_mk, skipS_mk, dropS_mk, brkS_mk, cntS_mk, forS_mk, seqI_mk, matE_mk, callF_mk, callB_mk, consA_mk, nilA_mk, consT_mk, nilT_mk, tvs_mk, binE_mk, varE_0, varE_s, kE_mk, set_0, set_s, nmG_mk, lstE_mk, tupE_mk, bT_mk, tstT_mk, notT_mk, andT_mk, orT_mk, yesT_mk, andE_mk, orE_mk, notE_mk, ifE_mk, negE_mk, sliceE_mk, noP_mk, intP_mk, bmE_mk, bmE0_mk, isiB_mk, lcE_mk, lcT_mk, wipeE_nil, wipeE_cons, liftF_ok, matD_d, matD_l, boolT_mk, truthM_bl, truthM_int, truthM_non, opAdd_i, opSub_i, opLt_i, opLe_i, opGt_i, opGe_i, opEq_i, opNe_i, opMod_p, opDiv_p, seqSrc_l, seqSrc_clst, seqSrc_tup, ofL_n, ofR_n, opCut_l, opCut_tup, opCut_clst, callB_len_clst, callB_len_l, callB_len_tup, isi_int_int, isi_int_bool, isi_bool_bool, isi_bool_int, if_true, List.map_cons, List.map_nil, Int.toNat_natCast, List.length_cons, List.length_nil, List.replicate_succ, List.replicate_zero, List.cons_append, List.nil_append, Nat.sub_self, Nat.reduceSub, Nat.reduceAdd, ite_at, Bool.not_true, Bool.not_false, decide_true, decide_false, Bool.false_eq_true, if_false, reduceIte, fldE_mk, ev_fld, sfldS_mk, ev_setF, ev_putD_nil, ev_putD, methE_mk, ev_meth, augFS_mk, ev_aug, ev_len, ev_len2, len2_clst, len2_l, len2_tup, ev_list, ev_list2, list_tup, list_clst, list_l, list2_tup, list2_l, list2_clst, ev_tuple, tuple_tup, bTuple_l, ev_cut, ev_idx, ev_idxT, ev_idxL, ev_idxC, subS_mk, ev_subs, subs_l, subs_tup, subs_clst, subs_str, key_int, key_str, ev_getK_nil, ev_getK, ev_put, ev_src, ev_append, ev_extend, listOfM_l, ev_listOfM, listOf_l, listOf_clst, ev_listOf, ev_clear, chk_list, chk_str, chk_dic, dgetE_mk, dgetM_ev, dget2E_mk, dget2M_ev, ev_dget, ev_dgetY, ev_dget2Y, dpopE_mk, get_set_ne', get_set_is, get_app_is, get_new, ite_lt, ite_le, at_0, at_1, at_2, at_3, at_4, at_end, tupG_mk, tupG_mk', consG_mk, nilG_mk, sne, sbne, beq_self_eq_true, List.lookup_cons, List.lookup_nil, List.mem_cons, List.not_mem_nil, or_false, false_or, true_or, or_true, and_true, true_and, and_false, false_and, eq_self, Option.isSome_some, Option.isSome_none, Option.map_some, Option.map_none, opIs_nn, opIs_ni, opIsNot_nn, opIsNot_ni, opIsB_b, opIsNotB_b, opMul_l, opMul_r, opEq_b, opNe_b, bMax2_i, bMin2_i, List.map_cons, Sum.inl.injEq, Sum.inr.injEq, isi_l_list, isi_tup_tup, List.length_set, decide_eq_true_eq, negE_mk, Nat.reduceLT, Nat.reduceLeDiff, Nat.reduceEqDiff, Nat.reduceMul, Int.reduceLT, Int.reduceLE, Int.reduceEq, Int.reduceAdd, Int.reduceSub, Int.reduceMul, Int.reduceNeg, Int.reduceToNat, Int.reducePow, Nat.reducePow, Int.reduceMod, Int.reduceDiv, reduceCtorEq, ite_true, List.nil_append, Nat.reduceBEq, isXE_mk, ev_isX, xfE_mk, ev_xf, raiseS_mk, raiseFS_mk, excM_mk, goneF_nxt, goneF_ret, opMulX_i, ev_addRL, ev_addLR, ev_addRR, ite_le2, opAdd_s, opAdd_t, chainE_mk, chainR_b, ev_isl, andE_mk, orE_mk, notE_mk, is_non_int, is_non_bool, is_non_str, is_non_list, is_non_tuple, is_bl_int, is_bl_bool, is_bl_str, is_bl_list, is_bl_tuple, is_int_int, is_int_bool, is_int_str, is_int_list, is_int_tuple, is_str_int, is_str_bool, is_str_str, is_str_list, is_str_tuple, is_tup_int, is_tup_bool, is_tup_str, is_tup_list, is_tup_tuple, is_l_int, is_l_bool, is_l_str, is_l_list, is_l_tuple, unpG_tup, unpG_ref, opEq_s, opNe_s, len2_str, leX_ss, seqIX_mk, srcX_str, ↓toBT, ↓toWT, bt_ok, bt_bt, wt_bt, wt_okM, wt_ok, wt_exc, wt_ite, wt_lift, wt_make, wt_try] <;> try simp -implicitDefEqProofs only [bt_eq, wt_eq])
    exact loop m2 _ _ _ hT
end
end Law

set_option maxHeartbeats 1000000
namespace Law
open PySem L2 Mir
theorem cellat_ok (ns : List Int) (k : Int) (hk : 0 ≤ k) : F_law_cell_at [.clst (ns.map D.int), .int k] = okM (.int (ns[k.toNat]?.getD 0)) := cell_run ns k hk
theorem law_wp (ns : List Int) (hl : ns.length ≤ 63) (m0 : Mem) : Wp (F_law [.clst (ns.map D.int)] m0) (fun r _ => r = .bl true) noEx := by
  refine ⟨wp_fn ?_⟩
  unfold m_law
  have trn := @turn_ok
  have edn := @end_ok
  have ini := @init_ok
  generalize m_law_1 = B1 at *
  generalize m_law_2 = B2 at *
  generalize F_Gate_init = FI at *
  have hc := cellat_ok ns 0 (by omega)
  generalize ns[(0:Int).toNat]?.getD 0 = first at *
  have hcut : (cutD (ns.map D.int) (some 1) (some 61)).length ≤ 60 := by
    rw [show (some (1:Int)) = some ((1:Nat):Int) from rfl, show (some (61:Int)) = some ((61:Nat):Int) from rfl]
    simp only [cutD, HT.sIx_nat, List.length_take]
    omega
  have hint : ∀ d ∈ cutD (ns.map D.int) (some 1) (some 61), ∃ c : Int, d = .int c := by
    intro d hd
    obtain ⟨c, _, rfl⟩ := List.mem_map.1 (cutD_mem hd)
    exact ⟨c, rfl⟩
  have hp0 : 1 ≤ 1 + first % 16 ∧ 1 + first % 16 ≤ 16 := by omega
  have hp1 : 1 ≤ 1 + first / 3 % 16 ∧ 1 + first / 3 % 16 ≤ 16 := by omega
  obtain ⟨N, hN⟩ : ∃ N, N = m0.length := ⟨_, rfl⟩
  generalize hpe0 : 1 + first % 16 = p0 at *
  generalize hpe1 : 1 + first / 3 % 16 = p1 at *
  obtain ⟨A0, hA0⟩ : ∃ A0, A0 = m0 ++ [O.lst [.int p0, .int p1]] := ⟨_, rfl⟩
  have lA0 : A0.length = N + 1 := by rw [hA0]; simp [hN]
  have gA0 : A0[N]? = some (.lst [.int p0, .int p1]) := by rw [hA0, hN]; exact get_new
  (simp -implicitDefEqProofs (maxSteps := 2000000) (disch := (first | omega | decide +kernel | (simp only [isSome_set, isSome_app, isSome_new, Option.isSome_some, *]; done) | (simp only [isSome_lt, List.length_set, List.length_append, List.length_cons, List.length_nil, decide_eq_true_eq]; omega))) only [seqS_mk, asgS_mk, ifS_mk, retS_mk, retNS_mk, skipS_mk, dropS_mk, brkS_mk, cntS_mk, forS_mk, seqI_mk, matE_mk, callF_mk, callB_mk, consA_mk, nilA_mk, consT_mk, nilT_mk, tvs_mk, binE_mk, varE_0, varE_s, kE_mk, set_0, set_s, nmG_mk, lstE_mk, tupE_mk, bT_mk, tstT_mk, notT_mk, andT_mk, orT_mk, yesT_mk, andE_mk, orE_mk, notE_mk, ifE_mk, negE_mk, sliceE_mk, noP_mk, intP_mk, bmE_mk, bmE0_mk, isiB_mk, lcE_mk, lcT_mk, wipeE_nil, wipeE_cons, liftF_ok, matD_d, matD_l, boolT_mk, truthM_bl, truthM_int, truthM_non, opAdd_i, opSub_i, opLt_i, opLe_i, opGt_i, opGe_i, opEq_i, opNe_i, opMod_p, opDiv_p, seqSrc_l, seqSrc_clst, seqSrc_tup, ofL_n, ofR_n, opCut_l, opCut_tup, opCut_clst, callB_len_clst, callB_len_l, callB_len_tup, isi_int_int, isi_int_bool, isi_bool_bool, isi_bool_int, if_true, List.map_cons, List.map_nil, Int.toNat_natCast, List.length_cons, List.length_nil, List.replicate_succ, List.replicate_zero, List.cons_append, List.nil_append, Nat.sub_self, Nat.reduceSub, Nat.reduceAdd, ite_at, Bool.not_true, Bool.not_false, decide_true, decide_false, Bool.false_eq_true, if_false, reduceIte, fldE_mk, ev_fld, sfldS_mk, ev_setF, ev_putD_nil, ev_putD, methE_mk, ev_meth, augFS_mk, ev_aug, ev_len, ev_len2, len2_clst, len2_l, len2_tup, ev_list, ev_list2, list_tup, list_clst, list_l, list2_tup, list2_l, list2_clst, ev_tuple, tuple_tup, bTuple_l, ev_cut, ev_idx, ev_idxT, ev_idxL, ev_idxC, subS_mk, ev_subs, subs_l, subs_tup, subs_clst, subs_str, key_int, key_str, ev_getK_nil, ev_getK, ev_put, ev_src, ev_append, ev_extend, listOfM_l, ev_listOfM, listOf_l, listOf_clst, ev_listOf, ev_clear, chk_list, chk_str, chk_dic, dgetE_mk, dgetM_ev, dget2E_mk, dget2M_ev, ev_dget, ev_dgetY, ev_dget2Y, dpopE_mk, get_set_ne', get_set_is, get_app_is, get_new, ite_lt, ite_le, at_0, at_1, at_2, at_3, at_4, at_end, tupG_mk, tupG_mk', consG_mk, nilG_mk, sne, sbne, beq_self_eq_true, List.lookup_cons, List.lookup_nil, List.mem_cons, List.not_mem_nil, or_false, false_or, true_or, or_true, and_true, true_and, and_false, false_and, eq_self, Option.isSome_some, Option.isSome_none, Option.map_some, Option.map_none, opIs_nn, opIs_ni, opIsNot_nn, opIsNot_ni, opIsB_b, opIsNotB_b, opMul_l, opMul_r, opEq_b, opNe_b, bMax2_i, bMin2_i, List.map_cons, Sum.inl.injEq, Sum.inr.injEq, isi_l_list, isi_tup_tup, List.length_set, decide_eq_true_eq, negE_mk, Nat.reduceLT, Nat.reduceLeDiff, Nat.reduceEqDiff, Nat.reduceMul, Int.reduceLT, Int.reduceLE, Int.reduceEq, Int.reduceAdd, Int.reduceSub, Int.reduceMul, Int.reduceNeg, Int.reduceToNat, Int.reducePow, Nat.reducePow, Int.reduceMod, Int.reduceDiv, reduceCtorEq, ite_true, List.nil_append, Nat.reduceBEq, isXE_mk, ev_isX, xfE_mk, ev_xf, raiseS_mk, raiseFS_mk, excM_mk, goneF_nxt, goneF_ret, opMulX_i, ev_addRL, ev_addLR, ev_addRR, ite_le2, opAdd_s, opAdd_t, chainE_mk, chainR_b, ev_isl, andE_mk, orE_mk, notE_mk, is_non_int, is_non_bool, is_non_str, is_non_list, is_non_tuple, is_bl_int, is_bl_bool, is_bl_str, is_bl_list, is_bl_tuple, is_int_int, is_int_bool, is_int_str, is_int_list, is_int_tuple, is_str_int, is_str_bool, is_str_str, is_str_list, is_str_tuple, is_tup_int, is_tup_bool, is_tup_str, is_tup_list, is_tup_tuple, is_l_int, is_l_bool, is_l_str, is_l_list, is_l_tuple, unpG_tup, unpG_ref, opEq_s, opNe_s, len2_str, leX_ss, seqIX_mk, srcX_str, ↓toBT, ↓toWT, bt_ok, bt_bt, wt_bt, wt_okM, wt_ok, wt_exc, wt_ite, wt_lift, wt_make, wt_try, hc, hpe0, hpe1, hA0.symm, hN.symm, gA0] <;> try simp -implicitDefEqProofs only [bt_eq, wt_eq])
  refine wp_call (ini A0 _ rfl p0) ?_
  rintro d m1 ⟨rfl, l1, a1, a2, a3, x1⟩
  refine ⟨rfl, ?_⟩
  have gA1 := x1.2 _ _ gA0
  generalize hG0 : A0.length = G0 at *
  (simp -implicitDefEqProofs (maxSteps := 2000000) (disch := (first | omega | decide +kernel | (simp only [isSome_set, isSome_app, isSome_new, Option.isSome_some, *]; done) | (simp only [isSome_lt, List.length_set, List.length_append, List.length_cons, List.length_nil, decide_eq_true_eq]; omega))) only [seqS_mk, asgS_mk, ifS_mk, retS_mk, retNS_mk, skipS_mk, dropS_mk, brkS_mk, cntS_mk, forS_mk, seqI_mk, matE_mk, callF_mk, callB_mk, consA_mk, nilA_mk, consT_mk, nilT_mk, tvs_mk, binE_mk, varE_0, varE_s, kE_mk, set_0, set_s, nmG_mk, lstE_mk, tupE_mk, bT_mk, tstT_mk, notT_mk, andT_mk, orT_mk, yesT_mk, andE_mk, orE_mk, notE_mk, ifE_mk, negE_mk, sliceE_mk, noP_mk, intP_mk, bmE_mk, bmE0_mk, isiB_mk, lcE_mk, lcT_mk, wipeE_nil, wipeE_cons, liftF_ok, matD_d, matD_l, boolT_mk, truthM_bl, truthM_int, truthM_non, opAdd_i, opSub_i, opLt_i, opLe_i, opGt_i, opGe_i, opEq_i, opNe_i, opMod_p, opDiv_p, seqSrc_l, seqSrc_clst, seqSrc_tup, ofL_n, ofR_n, opCut_l, opCut_tup, opCut_clst, callB_len_clst, callB_len_l, callB_len_tup, isi_int_int, isi_int_bool, isi_bool_bool, isi_bool_int, if_true, List.map_cons, List.map_nil, Int.toNat_natCast, List.length_cons, List.length_nil, List.replicate_succ, List.replicate_zero, List.cons_append, List.nil_append, Nat.sub_self, Nat.reduceSub, Nat.reduceAdd, ite_at, Bool.not_true, Bool.not_false, decide_true, decide_false, Bool.false_eq_true, if_false, reduceIte, fldE_mk, ev_fld, sfldS_mk, ev_setF, ev_putD_nil, ev_putD, methE_mk, ev_meth, augFS_mk, ev_aug, ev_len, ev_len2, len2_clst, len2_l, len2_tup, ev_list, ev_list2, list_tup, list_clst, list_l, list2_tup, list2_l, list2_clst, ev_tuple, tuple_tup, bTuple_l, ev_cut, ev_idx, ev_idxT, ev_idxL, ev_idxC, subS_mk, ev_subs, subs_l, subs_tup, subs_clst, subs_str, key_int, key_str, ev_getK_nil, ev_getK, ev_put, ev_src, ev_append, ev_extend, listOfM_l, ev_listOfM, listOf_l, listOf_clst, ev_listOf, ev_clear, chk_list, chk_str, chk_dic, dgetE_mk, dgetM_ev, dget2E_mk, dget2M_ev, ev_dget, ev_dgetY, ev_dget2Y, dpopE_mk, get_set_ne', get_set_is, get_app_is, get_new, ite_lt, ite_le, at_0, at_1, at_2, at_3, at_4, at_end, tupG_mk, tupG_mk', consG_mk, nilG_mk, sne, sbne, beq_self_eq_true, List.lookup_cons, List.lookup_nil, List.mem_cons, List.not_mem_nil, or_false, false_or, true_or, or_true, and_true, true_and, and_false, false_and, eq_self, Option.isSome_some, Option.isSome_none, Option.map_some, Option.map_none, opIs_nn, opIs_ni, opIsNot_nn, opIsNot_ni, opIsB_b, opIsNotB_b, opMul_l, opMul_r, opEq_b, opNe_b, bMax2_i, bMin2_i, List.map_cons, Sum.inl.injEq, Sum.inr.injEq, isi_l_list, isi_tup_tup, List.length_set, decide_eq_true_eq, negE_mk, Nat.reduceLT, Nat.reduceLeDiff, Nat.reduceEqDiff, Nat.reduceMul, Int.reduceLT, Int.reduceLE, Int.reduceEq, Int.reduceAdd, Int.reduceSub, Int.reduceMul, Int.reduceNeg, Int.reduceToNat, Int.reducePow, Nat.reducePow, Int.reduceMod, Int.reduceDiv, reduceCtorEq, ite_true, List.nil_append, Nat.reduceBEq, isXE_mk, ev_isX, xfE_mk, ev_xf, raiseS_mk, raiseFS_mk, excM_mk, goneF_nxt, goneF_ret, opMulX_i, ev_addRL, ev_addLR, ev_addRR, ite_le2, opAdd_s, opAdd_t, chainE_mk, chainR_b, ev_isl, andE_mk, orE_mk, notE_mk, is_non_int, is_non_bool, is_non_str, is_non_list, is_non_tuple, is_bl_int, is_bl_bool, is_bl_str, is_bl_list, is_bl_tuple, is_int_int, is_int_bool, is_int_str, is_int_list, is_int_tuple, is_str_int, is_str_bool, is_str_str, is_str_list, is_str_tuple, is_tup_int, is_tup_bool, is_tup_str, is_tup_list, is_tup_tuple, is_l_int, is_l_bool, is_l_str, is_l_list, is_l_tuple, unpG_tup, unpG_ref, opEq_s, opNe_s, len2_str, leX_ss, seqIX_mk, srcX_str, ↓toBT, ↓toWT, bt_ok, bt_bt, wt_bt, wt_okM, wt_ok, wt_exc, wt_ite, wt_lift, wt_make, wt_try, gA1] <;> try simp -implicitDefEqProofs only [bt_eq, wt_eq])
  refine wp_call (ini m1 _ rfl p1) ?_
  rintro d m2 ⟨rfl, l2, b1, b2, b3, x2⟩
  refine ⟨rfl, ?_⟩
  generalize hG1 : m1.length = G1 at *
  obtain ⟨GL, hGL⟩ : ∃ GL, GL = m2.length := ⟨_, rfl⟩
  obtain ⟨A1, hA1⟩ : ∃ A1, A1 = m2 ++ [O.lst [.ref G0, .ref G1]] := ⟨_, rfl⟩
  have lA1 : A1.length = GL + 1 := by rw [hA1]; simp [hGL]
  have gA1' : A1[GL]? = some (.lst [.ref G0, .ref G1]) := by rw [hA1, hGL]; exact get_new
  have xA1 : Ext m2 A1 := by rw [hA1]; exact Ext.app _ _
  obtain ⟨A2, hA2⟩ : ∃ A2, A2 = A1 ++ [O.lst []] := ⟨_, rfl⟩
  have lA2 : A2.length = GL + 2 := by rw [hA2]; simp [lA1]
  have gA2 : A2[GL + 1]? = some (.lst []) := by rw [hA2, ← lA1]; exact get_new
  have xA2 : Ext A1 A2 := by rw [hA2]; exact Ext.app _ _
  obtain ⟨A3, hA3⟩ : ∃ A3, A3 = A2 ++ [O.lst []] := ⟨_, rfl⟩
  have lA3 : A3.length = GL + 3 := by rw [hA3]; simp [lA2]
  have gA3 : A3[GL + 2]? = some (.lst []) := by rw [hA3, ← lA2]; exact get_new
  have xA3 : Ext A2 A3 := by rw [hA3]; exact Ext.app _ _
  obtain ⟨A4, hA4⟩ : ∃ A4, A4 = A3 ++ [O.lst [.ref (GL + 1), .ref (GL + 2)]] := ⟨_, rfl⟩
  have lA4 : A4.length = GL + 4 := by rw [hA4]; simp [lA3]
  have gA4 : A4[GL + 3]? = some (.lst [.ref (GL + 1), .ref (GL + 2)]) := by rw [hA4, ← lA3]; exact get_new
  have xA4 : Ext A3 A4 := by rw [hA4]; exact Ext.app _ _
  obtain ⟨A5, hA5⟩ : ∃ A5, A5 = A4 ++ [O.mix []] := ⟨_, rfl⟩
  have lA5 : A5.length = GL + 5 := by rw [hA5]; simp [lA4]
  have gA5 : A5[GL + 4]? = some (.mix []) := by rw [hA5, ← lA4]; exact get_new
  have xA5 : Ext A4 A5 := by rw [hA5]; exact Ext.app _ _
  obtain ⟨A6, hA6⟩ : ∃ A6, A6 = A5 ++ [O.mix []] := ⟨_, rfl⟩
  have lA6 : A6.length = GL + 6 := by rw [hA6]; simp [lA5]
  have gA6 : A6[GL + 5]? = some (.mix []) := by rw [hA6, ← lA5]; exact get_new
  have xA6 : Ext A5 A6 := by rw [hA6]; exact Ext.app _ _
  obtain ⟨A7, hA7⟩ : ∃ A7, A7 = A6 ++ [O.lst [.ref (GL + 4), .ref (GL + 5)]] := ⟨_, rfl⟩
  have lA7 : A7.length = GL + 7 := by rw [hA7]; simp [lA6]
  have gA7 : A7[GL + 6]? = some (.lst [.ref (GL + 4), .ref (GL + 5)]) := by rw [hA7, ← lA6]; exact get_new
  have xA7 : Ext A6 A7 := by rw [hA7]; exact Ext.app _ _
  have y6 := xA7
  have y5 := xA6.trans y6
  have y4 := xA5.trans y5
  have y3 := xA4.trans y4
  have y2 := xA3.trans y3
  have y1 := xA2.trans y2
  have y0 := xA1.trans y1
  have ym1 := x2.trans y0
  have T0 : Two A7 (Zs N GL (GL + 3) (GL + 6) G0 (GL + 1) (GL + 4) G1 (GL + 2) (GL + 5) p0 p1) G0 (G0 + 1) (GL + 1) (GL + 4) G1 (G1 + 1) (GL + 2) (GL + 5) p0 p1 0 := by
    have RS0 : ∀ p : Int, 1 ≤ p ∧ p ≤ 16 → RS p [] (fun _ => []) := fun p hp => ⟨List.nodup_nil, by simp, by simp, fun i _ => by simp; omega, hp, by simp⟩
    have KP0 : ∀ (X : List Nat) k, A7[k]? = some (.mix []) → KP A7 X k (fun _ => []) 0 [] := fun X k hk => ⟨hk, Nat.le_refl _, fun i _ => .inl ⟨rfl, rfl⟩⟩
    refine ⟨[G0, G0 + 1, G0 + 2, GL + 1, GL + 4, G1, G1 + 1, G1 + 2, GL + 2, GL + 5], G0 + 2, G1 + 2, [], fun _ => [], [], fun _ => [], ⟨⟨[], ⟨ym1.2 _ _ a1, ym1.2 _ _ a3, KP0 _ _ (ym1.2 _ _ a2), by simp, by simp, by simp⟩⟩, ⟨[], ⟨y2.2 _ _ gA2, KP0 _ _ (y5.2 _ _ gA5), by simp, by simp⟩⟩, RS0 _ hp0, ?_, by omega, by omega⟩, ⟨⟨[], ⟨y0.2 _ _ b1, y0.2 _ _ b3, KP0 _ _ (y0.2 _ _ b2), by simp, by simp, by simp⟩⟩, ⟨[], ⟨y3.2 _ _ gA3, KP0 _ _ (y6.2 _ _ gA6), by simp, by simp⟩⟩, RS0 _ hp1, ?_, by omega, by omega⟩, ?_, ?_⟩
    · simp only [List.mem_cons, List.not_mem_nil, or_false]; omega
    · simp only [List.mem_cons, List.not_mem_nil, or_false]; omega
    · simp only [List.mem_cons, List.not_mem_nil, or_false]; omega
    · unfold Zs
      intro z hz
      simp only [List.mem_cons, List.not_mem_nil, or_false] at hz ⊢
      rcases hz with rfl | rfl | rfl | rfl
      · exact ⟨ym1.2 _ _ gA1, by dsimp only; omega, by dsimp only; omega⟩
      · exact ⟨y1.2 _ _ gA1', by dsimp only; omega, by dsimp only; omega⟩
      · exact ⟨y4.2 _ _ gA4, by dsimp only; omega, by dsimp only; omega⟩
      · exact ⟨gA7, by dsimp only; omega, by dsimp only; omega⟩
  (simp -implicitDefEqProofs (maxSteps := 2000000) (disch := (first | omega | decide +kernel | (simp only [isSome_set, isSome_app, isSome_new, Option.isSome_some, *]; done) | (simp only [isSome_lt, List.length_set, List.length_append, List.length_cons, List.length_nil, decide_eq_true_eq]; omega))) only [seqS_mk, asgS_mk, ifS_mk, retS_mk, retNS_mk, skipS_mk, dropS_mk, brkS_mk, cntS_mk, forS_mk, seqI_mk, matE_mk, callF_mk, callB_mk, consA_mk, nilA_mk, consT_mk, nilT_mk, tvs_mk, binE_mk, varE_0, varE_s, kE_mk, set_0, set_s, nmG_mk, lstE_mk, tupE_mk, bT_mk, tstT_mk, notT_mk, andT_mk, orT_mk, yesT_mk, andE_mk, orE_mk, notE_mk, ifE_mk, negE_mk, sliceE_mk, noP_mk, intP_mk, bmE_mk, bmE0_mk, isiB_mk, lcE_mk, lcT_mk, wipeE_nil, wipeE_cons, liftF_ok, matD_d, matD_l, boolT_mk, truthM_bl, truthM_int, truthM_non, opAdd_i, opSub_i, opLt_i, opLe_i, opGt_i, opGe_i, opEq_i, opNe_i, opMod_p, opDiv_p, seqSrc_l, seqSrc_clst, seqSrc_tup, ofL_n, ofR_n, opCut_l, opCut_tup, opCut_clst, callB_len_clst, callB_len_l, callB_len_tup, isi_int_int, isi_int_bool, isi_bool_bool, isi_bool_int, if_true, List.map_cons, List.map_nil, Int.toNat_natCast, List.length_cons, List.length_nil, List.replicate_succ, List.replicate_zero, List.cons_append, List.nil_append, Nat.sub_self, Nat.reduceSub, Nat.reduceAdd, ite_at, Bool.not_true, Bool.not_false, decide_true, decide_false, Bool.false_eq_true, if_false, reduceIte, fldE_mk, ev_fld, sfldS_mk, ev_setF, ev_putD_nil, ev_putD, methE_mk, ev_meth, augFS_mk, ev_aug, ev_len, ev_len2, len2_clst, len2_l, len2_tup, ev_list, ev_list2, list_tup, list_clst, list_l, list2_tup, list2_l, list2_clst, ev_tuple, tuple_tup, bTuple_l, ev_cut, ev_idx, ev_idxT, ev_idxL, ev_idxC, subS_mk, ev_subs, subs_l, subs_tup, subs_clst, subs_str, key_int, key_str, ev_getK_nil, ev_getK, ev_put, ev_src, ev_append, ev_extend, listOfM_l, ev_listOfM, listOf_l, listOf_clst, ev_listOf, ev_clear, chk_list, chk_str, chk_dic, dgetE_mk, dgetM_ev, dget2E_mk, dget2M_ev, ev_dget, ev_dgetY, ev_dget2Y, dpopE_mk, get_set_ne', get_set_is, get_app_is, get_new, ite_lt, ite_le, at_0, at_1, at_2, at_3, at_4, at_end, tupG_mk, tupG_mk', consG_mk, nilG_mk, sne, sbne, beq_self_eq_true, List.lookup_cons, List.lookup_nil, List.mem_cons, List.not_mem_nil, or_false, false_or, true_or, or_true, and_true, true_and, and_false, false_and, eq_self, Option.isSome_some, Option.isSome_none, Option.map_some, Option.map_none, opIs_nn, opIs_ni, opIsNot_nn, opIsNot_ni, opIsB_b, opIsNotB_b, opMul_l, opMul_r, opEq_b, opNe_b, bMax2_i, bMin2_i, List.map_cons, Sum.inl.injEq, Sum.inr.injEq, isi_l_list, isi_tup_tup, List.length_set, decide_eq_true_eq, negE_mk, Nat.reduceLT, Nat.reduceLeDiff, Nat.reduceEqDiff, Nat.reduceMul, Int.reduceLT, Int.reduceLE, Int.reduceEq, Int.reduceAdd, Int.reduceSub, Int.reduceMul, Int.reduceNeg, Int.reduceToNat, Int.reducePow, Nat.reducePow, Int.reduceMod, Int.reduceDiv, reduceCtorEq, ite_true, List.nil_append, Nat.reduceBEq, isXE_mk, ev_isX, xfE_mk, ev_xf, raiseS_mk, raiseFS_mk, excM_mk, goneF_nxt, goneF_ret, opMulX_i, ev_addRL, ev_addLR, ev_addRR, ite_le2, opAdd_s, opAdd_t, chainE_mk, chainR_b, ev_isl, andE_mk, orE_mk, notE_mk, is_non_int, is_non_bool, is_non_str, is_non_list, is_non_tuple, is_bl_int, is_bl_bool, is_bl_str, is_bl_list, is_bl_tuple, is_int_int, is_int_bool, is_int_str, is_int_list, is_int_tuple, is_str_int, is_str_bool, is_str_str, is_str_list, is_str_tuple, is_tup_int, is_tup_bool, is_tup_str, is_tup_list, is_tup_tuple, is_l_int, is_l_bool, is_l_str, is_l_list, is_l_tuple, unpG_tup, unpG_ref, opEq_s, opNe_s, len2_str, leX_ss, seqIX_mk, srcX_str, ↓toBT, ↓toWT, bt_ok, bt_bt, wt_bt, wt_okM, wt_ok, wt_exc, wt_ite, wt_lift, wt_make, wt_try, hGL.symm, hA1.symm, lA1, hA2.symm, lA2, hA3.symm, lA3, hA4.symm, lA4, hA5.symm, lA5, hA6.symm, lA6, hA7.symm, lA7, mixE_mk] <;> try simp -implicitDefEqProofs only [bt_eq, wt_eq])
  generalize cutD (ns.map D.int) (some 1) (some 61) = L at *
  generalize hsc : D.clst (ns.map D.int) = sc at *
  generalize hZ : Zs N GL (GL + 3) (GL + 6) G0 (GL + 1) (GL + 4) G1 (GL + 2) (GL + 5) p0 p1 = Z at *
  have zG : (GL, O.lst [.ref G0, .ref G1]) ∈ Z := by rw [← hZ]; exact mG
  have zR : (GL + 3, O.lst [.ref (GL + 1), .ref (GL + 2)]) ∈ Z := by rw [← hZ]; exact mR
  have zK : (GL + 6, O.lst [.ref (GL + 4), .ref (GL + 5)]) ∈ Z := by rw [← hZ]; exact mK
  clear y0 y1 y2 y3 y4 y5 y6 ym1 xA1 xA2 xA3 xA4 xA5 xA6 xA7
  obtain ⟨I, hI⟩ := opaque_inv fun (i : Nat) (env : Mir.Env) (m' : Mem) => ∃ y6 y7 y8 y9, env = [some sc, some (.int first), some (.ref N), some (.ref GL), some (.ref (GL + 3)), some (.ref (GL + 6)), y6, y7, y8, y9] ∧ Two m' Z G0 (G0 + 1) (GL + 1) (GL + 4) G1 (G1 + 1) (GL + 2) (GL + 5) p0 p1 (10 * i)
  refine wp_loop (ds := L) I ((hI _ _ _).2 ⟨_, _, _, _, rfl, T0⟩) (fun i env m' p => rfl) ?_ ?_
  · intro i d env m' hi p
    have hil := (List.getElem?_eq_some_iff.1 hi).1
    obtain ⟨c, rfl⟩ := hint d (List.mem_of_getElem? hi)
    obtain ⟨y6, y7, y8, y9, rfl, hT⟩ := (hI _ _ _).1 p
    have tt := trn (hZ ▸ hT) (by omega) (x0 := some sc) (y7 := y7) (y8 := y8) (y9 := y9) (fst := first) (cell := c)
    (simp -implicitDefEqProofs (maxSteps := 2000000) (disch := (first | omega | decide +kernel | (simp only [isSome_set, isSome_app, isSome_new, Option.isSome_some, *]; done) | (simp only [isSome_lt, List.length_set, List.length_append, List.length_cons, List.length_nil, decide_eq_true_eq]; omega))) only [seqS_mk, asgS_mk, ifS_mk, retS_mk, retNS_mk, skipS_mk, dropS_mk, brkS_mk, cntS_mk, forS_mk, seqI_mk, matE_mk, callF_mk, callB_mk, consA_mk, nilA_mk, consT_mk, nilT_mk, tvs_mk, binE_mk, varE_0, varE_s, kE_mk, set_0, set_s, nmG_mk, lstE_mk, tupE_mk, bT_mk, tstT_mk, notT_mk, andT_mk, orT_mk, yesT_mk, andE_mk, orE_mk, notE_mk, ifE_mk, negE_mk, sliceE_mk, noP_mk, intP_mk, bmE_mk, bmE0_mk, isiB_mk, lcE_mk, lcT_mk, wipeE_nil, wipeE_cons, liftF_ok, matD_d, matD_l, boolT_mk, truthM_bl, truthM_int, truthM_non, opAdd_i, opSub_i, opLt_i, opLe_i, opGt_i, opGe_i, opEq_i, opNe_i, opMod_p, opDiv_p, seqSrc_l, seqSrc_clst, seqSrc_tup, ofL_n, ofR_n, opCut_l, opCut_tup, opCut_clst, callB_len_clst, callB_len_l, callB_len_tup, isi_int_int, isi_int_bool, isi_bool_bool, isi_bool_int, if_true, List.map_cons, List.map_nil, Int.toNat_natCast, List.length_cons, List.length_nil, List.replicate_succ, List.replicate_zero, List.cons_append, List.nil_append, Nat.sub_self, Nat.reduceSub, Nat.reduceAdd, ite_at, Bool.not_true, Bool.not_false, decide_true, decide_false, Bool.false_eq_true, if_false, reduceIte, fldE_mk, ev_fld, sfldS_mk, ev_setF, ev_putD_nil, ev_putD, methE_mk, ev_meth, augFS_mk, ev_aug, ev_len, ev_len2, len2_clst, len2_l, len2_tup, ev_list, ev_list2, list_tup, list_clst, list_l, list2_tup, list2_l, list2_clst, ev_tuple, tuple_tup, bTuple_l, ev_cut, ev_idx, ev_idxT, ev_idxL, ev_idxC, subS_mk, ev_subs, subs_l, subs_tup, subs_clst, subs_str, key_int, key_str, ev_getK_nil, ev_getK, ev_put, ev_src, ev_append, ev_extend, listOfM_l, ev_listOfM, listOf_l, listOf_clst, ev_listOf, ev_clear, chk_list, chk_str, chk_dic, dgetE_mk, dgetM_ev, dget2E_mk, dget2M_ev, ev_dget, ev_dgetY, ev_dget2Y, dpopE_mk, get_set_ne', get_set_is, get_app_is, get_new, ite_lt, ite_le, at_0, at_1, at_2, at_3, at_4, at_end, tupG_mk, tupG_mk', consG_mk, nilG_mk, sne, sbne, beq_self_eq_true, List.lookup_cons, List.lookup_nil, List.mem_cons, List.not_mem_nil, or_false, false_or, true_or, or_true, and_true, true_and, and_false, false_and, eq_self, Option.isSome_some, Option.isSome_none, Option.map_some, Option.map_none, opIs_nn, opIs_ni, opIsNot_nn, opIsNot_ni, opIsB_b, opIsNotB_b, opMul_l, opMul_r, opEq_b, opNe_b, bMax2_i, bMin2_i, List.map_cons, Sum.inl.injEq, Sum.inr.injEq, isi_l_list, isi_tup_tup, List.length_set, decide_eq_true_eq, negE_mk, Nat.reduceLT, Nat.reduceLeDiff, Nat.reduceEqDiff, Nat.reduceMul, Int.reduceLT, Int.reduceLE, Int.reduceEq, Int.reduceAdd, Int.reduceSub, Int.reduceMul, Int.reduceNeg, Int.reduceToNat, Int.reducePow, Nat.reducePow, Int.reduceMod, Int.reduceDiv, reduceCtorEq, ite_true, List.nil_append, Nat.reduceBEq, isXE_mk, ev_isX, xfE_mk, ev_xf, raiseS_mk, raiseFS_mk, excM_mk, goneF_nxt, goneF_ret, opMulX_i, ev_addRL, ev_addLR, ev_addRR, ite_le2, opAdd_s, opAdd_t, chainE_mk, chainR_b, ev_isl, andE_mk, orE_mk, notE_mk, is_non_int, is_non_bool, is_non_str, is_non_list, is_non_tuple, is_bl_int, is_bl_bool, is_bl_str, is_bl_list, is_bl_tuple, is_int_int, is_int_bool, is_int_str, is_int_list, is_int_tuple, is_str_int, is_str_bool, is_str_str, is_str_list, is_str_tuple, is_tup_int, is_tup_bool, is_tup_str, is_tup_list, is_tup_tuple, is_l_int, is_l_bool, is_l_str, is_l_list, is_l_tuple, unpG_tup, unpG_ref, opEq_s, opNe_s, len2_str, leX_ss, seqIX_mk, srcX_str, ↓toBT, ↓toWT, bt_ok, bt_bt, wt_bt, wt_okM, wt_ok, wt_exc, wt_ite, wt_lift, wt_make, wt_try] <;> try simp -implicitDefEqProofs only [bt_eq, wt_eq])
    refine wp_then tt ?_
    rintro fl m2 ⟨z7, z8, z9, rfl, hT2⟩
    exact (hI _ _ _).2 ⟨_, _, _, _, rfl, hZ ▸ hT2⟩
  · intro env m' p
    obtain ⟨y6, y7, y8, y9, rfl, hT⟩ := (hI _ _ _).1 p
    clear p hI
    (simp -implicitDefEqProofs (maxSteps := 2000000) (disch := (first | omega | decide +kernel | (simp only [isSome_set, isSome_app, isSome_new, Option.isSome_some, *]; done) | (simp only [isSome_lt, List.length_set, List.length_append, List.length_cons, List.length_nil, decide_eq_true_eq]; omega))) only [seqS_mk, asgS_mk, ifS_mk, retS_mk, retNS_mk, skipS_mk, dropS_mk, brkS_mk, cntS_mk, forS_mk, seqI_mk, matE_mk, callF_mk, callB_mk, consA_mk, nilA_mk, consT_mk, nilT_mk, tvs_mk, binE_mk, varE_0, varE_s, kE_mk, set_0, set_s, nmG_mk, lstE_mk, tupE_mk, bT_mk, tstT_mk, notT_mk, andT_mk, orT_mk, yesT_mk, andE_mk, orE_mk, notE_mk, ifE_mk, negE_mk, sliceE_mk, noP_mk, intP_mk, bmE_mk, bmE0_mk, isiB_mk, lcE_mk, lcT_mk, wipeE_nil, wipeE_cons, liftF_ok, matD_d, matD_l, boolT_mk, truthM_bl, truthM_int, truthM_non, opAdd_i, opSub_i, opLt_i, opLe_i, opGt_i, opGe_i, opEq_i, opNe_i, opMod_p, opDiv_p, seqSrc_l, seqSrc_clst, seqSrc_tup, ofL_n, ofR_n, opCut_l, opCut_tup, opCut_clst, callB_len_clst, callB_len_l, callB_len_tup, isi_int_int, isi_int_bool, isi_bool_bool, isi_bool_int, if_true, List.map_cons, List.map_nil, Int.toNat_natCast, List.length_cons, List.length_nil, List.replicate_succ, List.replicate_zero, List.cons_append, List.nil_append, Nat.sub_self, Nat.reduceSub, Nat.reduceAdd, ite_at, Bool.not_true, Bool.not_false, decide_true, decide_false, Bool.false_eq_true, if_false, reduceIte, fldE_mk, ev_fld, sfldS_mk, ev_setF, ev_putD_nil, ev_putD, methE_mk, ev_meth, augFS_mk, ev_aug, ev_len, ev_len2, len2_clst, len2_l, len2_tup, ev_list, ev_list2, list_tup, list_clst, list_l, list2_tup, list2_l, list2_clst, ev_tuple, tuple_tup, bTuple_l, ev_cut, ev_idx, ev_idxT, ev_idxL, ev_idxC, subS_mk, ev_subs, subs_l, subs_tup, subs_clst, subs_str, key_int, key_str, ev_getK_nil, ev_getK, ev_put, ev_src, ev_append, ev_extend, listOfM_l, ev_listOfM, listOf_l, listOf_clst, ev_listOf, ev_clear, chk_list, chk_str, chk_dic, dgetE_mk, dgetM_ev, dget2E_mk, dget2M_ev, ev_dget, ev_dgetY, ev_dget2Y, dpopE_mk, get_set_ne', get_set_is, get_app_is, get_new, ite_lt, ite_le, at_0, at_1, at_2, at_3, at_4, at_end, tupG_mk, tupG_mk', consG_mk, nilG_mk, sne, sbne, beq_self_eq_true, List.lookup_cons, List.lookup_nil, List.mem_cons, List.not_mem_nil, or_false, false_or, true_or, or_true, and_true, true_and, and_false, false_and, eq_self, Option.isSome_some, Option.isSome_none, Option.map_some, Option.map_none, opIs_nn, opIs_ni, opIsNot_nn, opIsNot_ni, opIsB_b, opIsNotB_b, opMul_l, opMul_r, opEq_b, opNe_b, bMax2_i, bMin2_i, List.map_cons, Sum.inl.injEq, Sum.inr.injEq, isi_l_list, isi_tup_tup, List.length_set, decide_eq_true_eq, negE_mk, Nat.reduceLT, Nat.reduceLeDiff, Nat.reduceEqDiff, Nat.reduceMul, Int.reduceLT, Int.reduceLE, Int.reduceEq, Int.reduceAdd, Int.reduceSub, Int.reduceMul, Int.reduceNeg, Int.reduceToNat, Int.reducePow, Nat.reducePow, Int.reduceMod, Int.reduceDiv, reduceCtorEq, ite_true, List.nil_append, Nat.reduceBEq, isXE_mk, ev_isX, xfE_mk, ev_xf, raiseS_mk, raiseFS_mk, excM_mk, goneF_nxt, goneF_ret, opMulX_i, ev_addRL, ev_addLR, ev_addRR, ite_le2, opAdd_s, opAdd_t, chainE_mk, chainR_b, ev_isl, andE_mk, orE_mk, notE_mk, is_non_int, is_non_bool, is_non_str, is_non_list, is_non_tuple, is_bl_int, is_bl_bool, is_bl_str, is_bl_list, is_bl_tuple, is_int_int, is_int_bool, is_int_str, is_int_list, is_int_tuple, is_str_int, is_str_bool, is_str_str, is_str_list, is_str_tuple, is_tup_int, is_tup_bool, is_tup_str, is_tup_list, is_tup_tuple, is_l_int, is_l_bool, is_l_str, is_l_list, is_l_tuple, unpG_tup, unpG_ref, opEq_s, opNe_s, len2_str, leX_ss, seqIX_mk, srcX_str, ↓toBT, ↓toWT, bt_ok, bt_bt, wt_bt, wt_okM, wt_ok, wt_exc, wt_ite, wt_lift, wt_make, wt_try] <;> try simp -implicitDefEqProofs only [bt_eq, wt_eq])
    rw [rng1_ok (by omega)]
    (simp -implicitDefEqProofs (maxSteps := 2000000) (disch := (first | omega | decide +kernel | (simp only [isSome_set, isSome_app, isSome_new, Option.isSome_some, *]; done) | (simp only [isSome_lt, List.length_set, List.length_append, List.length_cons, List.length_nil, decide_eq_true_eq]; omega))) only [seqS_mk, asgS_mk, ifS_mk, retS_mk, retNS_mk, skipS_mk, dropS_mk, brkS_mk, cntS_mk, forS_mk, seqI_mk, matE_mk, callF_mk, callB_mk, consA_mk, nilA_mk, consT_mk, nilT_mk, tvs_mk, binE_mk, varE_0, varE_s, kE_mk, set_0, set_s, nmG_mk, lstE_mk, tupE_mk, bT_mk, tstT_mk, notT_mk, andT_mk, orT_mk, yesT_mk, andE_mk, orE_mk, notE_mk, ifE_mk, negE_mk, sliceE_mk, noP_mk, intP_mk, bmE_mk, bmE0_mk, isiB_mk, lcE_mk, lcT_mk, wipeE_nil, wipeE_cons, liftF_ok, matD_d, matD_l, boolT_mk, truthM_bl, truthM_int, truthM_non, opAdd_i, opSub_i, opLt_i, opLe_i, opGt_i, opGe_i, opEq_i, opNe_i, opMod_p, opDiv_p, seqSrc_l, seqSrc_clst, seqSrc_tup, ofL_n, ofR_n, opCut_l, opCut_tup, opCut_clst, callB_len_clst, callB_len_l, callB_len_tup, isi_int_int, isi_int_bool, isi_bool_bool, isi_bool_int, if_true, List.map_cons, List.map_nil, Int.toNat_natCast, List.length_cons, List.length_nil, List.replicate_succ, List.replicate_zero, List.cons_append, List.nil_append, Nat.sub_self, Nat.reduceSub, Nat.reduceAdd, ite_at, Bool.not_true, Bool.not_false, decide_true, decide_false, Bool.false_eq_true, if_false, reduceIte, fldE_mk, ev_fld, sfldS_mk, ev_setF, ev_putD_nil, ev_putD, methE_mk, ev_meth, augFS_mk, ev_aug, ev_len, ev_len2, len2_clst, len2_l, len2_tup, ev_list, ev_list2, list_tup, list_clst, list_l, list2_tup, list2_l, list2_clst, ev_tuple, tuple_tup, bTuple_l, ev_cut, ev_idx, ev_idxT, ev_idxL, ev_idxC, subS_mk, ev_subs, subs_l, subs_tup, subs_clst, subs_str, key_int, key_str, ev_getK_nil, ev_getK, ev_put, ev_src, ev_append, ev_extend, listOfM_l, ev_listOfM, listOf_l, listOf_clst, ev_listOf, ev_clear, chk_list, chk_str, chk_dic, dgetE_mk, dgetM_ev, dget2E_mk, dget2M_ev, ev_dget, ev_dgetY, ev_dget2Y, dpopE_mk, get_set_ne', get_set_is, get_app_is, get_new, ite_lt, ite_le, at_0, at_1, at_2, at_3, at_4, at_end, tupG_mk, tupG_mk', consG_mk, nilG_mk, sne, sbne, beq_self_eq_true, List.lookup_cons, List.lookup_nil, List.mem_cons, List.not_mem_nil, or_false, false_or, true_or, or_true, and_true, true_and, and_false, false_and, eq_self, Option.isSome_some, Option.isSome_none, Option.map_some, Option.map_none, opIs_nn, opIs_ni, opIsNot_nn, opIsNot_ni, opIsB_b, opIsNotB_b, opMul_l, opMul_r, opEq_b, opNe_b, bMax2_i, bMin2_i, List.map_cons, Sum.inl.injEq, Sum.inr.injEq, isi_l_list, isi_tup_tup, List.length_set, decide_eq_true_eq, negE_mk, Nat.reduceLT, Nat.reduceLeDiff, Nat.reduceEqDiff, Nat.reduceMul, Int.reduceLT, Int.reduceLE, Int.reduceEq, Int.reduceAdd, Int.reduceSub, Int.reduceMul, Int.reduceNeg, Int.reduceToNat, Int.reducePow, Nat.reducePow, Int.reduceMod, Int.reduceDiv, reduceCtorEq, ite_true, List.nil_append, Nat.reduceBEq, isXE_mk, ev_isX, xfE_mk, ev_xf, raiseS_mk, raiseFS_mk, excM_mk, goneF_nxt, goneF_ret, opMulX_i, ev_addRL, ev_addLR, ev_addRR, ite_le2, opAdd_s, opAdd_t, chainE_mk, chainR_b, ev_isl, andE_mk, orE_mk, notE_mk, is_non_int, is_non_bool, is_non_str, is_non_list, is_non_tuple, is_bl_int, is_bl_bool, is_bl_str, is_bl_list, is_bl_tuple, is_int_int, is_int_bool, is_int_str, is_int_list, is_int_tuple, is_str_int, is_str_bool, is_str_str, is_str_list, is_str_tuple, is_tup_int, is_tup_bool, is_tup_str, is_tup_list, is_tup_tuple, is_l_int, is_l_bool, is_l_str, is_l_list, is_l_tuple, unpG_tup, unpG_ref, opEq_s, opNe_s, len2_str, leX_ss, seqIX_mk, srcX_str, ↓toBT, ↓toWT, bt_ok, bt_bt, wt_bt, wt_okM, wt_ok, wt_exc, wt_ite, wt_lift, wt_make, wt_try] <;> try simp -implicitDefEqProofs only [bt_eq, wt_eq])
    obtain ⟨I2, hI2⟩ := opaque_inv fun (i : Nat) (env : Mir.Env) (m' : Mem) => ∃ y9, env = [some sc, some (.int first), some (.ref N), some (.ref GL), some (.ref (GL + 3)), some (.ref (GL + 6)), y6, y7, y8, y9] ∧ Two m' Z G0 (G0 + 1) (GL + 1) (GL + 4) G1 (G1 + 1) (GL + 2) (GL + 5) p0 p1 (10 * L.length + 1005 * i)
    refine wp_loop (ds := rngL 0 2) I2 ((hI2 _ _ _).2 ⟨_, rfl, hT⟩) (fun i env m' p => rfl) ?_ ?_
    · intro i d env m' hi p
      obtain ⟨hlt, rfl⟩ := rngL_of hi
      obtain ⟨y9, rfl, hT'⟩ := (hI2 _ _ _).1 p
      have st : wpR (B2 [some sc, some (.int first), some (.ref N), some (.ref GL), some (.ref (GL + 3)), some (.ref (GL + 6)), y6, y7, y8, some (.int (0 + (i : Int)))] m') (fun fl m2 => fl = .nxt [some sc, some (.int first), some (.ref N), some (.ref GL), some (.ref (GL + 3)), some (.ref (GL + 6)), y6, y7, y8, some (.int (0 + (i : Int)))] ∧ Two m2 Z G0 (G0 + 1) (GL + 1) (GL + 4) G1 (G1 + 1) (GL + 2) (GL + 5) p0 p1 (10 * L.length + 1005 * i + 1005)) noEx := by
        have : i = 0 ∨ i = 1 := by omega
        rcases this with e | e <;> subst e
        · exact edn hT' (by omega) zG zR zK rfl rfl rfl
        · exact wpR_mono (edn hT'.swap (by omega) zG zR zK rfl rfl rfl) (fun _ _ z => ⟨z.1, z.2.swap⟩) fun _ _ _ z => z
      (simp -implicitDefEqProofs (maxSteps := 2000000) (disch := (first | omega | decide +kernel | (simp only [isSome_set, isSome_app, isSome_new, Option.isSome_some, *]; done) | (simp only [isSome_lt, List.length_set, List.length_append, List.length_cons, List.length_nil, decide_eq_true_eq]; omega))) only [seqS_mk, asgS_mk, ifS_mk, retS_mk, retNS_mk, skipS_mk, dropS_mk, brkS_mk, cntS_mk, forS_mk, seqI_mk, matE_mk, callF_mk, callB_mk, consA_mk, nilA_mk, consT_mk, nilT_mk, tvs_mk, binE_mk, varE_0, varE_s, kE_mk, set_0, set_s, nmG_mk, lstE_mk, tupE_mk, bT_mk, tstT_mk, notT_mk, andT_mk, orT_mk, yesT_mk, andE_mk, orE_mk, notE_mk, ifE_mk, negE_mk, sliceE_mk, noP_mk, intP_mk, bmE_mk, bmE0_mk, isiB_mk, lcE_mk, lcT_mk, wipeE_nil, wipeE_cons, liftF_ok, matD_d, matD_l, boolT_mk, truthM_bl, truthM_int, truthM_non, opAdd_i, opSub_i, opLt_i, opLe_i, opGt_i, opGe_i, opEq_i, opNe_i, opMod_p, opDiv_p, seqSrc_l, seqSrc_clst, seqSrc_tup, ofL_n, ofR_n, opCut_l, opCut_tup, opCut_clst, callB_len_clst, callB_len_l, callB_len_tup, isi_int_int, isi_int_bool, isi_bool_bool, isi_bool_int, if_true, List.map_cons, List.map_nil, Int.toNat_natCast, List.length_cons, List.length_nil, List.replicate_succ, List.replicate_zero, List.cons_append, List.nil_append, Nat.sub_self, Nat.reduceSub, Nat.reduceAdd, ite_at, Bool.not_true, Bool.not_false, decide_true, decide_false, Bool.false_eq_true, if_false, reduceIte, fldE_mk, ev_fld, sfldS_mk, ev_setF, ev_putD_nil, ev_putD, methE_mk, ev_meth, augFS_mk, ev_aug, ev_len, ev_len2, len2_clst, len2_l, len2_tup, ev_list, ev_list2, list_tup, list_clst, list_l, list2_tup, list2_l, list2_clst, ev_tuple, tuple_tup, bTuple_l, ev_cut, ev_idx, ev_idxT, ev_idxL, ev_idxC, subS_mk, ev_subs, subs_l, subs_tup, subs_clst, subs_str, key_int, key_str, ev_getK_nil, ev_getK, ev_put, ev_src, ev_append, ev_extend, listOfM_l, ev_listOfM, listOf_l, listOf_clst, ev_listOf, ev_clear, chk_list, chk_str, chk_dic, dgetE_mk, dgetM_ev, dget2E_mk, dget2M_ev, ev_dget, ev_dgetY, ev_dget2Y, dpopE_mk, get_set_ne', get_set_is, get_app_is, get_new, ite_lt, ite_le, at_0, at_1, at_2, at_3, at_4, at_end, tupG_mk, tupG_mk', consG_mk, nilG_mk, sne, sbne, beq_self_eq_true, List.lookup_cons, List.lookup_nil, List.mem_cons, List.not_mem_nil, or_false, false_or, true_or, or_true, and_true, true_and, and_false, false_and, eq_self, Option.isSome_some, Option.isSome_none, Option.map_some, Option.map_none, opIs_nn, opIs_ni, opIsNot_nn, opIsNot_ni, opIsB_b, opIsNotB_b, opMul_l, opMul_r, opEq_b, opNe_b, bMax2_i, bMin2_i, List.map_cons, Sum.inl.injEq, Sum.inr.injEq, isi_l_list, isi_tup_tup, List.length_set, decide_eq_true_eq, negE_mk, Nat.reduceLT, Nat.reduceLeDiff, Nat.reduceEqDiff, Nat.reduceMul, Int.reduceLT, Int.reduceLE, Int.reduceEq, Int.reduceAdd, Int.reduceSub, Int.reduceMul, Int.reduceNeg, Int.reduceToNat, Int.reducePow, Nat.reducePow, Int.reduceMod, Int.reduceDiv, reduceCtorEq, ite_true, List.nil_append, Nat.reduceBEq, isXE_mk, ev_isX, xfE_mk, ev_xf, raiseS_mk, raiseFS_mk, excM_mk, goneF_nxt, goneF_ret, opMulX_i, ev_addRL, ev_addLR, ev_addRR, ite_le2, opAdd_s, opAdd_t, chainE_mk, chainR_b, ev_isl, andE_mk, orE_mk, notE_mk, is_non_int, is_non_bool, is_non_str, is_non_list, is_non_tuple, is_bl_int, is_bl_bool, is_bl_str, is_bl_list, is_bl_tuple, is_int_int, is_int_bool, is_int_str, is_int_list, is_int_tuple, is_str_int, is_str_bool, is_str_str, is_str_list, is_str_tuple, is_tup_int, is_tup_bool, is_tup_str, is_tup_list, is_tup_tuple, is_l_int, is_l_bool, is_l_str, is_l_list, is_l_tuple, unpG_tup, unpG_ref, opEq_s, opNe_s, len2_str, leX_ss, seqIX_mk, srcX_str, ↓toBT, ↓toWT, bt_ok, bt_bt, wt_bt, wt_okM, wt_ok, wt_exc, wt_ite, wt_lift, wt_make, wt_try] <;> try simp -implicitDefEqProofs only [bt_eq, wt_eq])
      refine wp_then st ?_
      rintro fl m2 ⟨rfl, e⟩
      exact (hI2 _ _ _).2 ⟨_, rfl, by rw [show 10 * L.length + 1005 * (i + 1) = 10 * L.length + 1005 * i + 1005 by omega]; exact e⟩
    · intro env m' p
      obtain ⟨y9, rfl, hT'⟩ := (hI2 _ _ _).1 p
      (simp -implicitDefEqProofs (maxSteps := 2000000) (disch := (first | omega | decide +kernel | (simp only [isSome_set, isSome_app, isSome_new, Option.isSome_some, *]; done) | (simp only [isSome_lt, List.length_set, List.length_append, List.length_cons, List.length_nil, decide_eq_true_eq]; omega))) only [seqS_mk, asgS_mk, ifS_mk, retS_mk, retNS_mk, skipS_mk, dropS_mk, brkS_mk, cntS_mk, forS_mk, seqI_mk, matE_mk, callF_mk, callB_mk, consA_mk, nilA_mk, consT_mk, nilT_mk, tvs_mk, binE_mk, varE_0, varE_s, kE_mk, set_0, set_s, nmG_mk, lstE_mk, tupE_mk, bT_mk, tstT_mk, notT_mk, andT_mk, orT_mk, yesT_mk, andE_mk, orE_mk, notE_mk, ifE_mk, negE_mk, sliceE_mk, noP_mk, intP_mk, bmE_mk, bmE0_mk, isiB_mk, lcE_mk, lcT_mk, wipeE_nil, wipeE_cons, liftF_ok, matD_d, matD_l, boolT_mk, truthM_bl, truthM_int, truthM_non, opAdd_i, opSub_i, opLt_i, opLe_i, opGt_i, opGe_i, opEq_i, opNe_i, opMod_p, opDiv_p, seqSrc_l, seqSrc_clst, seqSrc_tup, ofL_n, ofR_n, opCut_l, opCut_tup, opCut_clst, callB_len_clst, callB_len_l, callB_len_tup, isi_int_int, isi_int_bool, isi_bool_bool, isi_bool_int, if_true, List.map_cons, List.map_nil, Int.toNat_natCast, List.length_cons, List.length_nil, List.replicate_succ, List.replicate_zero, List.cons_append, List.nil_append, Nat.sub_self, Nat.reduceSub, Nat.reduceAdd, ite_at, Bool.not_true, Bool.not_false, decide_true, decide_false, Bool.false_eq_true, if_false, reduceIte, fldE_mk, ev_fld, sfldS_mk, ev_setF, ev_putD_nil, ev_putD, methE_mk, ev_meth, augFS_mk, ev_aug, ev_len, ev_len2, len2_clst, len2_l, len2_tup, ev_list, ev_list2, list_tup, list_clst, list_l, list2_tup, list2_l, list2_clst, ev_tuple, tuple_tup, bTuple_l, ev_cut, ev_idx, ev_idxT, ev_idxL, ev_idxC, subS_mk, ev_subs, subs_l, subs_tup, subs_clst, subs_str, key_int, key_str, ev_getK_nil, ev_getK, ev_put, ev_src, ev_append, ev_extend, listOfM_l, ev_listOfM, listOf_l, listOf_clst, ev_listOf, ev_clear, chk_list, chk_str, chk_dic, dgetE_mk, dgetM_ev, dget2E_mk, dget2M_ev, ev_dget, ev_dgetY, ev_dget2Y, dpopE_mk, get_set_ne', get_set_is, get_app_is, get_new, ite_lt, ite_le, at_0, at_1, at_2, at_3, at_4, at_end, tupG_mk, tupG_mk', consG_mk, nilG_mk, sne, sbne, beq_self_eq_true, List.lookup_cons, List.lookup_nil, List.mem_cons, List.not_mem_nil, or_false, false_or, true_or, or_true, and_true, true_and, and_false, false_and, eq_self, Option.isSome_some, Option.isSome_none, Option.map_some, Option.map_none, opIs_nn, opIs_ni, opIsNot_nn, opIsNot_ni, opIsB_b, opIsNotB_b, opMul_l, opMul_r, opEq_b, opNe_b, bMax2_i, bMin2_i, List.map_cons, Sum.inl.injEq, Sum.inr.injEq, isi_l_list, isi_tup_tup, List.length_set, decide_eq_true_eq, negE_mk, Nat.reduceLT, Nat.reduceLeDiff, Nat.reduceEqDiff, Nat.reduceMul, Int.reduceLT, Int.reduceLE, Int.reduceEq, Int.reduceAdd, Int.reduceSub, Int.reduceMul, Int.reduceNeg, Int.reduceToNat, Int.reducePow, Nat.reducePow, Int.reduceMod, Int.reduceDiv, reduceCtorEq, ite_true, List.nil_append, Nat.reduceBEq, isXE_mk, ev_isX, xfE_mk, ev_xf, raiseS_mk, raiseFS_mk, excM_mk, goneF_nxt, goneF_ret, opMulX_i, ev_addRL, ev_addLR, ev_addRR, ite_le2, opAdd_s, opAdd_t, chainE_mk, chainR_b, ev_isl, andE_mk, orE_mk, notE_mk, is_non_int, is_non_bool, is_non_str, is_non_list, is_non_tuple, is_bl_int, is_bl_bool, is_bl_str, is_bl_list, is_bl_tuple, is_int_int, is_int_bool, is_int_str, is_int_list, is_int_tuple, is_str_int, is_str_bool, is_str_str, is_str_list, is_str_tuple, is_tup_int, is_tup_bool, is_tup_str, is_tup_list, is_tup_tuple, is_l_int, is_l_bool, is_l_str, is_l_list, is_l_tuple, unpG_tup, unpG_ref, opEq_s, opNe_s, len2_str, leX_ss, seqIX_mk, srcX_str, ↓toBT, ↓toWT, bt_ok, bt_bt, wt_bt, wt_okM, wt_ok, wt_exc, wt_ite, wt_lift, wt_make, wt_try] <;> try simp -implicitDefEqProofs only [bt_eq, wt_eq])
theorem law_true (ns : List Int) (hl : ns.length ≤ 63) : ∃ m', F_law [.clst (ns.map D.int)] [] = .ok (.bl true) m' := law_of_wp (law_wp ns hl []).w
end Law

open PySem PySem.W PyProof.Rows in
set_option maxRecDepth 100000 in
set_option maxHeartbeats 0 in
theorem PySem.Challenge.cw_roadnet_k31_what_waits_at_a_gate_holds : PySem.Challenge.rw_roadnet_k31_what_waits_at_a_gate.Holds := by
  w_on; o_law; k_head; (case hw => w_witness2)
  k_fill
  refine Law.walk (l := PySem.Challenge.rw_roadnet_k31_what_waits_at_a_gate) rfl rfl Law.law_true (fun w h Y => PySem.W.kIn_of Y) ?F
  case F =>
    intro w mg fa h KX G hmg
    refine' Law.all_mk KX G hmg ?ac_Gate ?pg_Gate ?hd_Gate ?po_Gate ?sa_Gate ?mk_Gate ?kc_Gate ?nf_places_Gate ?nf_kept_Gate ?nf_line_up_Gate ?a0 ?i0 ?l0 ?c0 ?k0 ?a1 ?i1 ?l1 ?c1 ?k1 ?a2 ?i2 ?l2 ?c2 ?k2 ?a3 ?i3 ?l3 ?c3 ?k3 ?a4 ?l4 ?c4 ?k4 ?a5 ?l5 ?c5 ?k5 ?a6 ?i6 ?l6 ?c6 ?k6 ?a7 ?l7 ?c7 ?k7 ?a8 ?l8 ?c8 ?k8 ?a9 ?l9 ?c9 ?k9 ?a10 ?l10 ?c10 ?k10 ?a11 ?l11 ?c11 ?k11 ?a12 ?i12 ?l12 ?c12 ?k12 ?a13 ?l13 ?c13 ?k13 ?a14 ?l14 ?c14 ?k14 ?z_bool ?z_int ?z_isinstance ?z_len ?z_list ?z_range
    (case ac_Gate => k_is)
    (case pg_Gate => k_is)
    (case hd_Gate => k_is)
    (case po_Gate => k_is)
    (case sa_Gate => k_is)
    (case mk_Gate => k_is)
    (case kc_Gate => k_is)
    (case nf_places_Gate => k_is)
    (case nf_kept_Gate => k_is)
    (case nf_line_up_Gate => k_is)
    (case a0 => k_is)
    (case i0 => k_is)
    (case l0 => k_is)
    (case c0 => k_is)
    (case k0 => k_is)
    (case a1 => k_is)
    (case i1 => k_is)
    (case l1 => k_is)
    (case c1 => k_is)
    (case k1 => k_is)
    (case a2 => k_is)
    (case i2 => k_is)
    (case l2 => k_is)
    (case c2 => k_is)
    (case k2 => k_is)
    (case a3 => k_is)
    (case i3 => k_is)
    (case l3 => k_is)
    (case c3 => k_is)
    (case k3 => k_is)
    (case a4 => k_is)
    (case l4 => k_is)
    (case c4 => k_is)
    (case k4 => k_is)
    (case a5 => k_is)
    (case l5 => k_is)
    (case c5 => k_is)
    (case k5 => k_is)
    (case a6 => k_is)
    (case i6 => k_is)
    (case l6 => k_is)
    (case c6 => k_is)
    (case k6 => k_is)
    (case a7 => k_is)
    (case l7 => k_is)
    (case c7 => k_is)
    (case k7 => k_is)
    (case a8 => k_is)
    (case l8 => k_is)
    (case c8 => k_is)
    (case k8 => k_is)
    (case a9 => k_is)
    (case l9 => k_is)
    (case c9 => k_is)
    (case k9 => k_is)
    (case a10 => k_is)
    (case l10 => k_is)
    (case c10 => k_is)
    (case k10 => k_is)
    (case a11 => k_is)
    (case l11 => k_is)
    (case c11 => k_is)
    (case k11 => k_is)
    (case a12 => k_is)
    (case i12 => k_is)
    (case l12 => k_is)
    (case c12 => k_is)
    (case k12 => k_is)
    (case a13 => k_is)
    (case l13 => k_is)
    (case c13 => k_is)
    (case k13 => k_is)
    (case a14 => k_is)
    (case l14 => k_is)
    (case c14 => k_is)
    (case k14 => k_is)
    (case z_bool => k_is)
    (case z_int => k_is)
    (case z_isinstance => k_is)
    (case z_len => k_is)
    (case z_list => k_is)
    (case z_range => k_is)
