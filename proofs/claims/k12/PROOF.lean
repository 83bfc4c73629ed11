import PyProof.Rows.All
import KE.KeyNested
import PyProof.DictKinds
import PyProof.DictMoreH
import PyProof.DictTruth
import PyProof.Rows.TupTab
import PySem.Syntax
import PySem.PyData
import KE.SortData
import HandS.ForMost
import HandS.ForExc
import HandS.Walk
import HandS.Flow
import HandS.IsInst
import KE.KEqDict
import HandS.TupAny
import HandS.CallSlots
import HandS.More
import KE.GoesMore
import HandS.ExcInit
import HandS.ExcOwn
import HandS.ExcField
import HandS.ExcIs
import HandS.TryOnly
import OpenK.KCls
import KE.KExcIs
import HandS.Words
import PySem.Challenge.RW_factsandfar_k12_check_facts
set_option linter.all false
set_option maxRecDepth 100000
set_option Elab.async false
set_option autoImplicit false
/-! VLK: dicts whose keys are flat or nested, of any mixture. -/
namespace VL
open PySem PySem.Spec PySem.SeqAt
open Sem (wp)
/-- one entry: its key, the key's value, its value -/
abbrev KRow := NestedKey × Value × Value
def entK (w : World) (x : KRow) : DictEntry := ⟨x.1.hash w, x.2.1, x.2.2⟩
def KeyOk (h : Heap) (k : NestedKey) (v : Value) : Prop := NestedIs h k v ∧ k.depth ≤ 8
/-- the dict at d -/
def DictN (w : World) (h : Heap) (d : Addr) (xs : List KRow) : Prop :=
  ∃ o es ep, h.get? d = some o ∧ o.ExactDict ∧ o.data = .dict es ep ∧ es.toList = xs.map (entK w) ∧ (∀ x ∈ xs, KeyOk h x.1 x.2.1) ∧ (xs.map (·.1)).Nodup
def rowAt (xs : List KRow) (k : NestedKey) : Option (Value × Value) := (xs.find? fun x => decide (x.1 = k)).map (·.2)
def rowPut (k : NestedKey) (v : Value) (x : KRow) : KRow := if x.1 = k then (x.1, x.2.1, v) else x
def rowsSet (xs : List KRow) (k : NestedKey) (key v : Value) : List KRow := if (rowAt xs k).isSome then xs.map (rowPut k v) else xs ++ [(k, key, v)]

section
variable {xs : List KRow} {k : NestedKey}
theorem row_uniq (hn : (xs.map (·.1)).Nodup) {i j : Nat} {p q : Value × Value} (hi : xs[i]? = some (k, p)) (hj : xs[j]? = some (k, q)) : i = j := by
  have e1 : (xs.map (·.1))[i]? = some k := by rw [List.getElem?_map, hi]; rfl
  have e2 : (xs.map (·.1))[j]? = some k := by rw [List.getElem?_map, hj]; rfl
  exact (List.getElem?_inj (List.getElem?_eq_some_iff.mp e1).1 hn).mp (e1.trans e2.symm)
theorem rowAt_get : ∀ {xs : List KRow} {i : Nat} {p : Value × Value}, (xs.map (·.1)).Nodup → xs[i]? = some (k, p) → rowAt xs k = some p
  | [], _, _, _, h => by simp at h
  | x :: xs, 0, p, _, h => by
    simp only [List.getElem?_cons_zero, Option.some.injEq] at h
    subst h
    simp [rowAt]
  | x :: xs, i + 1, p, hn, h => by
    rw [List.map_cons, List.nodup_cons] at hn
    simp only [List.getElem?_cons_succ] at h
    have hm : k ∈ xs.map (·.1) := List.mem_map.mpr ⟨(k, p), List.mem_of_getElem? h, rfl⟩
    have hne : ¬ x.1 = k := fun e => hn.1 (by rw [e]; exact hm)
    have := rowAt_get hn.2 h
    simpa [rowAt, List.find?_cons, hne] using this
theorem rowAt_no (h : ∀ (j : Nat) (p : Value × Value), xs[j]? ≠ some (k, p)) : rowAt xs k = none := by
  have : (xs.find? fun x => decide (x.1 = k)) = none := by
    rw [List.find?_eq_none]
    intro x hx hk
    obtain ⟨j, hj⟩ := List.mem_iff_getElem?.mp hx
    obtain rfl : x.1 = k := of_decide_eq_true hk
    exact h j x.2 hj
  simp [rowAt, this]
theorem row_notin (h : ∀ (j : Nat) (p : Value × Value), xs[j]? ≠ some (k, p)) : k ∉ xs.map (·.1) := fun hm => by
  obtain ⟨x, hx, rfl⟩ := List.mem_map.mp hm
  obtain ⟨j, hj⟩ := List.mem_iff_getElem?.mp hx
  exact h j x.2 hj
theorem rowPut_out : ∀ (xs : List KRow) (k : NestedKey) (v : Value), k ∉ xs.map (·.1) → xs.map (rowPut k v) = xs
  | [], _, _, _ => rfl
  | x :: xs, k, v, h => by
    rw [List.map_cons, List.mem_cons, not_or] at h
    rw [List.map_cons, rowPut_out xs k v h.2, rowPut, if_neg (Ne.symm h.1)]
theorem rowPut_keys (xs : List KRow) (k : NestedKey) (v : Value) : (xs.map (rowPut k v)).map (·.1) = xs.map (·.1) := by
  rw [List.map_map]
  apply List.map_congr_left
  intro x _
  unfold Function.comp rowPut
  split <;> rfl
theorem rowPut_modify (w : World) (v : Value) : ∀ {xs : List KRow} {j : Nat} {p : Value × Value}, (xs.map (·.1)).Nodup → xs[j]? = some (k, p) →
    (xs.map (entK w)).modify j (fun e : DictEntry => { e with val := v }) = (xs.map (rowPut k v)).map (entK w)
  | [], _, _, _, h => by simp at h
  | x :: xs, 0, p, hn, h => by
    rw [List.map_cons, List.nodup_cons] at hn
    simp only [List.getElem?_cons_zero, Option.some.injEq] at h
    subst h
    rw [List.map_cons, List.map_cons, rowPut_out xs k v hn.1, rowPut, if_pos rfl, List.map_cons]
    rfl
  | x :: xs, j + 1, p, hn, h => by
    rw [List.map_cons, List.nodup_cons] at hn
    simp only [List.getElem?_cons_succ] at h
    have hm : k ∈ xs.map (·.1) := List.mem_map.mpr ⟨(k, p), List.mem_of_getElem? h, rfl⟩
    have hne : ¬ x.1 = k := fun e => hn.1 (by rw [e]; exact hm)
    rw [List.map_cons, List.map_cons, rowPut, if_neg hne, List.map_cons]
    show entK w x :: (xs.map (entK w)).modify j _ = _
    rw [rowPut_modify w v hn.2 h]
end

section
variable {w : World} {es : Array DictEntry} {xs : List KRow}
theorem ent_at (he : es.toList = xs.map (entK w)) (j : Nat) : es[j]? = (xs[j]?).map (entK w) := by
  rw [← Array.getElem?_toList, he, List.getElem?_map]
theorem ent_size (he : es.toList = xs.map (entK w)) : es.size = xs.length := by
  rw [← Array.length_toList, he, List.length_map]
theorem is_text {h : Heap} {k : NestedKey} {v : Value} (hk : NestedIs h k v) (x : Str) : v.isStr x = decide (k = .text x) := by
  cases hk with
  | none => simp [Value.isStr]
  | bool e => simp [Value.isStr]
  | int i t => simp [Value.isStr]
  | text y t =>
    by_cases z : y = x
    · subst z; simp [Value.isStr]
    · have : ¬ (NestedKey.text y = .text x) := fun e => z (by injection e)
      simp [Value.isStr, z, this]
  | tup _ _ _ _ => simp [Value.isStr]
theorem key_eq {A : Around} {s : Shared} {x y : NestedKey} {a b : Value} (hu : A.units + 8 < cLine) (hx : KeyOk s.heap x a) (hy : KeyOk s.heap y b) : EqAt A s a b (decide (x = y)) := by
  have h1 := hx.2
  have := eqAt_key x y A s a b hx.1 hy.1 (by omega)
  rwa [← NestedKey.decide_eq] at this
end

section
variable {prog : Program} {w : World} {A : Around} {E : Value → Shared → Prop} {s : Shared}
theorem tell_no {k : NestedKey} {key : Value} {st : List Value} {Q : Bool → Shared → Prop} (hk : KeyOk s.heap k key) (hst : ∀ v ∈ st, ∃ k', KeyOk s.heap k' v) (h : Q false s) : wpAny (model prog w) A (tableMayTell key st) Q E s := by
  unfold tableMayTell
  split
  · exact wpAny_pure h
  · refine wpAny_bind (quiet_key k key 8 s hk.1 hk.2 A E _ ?_)
    simp only [Bool.not_true, Bool.false_eq_true, if_false]
    refine wpAny_bind ?_
    refine wpAny_forIn_list _ (fun left r s' => s' = s ∧ r = (none, ()) ∧ ∀ v ∈ left, ∃ k', KeyOk s.heap k' v) _ ?_ ?_ _ _ ⟨rfl, rfl, hst⟩
    · rintro x left r s' ⟨rfl, rfl, hr⟩
      obtain ⟨k', hb⟩ := hr x List.mem_cons_self
      refine wpAny_bind (quiet_key k' x 8 s' hb.1 hb.2 A E _ ?_)
      simp only [Bool.not_true, Bool.false_eq_true, if_false]
      exact wpAny_pure ⟨rfl, rfl, fun v hv => hr v (List.mem_cons_of_mem _ hv)⟩
    · rintro r s' ⟨rfl, rfl, _⟩
      exact wpAny_pure h
/-- the loop's word: below i there is no k, or the one that was met -/
def NoneBelow (xs : List KRow) (k : NestedKey) (i : Nat) : Prop := ∀ (j : Nat) (p : Value × Value), j < i → xs[j]? ≠ some (k, p)
theorem none_step {xs : List KRow} {k : NestedKey} {es : Array DictEntry} (he : es.toList = xs.map (entK w)) {i x : Nat} (hno : NoneBelow xs k i) (hskip : ∀ j, i ≤ j → j < x → ((es[j]?.map (·.hash)) == some (k.hash w)) = false) : NoneBelow xs k x := fun j p hjx hj => by
  rcases Nat.lt_or_ge j i with h | h
  · exact hno j p h hj
  · have := hskip j h hjx
    rw [ent_at he j, hj] at this
    simp [entK] at this
theorem none_next {xs : List KRow} {k k' : NestedKey} {x : Nat} {p : Value × Value} (hno : NoneBelow xs k x) (hx : xs[x]? = some (k', p)) (hne : ¬ k' = k) : NoneBelow xs k (x + 1) := fun j q hjx hj => by
  rcases Nat.lt_or_ge j x with h | h
  · exact hno j q h hj
  · obtain rfl : j = x := by omega
    rw [hx] at hj
    cases hj
    exact hne rfl
theorem find_plain {d : Addr} {o : Obj} {es : Array DictEntry} {ep : Nat} {xs : List KRow} {k : NestedKey} {key : Value} {Q : Option Nat → Shared → Prop} (hu : A.units + 8 < cLine) (hk : KeyOk s.heap k key)
    (ho : s.heap.get? d = some o) (hd : o.data = .dict es ep) (he : es.toList = xs.map (entK w)) (his : ∀ x ∈ xs, KeyOk s.heap x.1 x.2.1)
    (hnone : (∀ (j : Nat) (p : Value × Value), xs[j]? ≠ some (k, p)) → Q none s) (hsome : ∀ (j : Nat) (p : Value × Value), xs[j]? = some (k, p) → Q (some j) s) :
    wpAny (model prog w) A (dictWalkPlain d key (k.hash w) es (placesWithHash es.size (fun i => es[i]?.map (·.hash)) (k.hash w))) Q E s := by
  have hsz : es.size = xs.length := ent_size he
  refine wpAny_bind ?_
  refine wpAny_forIn_list _
    (fun left b s' => s' = s ∧ b = (none, ()) ∧ ∃ i, left = (List.range' i (es.size - i)).filter (fun i => (es[i]?.map (·.hash)) == some (k.hash w)) ∧ i ≤ es.size ∧ NoneBelow xs k i) _ ?_ ?_ _ _
    ⟨rfl, rfl, 0, by rw [placesWithHash, List.range_eq_range', Nat.sub_zero], Nat.zero_le _, fun _ _ h => absurd h (Nat.not_lt_zero _)⟩
  · rintro x left b s' ⟨rfl, rfl, i, hr, hi, hno⟩
    obtain ⟨hix, hxn, hpx, hskip, hleft⟩ := filter_range'_cons _ _ _ _ _ hr.symm
    have hlt : x < es.size := by omega
    obtain ⟨⟨k', kv, v'⟩, hkv⟩ : ∃ y, xs[x]? = some y := ⟨xs[x]'(by rw [← hsz]; exact hlt), List.getElem?_eq_getElem _⟩
    have hib : KeyOk s'.heap k' kv := his _ (List.mem_of_getElem? hkv)
    have hex : es[x]? = some ⟨k'.hash w, kv, v'⟩ := by rw [ent_at he x, hkv]; rfl
    have hx := none_step he hno hskip
    have hleft' : left = (List.range' (x + 1) (es.size - (x + 1))).filter (fun i => (es[i]?.map (·.hash)) == some (k.hash w)) := by rw [hleft]; congr 2; omega
    rw [hex]
    dsimp only
    by_cases hh : (k'.hash w == k.hash w) = true
    · rw [if_pos hh]
      refine wpAny_bind (wpAny_dictEpoch ho hd (wpAny_bind (key_eq hu hib hk _ _ _ _ (wpAny_bind (wpAny_dictEpoch ho hd ?_)))))
      show wpAny _ _ (if (ep != ep) = true then _ else _) _ E _
      rw [if_neg (by simp)]
      by_cases hkk : k' = k
      · rw [decide_eq_true hkk]
        subst hkk
        exact wpAny_bind (wpAny_rule (wpAny_pure (wpAny_pure (hsome x _ hkv))))
      · rw [decide_eq_false hkk]
        exact wpAny_bind (wpAny_rule (wpAny_pure ⟨rfl, rfl, x + 1, hleft', hlt, none_next hx hkv hkk⟩))
    · rw [if_neg hh]
      refine wpAny_pure ⟨rfl, rfl, x + 1, hleft', hlt, none_next hx hkv fun hkk => ?_⟩
      rw [hkk] at hh
      simp at hh
  · rintro b s' ⟨rfl, rfl, i, hr, hi, hno⟩
    refine wpAny_pure (hnone fun j p hj => ?_)
    rcases Nat.lt_or_ge j i with h | h
    · exact hno j p h hj
    · have hjl : j < es.size := by rw [hsz]; exact (List.getElem?_eq_some_iff.mp hj).1
      have := List.filter_eq_nil_iff.mp hr.symm j (List.mem_range'_1.mpr ⟨h, by omega⟩)
      rw [ent_at he j, hj] at this
      simp [entK] at this
theorem find_text {d : Addr} {o : Obj} {es : Array DictEntry} {ep : Nat} {xs : List KRow} {x : Str} {t : Tok} {Q : Option Nat → Shared → Prop} (hu : A.units + 8 < cLine)
    (ho : s.heap.get? d = some o) (hd : o.data = .dict es ep) (he : es.toList = xs.map (entK w)) (his : ∀ x ∈ xs, KeyOk s.heap x.1 x.2.1)
    (hnone : (∀ (j : Nat) (p : Value × Value), xs[j]? ≠ some (.text x, p)) → Q none s) (hsome : ∀ (j : Nat) (p : Value × Value), xs[j]? = some (.text x, p) → Q (some j) s) :
    wpAny (model prog w) A (foundByValue d (.str x t) es x) Q E s := by
  have hsz : es.size = xs.length := ent_size he
  have isx : ∀ (j : Nat) (hj : j < es.size), ∃ k' kv v', xs[j]? = some (k', kv, v') ∧ es[j] = ⟨k'.hash w, kv, v'⟩ ∧ KeyOk s.heap k' kv := fun j hj => by
    have e1 : xs[j]? = some (xs[j]'(by rw [← hsz]; exact hj)) := List.getElem?_eq_getElem _
    refine ⟨_, _, _, e1, ?_, his _ (List.mem_of_getElem? e1)⟩
    have := ent_at he j
    rw [e1, Array.getElem?_eq_getElem hj] at this
    exact Option.some.inj this
  have hk : KeyOk s.heap (.text x) (.str x t) := ⟨.text x t, Nat.zero_le _⟩
  unfold foundByValue
  cases hf : es.findIdx? (fun e => e.key.isStr x) with
  | none =>
    refine wpAny_pure (hnone fun j p hj => ?_)
    have hjl : j < es.size := by rw [hsz]; exact (List.getElem?_eq_some_iff.mp hj).1
    have h1 := Array.findIdx?_eq_none_iff.mp hf es[j] (Array.getElem_mem hjl)
    obtain ⟨k', kv, v', e1, e2, e3⟩ := isx j hjl
    rw [hj] at e1
    cases e1
    rw [e2] at h1
    have h2 := is_text e3.1 x
    rw [h1] at h2
    simp at h2
  | some i =>
    obtain ⟨hlt, hi, _⟩ := Array.findIdx?_eq_some_iff_getElem.mp hf
    obtain ⟨k', kv, v', e1, e2, e3⟩ := isx i hlt
    rw [e2] at hi
    rw [is_text e3.1 x] at hi
    have hkk : k' = .text x := of_decide_eq_true hi
    simp only [Array.getElem?_eq_getElem hlt]
    refine wpAny_bind (wpAny_dictEpoch ho hd (wpAny_bind ?_))
    rw [e2]
    refine key_eq hu e3 hk _ _ _ _ (wpAny_bind (wpAny_dictEpoch ho hd ?_))
    show wpAny _ _ (if (ep != ep) = true then _ else _) _ E _
    rw [if_neg (by simp), decide_eq_true hkk]
    subst hkk
    exact wpAny_bind (wpAny_rule (wpAny_pure (hsome i _ e1)))
end
end VL

/-! VLK2: looking a key up, get, set. -/
namespace VL
open PySem PySem.Spec PySem.SeqAt
section
variable {prog : Program} {w : World} {A : Around} {E : Value → Shared → Prop} {s : Shared}
theorem find_N {d : Addr} {o : Obj} {es : Array DictEntry} {ep : Nat} {xs : List KRow} {k : NestedKey} {key : Value} {Q : Option Nat → Shared → Prop} (hu : A.units + 8 < cLine) (hk : KeyOk s.heap k key)
    (ho : s.heap.get? d = some o) (hd : o.data = .dict es ep) (he : es.toList = xs.map (entK w)) (his : ∀ x ∈ xs, KeyOk s.heap x.1 x.2.1) (hn : (xs.map (·.1)).Nodup)
    (hnone : (∀ (j : Nat) (p : Value × Value), xs[j]? ≠ some (k, p)) → Q none s) (hsome : ∀ (j : Nat) (p : Value × Value), xs[j]? = some (k, p) → Q (some j) s) :
    wpAny (model prog w) A (dictFind d key (k.hash w)) Q E s := by
  have hsz : es.size = xs.length := ent_size he
  have hmem : ∀ e ∈ es, ∃ x ∈ xs, e = entK w x := by
    intro e hin
    have : e ∈ xs.map (entK w) := he ▸ Array.mem_toList_iff.mpr hin
    obtain ⟨x, hx, rfl⟩ := List.mem_map.mp this
    exact ⟨x, hx, rfl⟩
  have hst : ∀ v ∈ (placesWithHash es.size (fun i => es[i]?.map (·.hash)) (k.hash w)).filterMap (fun i => es[i]?.map (·.key)), ∃ k', KeyOk s.heap k' v := by
    intro v hv
    obtain ⟨i, _, hi⟩ := List.mem_filterMap.mp hv
    cases hei : es[i]? with
    | none => rw [hei] at hi; cases hi
    | some e =>
      rw [hei] at hi
      obtain rfl : e.key = v := by simpa using hi
      obtain ⟨x, hx, rfl⟩ := hmem e (Array.mem_of_getElem? hei)
      exact ⟨x.1, his x hx⟩
  unfold dictFind
  try with_reducible refine wpAny_holding ?_
  refine wpAny_bind (wpAny_dictEntries ho hd ?_)
  dsimp only
  by_cases hall : ((key :: (placesWithHash es.size (fun i => es[i]?.map (·.hash)) (k.hash w)).filterMap (fun i => es[i]?.map (·.key))).all carriedByValue) = true
  · rw [if_pos hall]
    have plain := find_plain (prog := prog) (E := E) hu hk ho hd he his hnone hsome
    split
    · rename_i x t
      split
      · have e : k = .text x := by
          have h0 := hk.1
          generalize hv : Value.str x t = v at h0
          cases h0 <;> first | (cases hv; done) | (cases hv; rfl)
        subst e
        exact find_text hu ho hd he his hnone hsome
      · exact plain
    · exact plain
  · rw [if_neg hall]
    have hany : ¬ (es.any fun e => e.key == key && e.hash != k.hash w) = true := by
      rw [← Array.any_toList, List.any_eq_true]
      rintro ⟨e, hin, hc⟩
      obtain ⟨x, hx, rfl⟩ := hmem e (Array.mem_toList_iff.mp hin)
      simp only [entK, Bool.and_eq_true, beq_iff_eq, bne_iff_ne, ne_eq] at hc
      obtain ⟨hxa, hne⟩ := hc
      have h1 := (his x hx).1
      rw [hxa] at h1
      exact hne (by rw [NestedIs.inj _ _ _ h1 hk.1])
    split
    · rename_i x t
      by_cases hq : (es.all fun e => isExactStrKey e.key) = true
      · rw [if_pos hq]
        have e : k = .text x := by
          have h0 := hk.1
          generalize hv : Value.str x t = v at h0
          cases h0 <;> first | (cases hv; done) | (cases hv; rfl)
        subst e
        exact find_text hu ho hd he his hnone hsome
      · rw [if_neg hq]
        dsimp only
        by_cases hone : (((placesWithHash es.size (fun i => es[i]?.map (·.hash)) (k.hash w)).filterMap (fun i => es[i]?.map (·.key))) == [Value.str x t]) = true <;> (first | rw [if_pos hone] | rw [if_neg hone]) <;> (first | refine wpAny_bind (wpAny_pure ?_) | refine wpAny_bind (tell_no hk hst ?_)) <;> (
          rw [Bool.false_and, if_neg Bool.false_ne_true]
          refine wpAny_bind ?_
          refine wpAny_forIn_list _
            (fun left b s' => s' = s ∧ ∃ i hit, b = (none, hit) ∧ left = (List.range' i (es.size - i)).filter (fun i => (es[i]?.map (·.hash)) == some (k.hash w)) ∧ i ≤ es.size ∧
              ((hit = none ∧ NoneBelow xs k i) ∨ ∃ j p, hit = some j ∧ j < i ∧ xs[j]? = some (k, p))) _ ?_ ?_ _ _
            ⟨rfl, 0, none, rfl, by rw [placesWithHash, List.range_eq_range', Nat.sub_zero], Nat.zero_le _, .inl ⟨rfl, fun _ _ h => absurd h (Nat.not_lt_zero _)⟩⟩
          · rintro x left b s' ⟨rfl, i, hit, rfl, hr, hi, hH⟩
            obtain ⟨hix, hxn, hpx, hskip, hleft⟩ := filter_range'_cons _ _ _ _ _ hr.symm
            have hlt : x < es.size := by omega
            have hleft' : left = (List.range' (x + 1) (es.size - (x + 1))).filter (fun i => (es[i]?.map (·.hash)) == some (k.hash w)) := by rw [hleft]; congr 2; omega
            obtain ⟨⟨k', kv, v'⟩, hkv⟩ : ∃ y, xs[x]? = some y := ⟨xs[x]'(by rw [← hsz]; exact hlt), List.getElem?_eq_getElem _⟩
            have hib : KeyOk s'.heap k' kv := his _ (List.mem_of_getElem? hkv)
            have hex : es[x]? = some ⟨k'.hash w, kv, v'⟩ := by rw [ent_at he x, hkv]; rfl
            have hHx : (hit = none ∧ NoneBelow xs k x) ∨ ∃ j p, hit = some j ∧ j < x ∧ xs[j]? = some (k, p) := by
              rcases hH with ⟨h0, hno⟩ | ⟨j, p, h1, hji, hj⟩
              · exact .inl ⟨h0, none_step he hno hskip⟩
              · exact .inr ⟨j, p, h1, by omega, hj⟩
            have hstay : ¬ k' = k → ((hit = none ∧ NoneBelow xs k (x + 1)) ∨ ∃ j p, hit = some j ∧ j < x + 1 ∧ xs[j]? = some (k, p)) := fun hne => by
              rcases hHx with ⟨h0, hno⟩ | ⟨j, p, h1, hjx, hj⟩
              · exact .inl ⟨h0, none_next hno hkv hne⟩
              · exact .inr ⟨j, p, h1, by omega, hj⟩
            rw [hex]
            dsimp only
            by_cases hh : (k'.hash w == k.hash w) = true
            · rw [if_pos hh]
              refine wpAny_bind (wpAny_dictEpoch ho hd (wpAny_bind (key_eq hu hib hk _ _ _ _ (wpAny_bind (wpAny_dictEpoch ho hd ?_)))))
              show wpAny _ _ (if (ep != ep) = true then _ else _) _ E _
              rw [if_neg (by simp)]
              by_cases hkk : k' = k
              · rw [decide_eq_true hkk]
                subst hkk
                rcases hHx with ⟨rfl, _⟩ | ⟨j, p, _, hjx, hj⟩
                · first | rw [if_pos rfl] | skip
                  simp only [Option.isSome_none, Bool.false_eq_true, if_false]
                  first | refine wpAny_bind (wpAny_pure ?_) | skip
                  refine wpAny_bind (wpAny_rule ?_)
                  split
                  · exact wpAny_pure (wpAny_pure (hsome x _ hkv))
                  · exact wpAny_pure ⟨rfl, x + 1, some x, rfl, hleft', hlt, .inr ⟨x, _, rfl, Nat.lt_succ_self x, hkv⟩⟩
                · exact absurd (row_uniq hn hj hkv) (by omega)
              · rw [decide_eq_false hkk]
                simp only [Bool.false_eq_true, if_false]
                refine wpAny_bind (wpAny_rule ?_)
                first | rw [if_neg (by simp)] | skip
                first
                  | exact wpAny_pure ⟨rfl, x + 1, hit, rfl, hleft', hlt, hstay hkk⟩
                  | exact wpAny_bind (wpAny_pure (wpAny_pure ⟨rfl, x + 1, hit, rfl, hleft', hlt, hstay hkk⟩))
            · rw [if_neg hh]
              refine wpAny_pure ⟨rfl, x + 1, hit, rfl, hleft', hlt, hstay ?_⟩
              intro hkk
              rw [hkk] at hh; simp at hh
          · rintro b s' ⟨rfl, i, hit, rfl, hr, hi, hH⟩
            rcases hH with ⟨rfl, hno⟩ | ⟨j, p, rfl, _, hj⟩
            · refine wpAny_pure (hnone fun j p hj => ?_)
              rcases Nat.lt_or_ge j i with h | h
              · exact hno j p h hj
              · have hjl : j < es.size := by rw [hsz]; exact (List.getElem?_eq_some_iff.mp hj).1
                have := List.filter_eq_nil_iff.mp hr.symm j (List.mem_range'_1.mpr ⟨h, by omega⟩)
                rw [ent_at he j, hj] at this
                simp [entK] at this
            · exact wpAny_pure (hsome j p hj))
    · split
      · rename_i a9 _
        rw [if_neg hany]
        by_cases hone : (((placesWithHash es.size (fun i => es[i]?.map (·.hash)) (k.hash w)).filterMap (fun i => es[i]?.map (·.key))) == [Value.ref a9]) = true <;> (first | rw [if_pos hone] | rw [if_neg hone]) <;> (first | refine wpAny_bind (wpAny_pure ?_) | refine wpAny_bind (tell_no hk hst ?_)) <;> (
          rw [Bool.false_and, if_neg Bool.false_ne_true]
          refine wpAny_bind ?_
          refine wpAny_forIn_list _
            (fun left b s' => s' = s ∧ ∃ i hit, b = (none, hit) ∧ left = (List.range' i (es.size - i)).filter (fun i => (es[i]?.map (·.hash)) == some (k.hash w)) ∧ i ≤ es.size ∧
              ((hit = none ∧ NoneBelow xs k i) ∨ ∃ j p, hit = some j ∧ j < i ∧ xs[j]? = some (k, p))) _ ?_ ?_ _ _
            ⟨rfl, 0, none, rfl, by rw [placesWithHash, List.range_eq_range', Nat.sub_zero], Nat.zero_le _, .inl ⟨rfl, fun _ _ h => absurd h (Nat.not_lt_zero _)⟩⟩
          · rintro x left b s' ⟨rfl, i, hit, rfl, hr, hi, hH⟩
            obtain ⟨hix, hxn, hpx, hskip, hleft⟩ := filter_range'_cons _ _ _ _ _ hr.symm
            have hlt : x < es.size := by omega
            have hleft' : left = (List.range' (x + 1) (es.size - (x + 1))).filter (fun i => (es[i]?.map (·.hash)) == some (k.hash w)) := by rw [hleft]; congr 2; omega
            obtain ⟨⟨k', kv, v'⟩, hkv⟩ : ∃ y, xs[x]? = some y := ⟨xs[x]'(by rw [← hsz]; exact hlt), List.getElem?_eq_getElem _⟩
            have hib : KeyOk s'.heap k' kv := his _ (List.mem_of_getElem? hkv)
            have hex : es[x]? = some ⟨k'.hash w, kv, v'⟩ := by rw [ent_at he x, hkv]; rfl
            have hHx : (hit = none ∧ NoneBelow xs k x) ∨ ∃ j p, hit = some j ∧ j < x ∧ xs[j]? = some (k, p) := by
              rcases hH with ⟨h0, hno⟩ | ⟨j, p, h1, hji, hj⟩
              · exact .inl ⟨h0, none_step he hno hskip⟩
              · exact .inr ⟨j, p, h1, by omega, hj⟩
            have hstay : ¬ k' = k → ((hit = none ∧ NoneBelow xs k (x + 1)) ∨ ∃ j p, hit = some j ∧ j < x + 1 ∧ xs[j]? = some (k, p)) := fun hne => by
              rcases hHx with ⟨h0, hno⟩ | ⟨j, p, h1, hjx, hj⟩
              · exact .inl ⟨h0, none_next hno hkv hne⟩
              · exact .inr ⟨j, p, h1, by omega, hj⟩
            rw [hex]
            dsimp only
            by_cases hh : (k'.hash w == k.hash w) = true
            · rw [if_pos hh]
              refine wpAny_bind (wpAny_dictEpoch ho hd (wpAny_bind (key_eq hu hib hk _ _ _ _ (wpAny_bind (wpAny_dictEpoch ho hd ?_)))))
              show wpAny _ _ (if (ep != ep) = true then _ else _) _ E _
              rw [if_neg (by simp)]
              by_cases hkk : k' = k
              · rw [decide_eq_true hkk]
                subst hkk
                rcases hHx with ⟨rfl, _⟩ | ⟨j, p, _, hjx, hj⟩
                · first | rw [if_pos rfl] | skip
                  simp only [Option.isSome_none, Bool.false_eq_true, if_false]
                  first | refine wpAny_bind (wpAny_pure ?_) | skip
                  refine wpAny_bind (wpAny_rule ?_)
                  split
                  · exact wpAny_pure (wpAny_pure (hsome x _ hkv))
                  · exact wpAny_pure ⟨rfl, x + 1, some x, rfl, hleft', hlt, .inr ⟨x, _, rfl, Nat.lt_succ_self x, hkv⟩⟩
                · exact absurd (row_uniq hn hj hkv) (by omega)
              · rw [decide_eq_false hkk]
                simp only [Bool.false_eq_true, if_false]
                refine wpAny_bind (wpAny_rule ?_)
                first | rw [if_neg (by simp)] | skip
                first
                  | exact wpAny_pure ⟨rfl, x + 1, hit, rfl, hleft', hlt, hstay hkk⟩
                  | exact wpAny_bind (wpAny_pure (wpAny_pure ⟨rfl, x + 1, hit, rfl, hleft', hlt, hstay hkk⟩))
            · rw [if_neg hh]
              refine wpAny_pure ⟨rfl, x + 1, hit, rfl, hleft', hlt, hstay ?_⟩
              intro hkk
              rw [hkk] at hh; simp at hh
          · rintro b s' ⟨rfl, i, hit, rfl, hr, hi, hH⟩
            rcases hH with ⟨rfl, hno⟩ | ⟨j, p, rfl, _, hj⟩
            · refine wpAny_pure (hnone fun j p hj => ?_)
              rcases Nat.lt_or_ge j i with h | h
              · exact hno j p h hj
              · have hjl : j < es.size := by rw [hsz]; exact (List.getElem?_eq_some_iff.mp hj).1
                have := List.filter_eq_nil_iff.mp hr.symm j (List.mem_range'_1.mpr ⟨h, by omega⟩)
                rw [ent_at he j, hj] at this
                simp [entK] at this
            · exact wpAny_pure (hsome j p hj))
      · by_cases hone : (((placesWithHash es.size (fun i => es[i]?.map (·.hash)) (k.hash w)).filterMap (fun i => es[i]?.map (·.key))) == [key]) = true <;> (first | rw [if_pos hone] | rw [if_neg hone]) <;> (first | refine wpAny_bind (wpAny_pure ?_) | refine wpAny_bind (tell_no hk hst ?_)) <;> (
          rw [Bool.false_and, if_neg Bool.false_ne_true]
          refine wpAny_bind ?_
          refine wpAny_forIn_list _
            (fun left b s' => s' = s ∧ ∃ i hit, b = (none, hit) ∧ left = (List.range' i (es.size - i)).filter (fun i => (es[i]?.map (·.hash)) == some (k.hash w)) ∧ i ≤ es.size ∧
              ((hit = none ∧ NoneBelow xs k i) ∨ ∃ j p, hit = some j ∧ j < i ∧ xs[j]? = some (k, p))) _ ?_ ?_ _ _
            ⟨rfl, 0, none, rfl, by rw [placesWithHash, List.range_eq_range', Nat.sub_zero], Nat.zero_le _, .inl ⟨rfl, fun _ _ h => absurd h (Nat.not_lt_zero _)⟩⟩
          · rintro x left b s' ⟨rfl, i, hit, rfl, hr, hi, hH⟩
            obtain ⟨hix, hxn, hpx, hskip, hleft⟩ := filter_range'_cons _ _ _ _ _ hr.symm
            have hlt : x < es.size := by omega
            have hleft' : left = (List.range' (x + 1) (es.size - (x + 1))).filter (fun i => (es[i]?.map (·.hash)) == some (k.hash w)) := by rw [hleft]; congr 2; omega
            obtain ⟨⟨k', kv, v'⟩, hkv⟩ : ∃ y, xs[x]? = some y := ⟨xs[x]'(by rw [← hsz]; exact hlt), List.getElem?_eq_getElem _⟩
            have hib : KeyOk s'.heap k' kv := his _ (List.mem_of_getElem? hkv)
            have hex : es[x]? = some ⟨k'.hash w, kv, v'⟩ := by rw [ent_at he x, hkv]; rfl
            have hHx : (hit = none ∧ NoneBelow xs k x) ∨ ∃ j p, hit = some j ∧ j < x ∧ xs[j]? = some (k, p) := by
              rcases hH with ⟨h0, hno⟩ | ⟨j, p, h1, hji, hj⟩
              · exact .inl ⟨h0, none_step he hno hskip⟩
              · exact .inr ⟨j, p, h1, by omega, hj⟩
            have hstay : ¬ k' = k → ((hit = none ∧ NoneBelow xs k (x + 1)) ∨ ∃ j p, hit = some j ∧ j < x + 1 ∧ xs[j]? = some (k, p)) := fun hne => by
              rcases hHx with ⟨h0, hno⟩ | ⟨j, p, h1, hjx, hj⟩
              · exact .inl ⟨h0, none_next hno hkv hne⟩
              · exact .inr ⟨j, p, h1, by omega, hj⟩
            rw [hex]
            dsimp only
            by_cases hh : (k'.hash w == k.hash w) = true
            · rw [if_pos hh]
              refine wpAny_bind (wpAny_dictEpoch ho hd (wpAny_bind (key_eq hu hib hk _ _ _ _ (wpAny_bind (wpAny_dictEpoch ho hd ?_)))))
              show wpAny _ _ (if (ep != ep) = true then _ else _) _ E _
              rw [if_neg (by simp)]
              by_cases hkk : k' = k
              · rw [decide_eq_true hkk]
                subst hkk
                rcases hHx with ⟨rfl, _⟩ | ⟨j, p, _, hjx, hj⟩
                · first | rw [if_pos rfl] | skip
                  simp only [Option.isSome_none, Bool.false_eq_true, if_false]
                  first | refine wpAny_bind (wpAny_pure ?_) | skip
                  refine wpAny_bind (wpAny_rule ?_)
                  split
                  · exact wpAny_pure (wpAny_pure (hsome x _ hkv))
                  · exact wpAny_pure ⟨rfl, x + 1, some x, rfl, hleft', hlt, .inr ⟨x, _, rfl, Nat.lt_succ_self x, hkv⟩⟩
                · exact absurd (row_uniq hn hj hkv) (by omega)
              · rw [decide_eq_false hkk]
                simp only [Bool.false_eq_true, if_false]
                refine wpAny_bind (wpAny_rule ?_)
                first | rw [if_neg (by simp)] | skip
                first
                  | exact wpAny_pure ⟨rfl, x + 1, hit, rfl, hleft', hlt, hstay hkk⟩
                  | exact wpAny_bind (wpAny_pure (wpAny_pure ⟨rfl, x + 1, hit, rfl, hleft', hlt, hstay hkk⟩))
            · rw [if_neg hh]
              refine wpAny_pure ⟨rfl, x + 1, hit, rfl, hleft', hlt, hstay ?_⟩
              intro hkk
              rw [hkk] at hh; simp at hh
          · rintro b s' ⟨rfl, i, hit, rfl, hr, hi, hH⟩
            rcases hH with ⟨rfl, hno⟩ | ⟨j, p, rfl, _, hj⟩
            · refine wpAny_pure (hnone fun j p hj => ?_)
              rcases Nat.lt_or_ge j i with h | h
              · exact hno j p h hj
              · have hjl : j < es.size := by rw [hsz]; exact (List.getElem?_eq_some_iff.mp hj).1
                have := List.filter_eq_nil_iff.mp hr.symm j (List.mem_range'_1.mpr ⟨h, by omega⟩)
                rw [ent_at he j, hj] at this
                simp [entK] at this
            · exact wpAny_pure (hsome j p hj))
end
end VL

/-! VLK3: d[k], d[k] = v, k in d, d.get, d.setdefault, len, truth. -/
namespace VL
open PySem PySem.Spec PySem.SeqAt
theorem KeyOk.keep {h h' : Heap} {k : NestedKey} {v : Value} {d : Addr} {o : Obj} {es : Array DictEntry} {ep : Nat} (x : KeyOk h k v) (ho : h.get? d = some o) (hd : o.data = .dict es ep) (hs : Heap.SameBut d h h') : KeyOk h' k v :=
  ⟨NestedIs.at (fun b ob vs n hb hc => by
    refine (hs.2 b fun e => ?_).trans hb
    subst e
    rw [ho] at hb
    cases hb
    rw [hd] at hc
    cases hc) k _ x.1, x.2⟩
section
variable {w : World} {h h' : Heap} {d : Addr} {xs : List KRow}
theorem DictN.typeIs {s : Shared} (hm : DictN w s.heap d xs) : s.TypeIs (.ref d) "dict" := let ⟨o, _, _, ho, hc, _⟩ := hm; ⟨o, ho, hc.1⟩
theorem DictN.there (hm : DictN w h d xs) : ∃ o, h.get? d = some o := let ⟨o, _, _, ho, _⟩ := hm; ⟨o, ho⟩
theorem DictN.noDict (hm : DictN w h d xs) : ∀ b, Value.ref d = .ref b → ∃ ob, h.get? b = some ob ∧ ob.dict = none := fun b e => by
  cases e
  obtain ⟨o, _, _, ho, hc, _⟩ := hm
  exact ⟨o, ho, hc.2.1⟩
theorem rowsSet_new {k : NestedKey} (e : rowAt xs k = none) (key v : Value) : rowsSet xs k key v = xs ++ [(k, key, v)] := by simp [rowsSet, e]
theorem rowsSet_old {k : NestedKey} {p : Value × Value} (e : rowAt xs k = some p) (key v : Value) : rowsSet xs k key v = xs.map (rowPut k v) := by simp [rowsSet, e]
end
section
variable {prog : Program} {w : World} {A : Around} {E : Value → Shared → Prop} {s : Shared} {d : Addr} {k : NestedKey} {key : Value} {xs : List KRow}
theorem get_N {Q : Option Value → Shared → Prop} (hu : A.units + 8 < cLine) (hk : KeyOk s.heap k key) (hm : DictN w s.heap d xs)
    (h : Q ((rowAt xs k).map (·.2)) { s with toks := s.toks + k.draws }) : wpAny (model prog w) A (dictGet d key) Q E s := by
  obtain ⟨o, es, ep, ho, _, hd, he, his, hn⟩ := hm
  have hdep := hk.2
  unfold dictGet
  try with_reducible refine wpAny_holding ?_
  refine wpAny_bind (pyHash_key k key A s _ hk.1 (by omega) (wpAny_bind (find_N (s := { s with toks := s.toks + k.draws }) hu hk ho hd he his hn ?_ ?_)))
  · intro hno
    rw [rowAt_no hno] at h
    exact wpAny_pure h
  · intro j p hj
    rw [rowAt_get hn hj] at h
    refine wpAny_bind (wpAny_dictEntries (s := { s with toks := s.toks + k.draws }) ho hd ?_)
    rw [ent_at he j, hj]
    exact wpAny_pure h
theorem new_N {o : Obj} {es : Array DictEntry} {ep : Nat} {v : Value} (hk : KeyOk s.heap k key) (ho : s.heap.get? d = some o) (hc : o.ExactDict) (hd : o.data = .dict es ep) (he : es.toList = xs.map (entK w)) (his : ∀ x ∈ xs, KeyOk s.heap x.1 x.2.1) (hn : (xs.map (·.1)).Nodup)
    (hno : ∀ (j : Nat) (p : Value × Value), xs[j]? ≠ some (k, p)) : DictN w (s.heap.update d (·.mapDictKeys (·.push ⟨k.hash w, key, v⟩))) d (rowsSet xs k key v) := by
  have hs : Heap.SameBut d s.heap (s.heap.update d (·.mapDictKeys (·.push ⟨k.hash w, key, v⟩))) := Heap.SameBut.update ..
  refine ⟨_, _, ep + 1, Heap.get?_update_self _ ho (Obj.isFreed_of_dict (Obj.data_mapDictKeys hd _)), hc.mapDictKeys _, Obj.data_mapDictKeys hd _, ?_, ?_, ?_⟩
  · rw [rowsSet_new (rowAt_no hno)]
    simp [he, entK]
  · rw [rowsSet_new (rowAt_no hno)]
    intro x hx
    rcases List.mem_append.mp hx with hx | hx
    · exact (his x hx).keep ho hd hs
    · simp only [List.mem_singleton] at hx
      subst hx
      exact hk.keep ho hd hs
  · rw [rowsSet_new (rowAt_no hno), List.map_append, List.nodup_append]
    refine ⟨hn, by simp, fun x hx y hy => ?_⟩
    simp only [List.map_cons, List.map_nil, List.mem_singleton] at hy
    subst hy
    exact fun e => row_notin hno (e ▸ hx)
theorem old_N {o : Obj} {es : Array DictEntry} {ep j : Nat} {v : Value} {p : Value × Value} (ho : s.heap.get? d = some o) (hc : o.ExactDict) (hd : o.data = .dict es ep) (he : es.toList = xs.map (entK w)) (his : ∀ x ∈ xs, KeyOk s.heap x.1 x.2.1) (hn : (xs.map (·.1)).Nodup)
    (hj : xs[j]? = some (k, p)) : DictN w (s.heap.update d (·.mapDict (·.modify j fun e => { e with val := v }))) d (rowsSet xs k key v) := by
  have hs : Heap.SameBut d s.heap (s.heap.update d (·.mapDict (·.modify j fun e => { e with val := v }))) := Heap.SameBut.update ..
  refine ⟨_, _, ep, Heap.get?_update_self _ ho (Obj.isFreed_of_dict (Obj.data_mapDict hd _)), hc.mapDict _, Obj.data_mapDict hd _, ?_, ?_, ?_⟩
  · rw [rowsSet_old (rowAt_get hn hj)]
    have := rowPut_modify w v hn hj
    rw [← he] at this
    obtain ⟨l⟩ := es
    simpa using this
  · rw [rowsSet_old (rowAt_get hn hj)]
    intro x hx
    obtain ⟨y, hy, rfl⟩ := List.mem_map.mp hx
    unfold rowPut
    split <;> exact (his y hy).keep ho hd hs
  · rw [rowsSet_old (rowAt_get hn hj), rowPut_keys]
    exact hn
theorem set_N {v : Value} {Q : Unit → Shared → Prop} (hu : A.units + 8 < cLine) (hk : KeyOk s.heap k key) (hm : DictN w s.heap d xs) (hsz : xs.length ≤ sizeLine)
    (hQ : ∀ h', DictN w h' d (rowsSet xs k key v) → Heap.SameBut d s.heap h' → Q () { s with heap := h', toks := s.toks + k.draws }) : wpAny (model prog w) A (dictSet d key v) Q E s := by
  obtain ⟨o, es, ep, ho, hc, hd, he, his, hn⟩ := hm
  have hdep := hk.2
  unfold dictSet
  try with_reducible refine wpAny_holding ?_
  refine wpAny_bind (pyHash_key k key A s _ hk.1 (by omega) ?_)
  unfold dictSetHashed
  try with_reducible refine wpAny_holding ?_
  refine wpAny_bind (find_N (s := { s with toks := s.toks + k.draws }) hu hk ho hd he his hn ?_ ?_)
  · intro hno
    exact wpAny_bind (wpAny_rule (wpAny_updateDictKeys (hz := by have e := ent_size he; omega) (s := { s with toks := s.toks + k.draws }) ho hd (hQ _ (new_N hk ho hc hd he his hn hno) (Heap.SameBut.update ..))))
  · intro j p hj
    exact wpAny_bind (wpAny_rule (wpAny_bind (wpAny_updateDict (s := { s with toks := s.toks + k.draws }) ho hd (wpAny_point (hQ _ (old_N ho hc hd he his hn hj) (Heap.SameBut.update ..))))))
theorem setDefault_N {v : Value} {Q : Value → Shared → Prop} (hu : A.units + 8 < cLine) (hk : KeyOk s.heap k key) (hm : DictN w s.heap d xs) (hsz : xs.length ≤ sizeLine)
    (h1 : ∀ p, rowAt xs k = some p → Q p.2 { s with toks := s.toks + k.draws })
    (h2 : rowAt xs k = none → ∀ h', DictN w h' d (rowsSet xs k key v) → Heap.SameBut d s.heap h' → Q v { s with heap := h', toks := s.toks + k.draws }) : wpAny (model prog w) A (dictSetDefault d key v) Q E s := by
  obtain ⟨o, es, ep, ho, hc, hd, he, his, hn⟩ := hm
  have hdep := hk.2
  unfold dictSetDefault
  try with_reducible refine wpAny_holding ?_
  refine wpAny_bind (pyHash_key k key A s _ hk.1 (by omega) ?_)
  refine wpAny_bind (find_N (s := { s with toks := s.toks + k.draws }) hu hk ho hd he his hn ?_ ?_)
  · intro hno
    exact wpAny_bind (wpAny_rule (wpAny_bind (wpAny_updateDictKeys (hz := by have e := ent_size he; omega) (s := { s with toks := s.toks + k.draws }) ho hd (wpAny_pure (h2 (rowAt_no hno) _ (new_N hk ho hc hd he his hn hno) (Heap.SameBut.update ..))))))
  · intro j p hj
    refine wpAny_bind (wpAny_dictEntries (s := { s with toks := s.toks + k.draws }) ho hd ?_)
    rw [ent_at he j, hj]
    exact wpAny_bind (wpAny_rule (wpAny_pure (h1 p (rowAt_get hn hj))))

/-! ### the roads -/
theorem in_N {Q : Value → Shared → Prop} (hu : A.units + 9 < cLine) (hk : KeyOk s.heap k key) (hd : (d == sysModules) = false) (hm : DictN w s.heap d xs)
    (h : Q (.bool (rowAt xs k).isSome) { s with toks := s.toks + k.draws }) : wpAny (model prog w) A (compareOp .In key (.ref d)) Q E s := by
  show wpAny _ _ (do return .bool (← contains (.ref d) key)) Q E s
  refine wpAny_bind ?_
  unfold contains
  try with_reducible refine wpAny_holding ?_
  refine wpAny_bind (wpAny_specialOf hm.typeIs slot_dict_contains.lookup ?_)
  show wpAny _ _ (if (some (Value.builtin "dict.__contains__") == some Value.none) = true then _ else _) _ E s
  rw [if_neg (by rw [beq_builtin_none]; exact Bool.false_ne_true)]
  refine wpAny_bind (wpAny_callSpecialUnlessNone?_slot (name := Str.ofString "__contains__") hm.typeIs slot_dict_contains
    (wpAny_call_entry slot_dict_contains hm.typeIs entry_dict_contains ?_ (args_dict_contains _ _)))
  show wpAny _ _ (dictGet d key >>= _) _ _ s
  refine wpAny_bind (get_N (A := A.in1) (by show A.units + 1 + 8 < cLine; omega) hk hm ?_)
  cases hf : rowAt xs k with
  | some p =>
    rw [hf] at h
    show wpAny _ _ (ret (.bool true)) _ _ _
    exact wpAny_pure ⟨_, rfl, wpAny_truthy_bool (wpAny_pure h)⟩
  | none =>
    rw [hf] at h
    show wpAny _ _ (Builtin.Dict.pendingKey? d key >>= _) _ _ _
    exact wpAny_bind (wpAny_pendingKey_other hd (wpAny_pure ⟨_, rfl, wpAny_truthy_bool (wpAny_pure h)⟩))
theorem notIn_N {Q : Value → Shared → Prop} (hu : A.units + 9 < cLine) (hk : KeyOk s.heap k key) (hd : (d == sysModules) = false) (hm : DictN w s.heap d xs)
    (h : Q (.bool (!(rowAt xs k).isSome)) { s with toks := s.toks + k.draws }) : wpAny (model prog w) A (compareOp .NotIn key (.ref d)) Q E s := by
  show wpAny _ _ (do return .bool (!(← contains (.ref d) key))) Q E s
  refine wpAny_bind ?_
  unfold contains
  try with_reducible refine wpAny_holding ?_
  refine wpAny_bind (wpAny_specialOf hm.typeIs slot_dict_contains.lookup ?_)
  show wpAny _ _ (if (some (Value.builtin "dict.__contains__") == some Value.none) = true then _ else _) _ E s
  rw [if_neg (by rw [beq_builtin_none]; exact Bool.false_ne_true)]
  refine wpAny_bind (wpAny_callSpecialUnlessNone?_slot (name := Str.ofString "__contains__") hm.typeIs slot_dict_contains
    (wpAny_call_entry slot_dict_contains hm.typeIs entry_dict_contains ?_ (args_dict_contains _ _)))
  show wpAny _ _ (dictGet d key >>= _) _ _ s
  refine wpAny_bind (get_N (A := A.in1) (by show A.units + 1 + 8 < cLine; omega) hk hm ?_)
  cases hf : rowAt xs k with
  | some p =>
    rw [hf] at h
    show wpAny _ _ (ret (.bool true)) _ _ _
    exact wpAny_pure ⟨_, rfl, wpAny_truthy_bool (wpAny_pure h)⟩
  | none =>
    rw [hf] at h
    show wpAny _ _ (Builtin.Dict.pendingKey? d key >>= _) _ _ _
    exact wpAny_bind (wpAny_pendingKey_other hd (wpAny_pure ⟨_, rfl, wpAny_truthy_bool (wpAny_pure h)⟩))
theorem getItem_N {p : Value × Value} {Q : Value → Shared → Prop} (hu : A.units + 9 < cLine) (hk : KeyOk s.heap k key) (hm : DictN w s.heap d xs) (hp : rowAt xs k = some p)
    (h : Q p.2 { s with toks := s.toks + k.draws }) : wpAny (model prog w) A (getItem (.ref d) key) Q E s := by
  unfold getItem
  try with_reducible refine wpAny_holding ?_
  refine wpAny_bind (wpAny_sequenceKey hm.typeIs (by decide) ?_)
  refine wpAny_bind (wpAny_callSpecial?_slot (name := Str.ofString "__getitem__") hm.typeIs slot_dict_getitem
    (wpAny_call_entry slot_dict_getitem hm.typeIs entry_dict_getitem ?_ (args_dict_getitem _ _)))
  show wpAny _ _ (dictGet d key >>= _) _ _ s
  refine wpAny_bind (get_N (A := A.in1) (by show A.units + 1 + 8 < cLine; omega) hk hm ?_)
  rw [hp]
  exact wpAny_pure ⟨p.2, rfl, wpAny_pure h⟩
theorem setItem_N {v : Value} {Q : Unit → Shared → Prop} (hu : A.units + 9 < cLine) (hk : KeyOk s.heap k key) (hm : DictN w s.heap d xs) (hsz : xs.length ≤ sizeLine)
    (hQ : ∀ h', DictN w h' d (rowsSet xs k key v) → Heap.SameBut d s.heap h' → Q () { s with heap := h', toks := s.toks + k.draws }) : wpAny (model prog w) A (setItem (.ref d) key v) Q E s := by
  unfold setItem
  try with_reducible refine wpAny_holding ?_
  refine wpAny_bind (wpAny_sequenceKey hm.typeIs (by decide) ?_)
  refine wpAny_bind (wpAny_callSpecial?_slot (name := Str.ofString "__setitem__") hm.typeIs slot_dict_setitem
    (wpAny_call_entry slot_dict_setitem hm.typeIs entry_dict_setitem ?_ (args_dict_setitem _ _ _)))
  show wpAny _ _ (Builtin.Dict.notOrdered "__setitem__" ⟨[.ref d, key, v], []⟩ >>= _) _ _ s
  refine wpAny_bind (wpAny_notOrdered_dict hm.typeIs ?_)
  show wpAny _ _ (dictSet d key v >>= _) _ _ s
  exact wpAny_bind (set_N (A := A.in1) (by show A.units + 1 + 8 < cLine; omega) hk hm hsz fun h' hm' hs' => wpAny_pure ⟨.none, rfl, wpAny_pure (hQ h' hm' hs')⟩)
theorem get2_N {dflt : Value} {Q : Value → Shared → Prop} (hu : A.units + 9 < cLine) (hk : KeyOk s.heap k key) (hd : (d == sysModules) = false) (hm : DictN w s.heap d xs)
    (h : Q (((rowAt xs k).map (·.2)).getD dflt) { s with toks := s.toks + k.draws }) : wpAny (model prog w) A (call (.builtin "dict.get") [.ref d, key, dflt]) Q E s :=
  call_meetsIn PySem.F.slot_dict_get hm.typeIs PySem.F.entry_dict_get (PySem.F.args_dict_get_3 _ _ _)
    (S := fun A R s => A.units + 9 < cLine ∧ KeyOk s.heap k key ∧ DictN w s.heap d xs ∧ R (.ok (.ret (((rowAt xs k).map (·.2)).getD dflt))) { s with toks := s.toks + k.draws })
    (.of_wp fun A R s ⟨hu, hk, hm, h⟩ => by
      show wpAny _ _ (dictGet d key >>= _) _ _ s
      refine wpAny_bind (get_N (by show A.units + 1 + 8 < cLine; omega) hk hm ?_)
      cases hf : (rowAt xs k).map (·.2) with
      | some v =>
        rw [hf] at h
        exact wpAny_pure ⟨v, rfl, h⟩
      | none =>
        rw [hf] at h
        show wpAny _ _ (Builtin.Dict.missed d key >>= _) _ _ _
        exact wpAny_bind (wpAny_missed_other hd (wpAny_pure ⟨dflt, rfl, h⟩))) ⟨hu, hk, hm, h⟩
theorem get1_N {Q : Value → Shared → Prop} (hu : A.units + 9 < cLine) (hk : KeyOk s.heap k key) (hd : (d == sysModules) = false) (hm : DictN w s.heap d xs)
    (h : Q (((rowAt xs k).map (·.2)).getD .none) { s with toks := s.toks + k.draws }) : wpAny (model prog w) A (call (.builtin "dict.get") [.ref d, key]) Q E s :=
  call_meetsIn PySem.F.slot_dict_get hm.typeIs PySem.F.entry_dict_get (PySem.F.args_dict_get_2 _ _)
    (S := fun A R s => A.units + 9 < cLine ∧ KeyOk s.heap k key ∧ DictN w s.heap d xs ∧ R (.ok (.ret (((rowAt xs k).map (·.2)).getD .none))) { s with toks := s.toks + k.draws })
    (.of_wp fun A R s ⟨hu, hk, hm, h⟩ => by
      show wpAny _ _ (dictGet d key >>= _) _ _ s
      refine wpAny_bind (get_N (by show A.units + 1 + 8 < cLine; omega) hk hm ?_)
      cases hf : (rowAt xs k).map (·.2) with
      | some v =>
        rw [hf] at h
        exact wpAny_pure ⟨v, rfl, h⟩
      | none =>
        rw [hf] at h
        show wpAny _ _ (Builtin.Dict.missed d key >>= _) _ _ _
        exact wpAny_bind (wpAny_missed_other hd (wpAny_pure ⟨.none, rfl, h⟩))) ⟨hu, hk, hm, h⟩
theorem setdefault_N {dflt : Value} {Q : Value → Shared → Prop} (hu : A.units + 9 < cLine) (hk : KeyOk s.heap k key) (hd : (d == sysModules) = false) (hm : DictN w s.heap d xs) (hsz : xs.length ≤ sizeLine)
    (h1 : ∀ p, rowAt xs k = some p → Q p.2 { s with toks := s.toks + k.draws })
    (h2 : rowAt xs k = none → ∀ h', DictN w h' d (rowsSet xs k key dflt) → Heap.SameBut d s.heap h' → Q dflt { s with heap := h', toks := s.toks + k.draws }) : wpAny (model prog w) A (call (.builtin "dict.setdefault") [.ref d, key, dflt]) Q E s :=
  call_meetsIn PySem.F.slot_dict_setdefault hm.typeIs PySem.F.entry_dict_setdefault (PySem.F.args_dict_setdefault_3 _ _ _)
    (S := fun A R s => A.units + 9 < cLine ∧ KeyOk s.heap k key ∧ DictN w s.heap d xs ∧ (∀ p, rowAt xs k = some p → R (.ok (.ret p.2)) { s with toks := s.toks + k.draws }) ∧
      (rowAt xs k = none → ∀ h', DictN w h' d (rowsSet xs k key dflt) → Heap.SameBut d s.heap h' → R (.ok (.ret dflt)) { s with heap := h', toks := s.toks + k.draws }))
    (.of_wp fun A R s ⟨hu, hk, hm, h1, h2⟩ => by
      unfold Builtin.«dict.setdefault»
      refine wpAny_bind ?_
      unfold Builtin.Dict.keyAndDefault
      refine wpAny_bind (wpAny_notOrdered_dict hm.typeIs ?_)
      show wpAny _ _ (pure (d, key, some dflt)) _ _ s
      refine wpAny_pure ?_
      show wpAny _ _ (if (d == sysModules) = true then _ else (dictSetDefault d key dflt >>= _)) _ _ s
      rw [if_neg (by rw [hd]; exact Bool.false_ne_true)]
      exact wpAny_bind (setDefault_N (by show A.units + 1 + 8 < cLine; omega) hk hm hsz (fun p hp => wpAny_pure ⟨p.2, rfl, h1 p hp⟩) fun hn h' hm' hs' => wpAny_pure ⟨dflt, rfl, h2 hn h' hm' hs'⟩)) ⟨hu, hk, hm, h1, h2⟩
/-- len(d) -/
theorem len_N {Q : Value → Shared → Prop} (hd : (d == sysModules) = false) (hm : DictN w s.heap d xs) (hfit : xs.length ≤ sizeLine)
    (h : ∀ t tk, Q (.int xs.length t) { s with toks := tk }) : wpAny (model prog w) A (call (.builtin "len") [.ref d]) Q E s := by
  rw [sizeLine_eq] at hfit
  refine Calls.call_function_entry kind_len plain_len entry_len (args_len1 _) ?_
  unfold Builtin.«len»
  refine wpAny_bind (m := oneArg "len" _) (wpAny_pure ?_)
  refine wpAny_bind (m := callSpecial? (.ref d) (Str.ofString "__len__")) (wpAny_callSpecial?_slot (name := Str.ofString "__len__") hm.typeIs PySem.F.slot_dict_len
    (call_meetsIn PySem.F.slot_dict_len hm.typeIs PySem.F.entry_dict_len (PySem.F.args_dict_len_1 _)
      (S := fun A R s => DictN w s.heap d xs ∧ R (.ok (.ret (.int xs.length s.toks))) { s with toks := s.toks + 1 })
      (.of_wp fun A R s ⟨hm, h⟩ => by
        obtain ⟨o, es, ep, ho, hc, hdat, he, _⟩ := id hm
        unfold Builtin.«dict.__len__»
        refine wpAny_bind ?_
        unfold Builtin.Dict.dictSlotNone
        refine wpAny_bind (wpAny_notOrdered_dict hm.typeIs ?_)
        show wpAny _ _ (pure (Value.ref d)) _ _ s
        refine wpAny_pure ?_
        show wpAny _ _ (dictSize d >>= _) _ _ s
        unfold dictSize
        refine wpAny_bind (wpAny_bind (wpAny_dictEntries ho hdat (wpAny_pure ?_)))
        show wpAny _ _ (Builtin.Dict.pendingCount d >>= _) _ _ s
        refine wpAny_bind (wpAny_pendingCount_other hd ?_)
        refine wpAny_ret_mkInt ?_
        rw [Nat.add_zero, ent_size he]
        exact h) ⟨hm, ?_⟩))
  show wpAny _ _ _ _ _ { s with toks := s.toks + 1 }
  refine wpAny_bind (wpAny_holding (wpAny_pure ?_))
  refine wpAny_bind (wpAny_letGo ?_)
  show wpAny _ _ (if ((xs.length : Nat) : Int) < 0 then _ else _) _ _ _
  rw [if_neg (by omega)]
  show wpAny _ _ (if ((xs.length : Nat) : Int) ≥ 2 ^ 63 then _ else _) _ _ _
  rw [if_neg (by omega)]
  exact wpAny_bind (wpAny_mkInt (wpAny_pure ⟨_, rfl, h _ _⟩))
end
end VL

/-! VL1: data, slots, the small language, its evaluator (no machine in sight). -/
namespace VL
open PySem

/-- data as trees -/
inductive D where
  | non | bl (b : Bool) | int (i : Int) | str (s : Str)
  | tup (xs : List D) | lst (xs : List D) | dct (kvs : List (D × D))
  deriving Inhabited

/-- what stands at a name: nothing, frozen data, an object of one's own, the same while it is walked -/
inductive Slot where
  | un | fz (d : D) | ow (d : D) | lk (d : D)
  deriving Inhabited

abbrev Env := List Slot

inductive Out (α : Type) where
  | ok (a : α) (r : Env)
  | err (c : Nat) (fs : List D) (r : Env)
  | stk

@[reducible] def Out.bind {α β : Type} (x : Out α) (f : α → Env → Out β) : Out β :=
  match x with
  | .ok a r => f a r
  | .err c fs r => .err c fs r
  | .stk => .stk
def Out.nox {α : Type} (x : Out α) : Out α :=
  match x with
  | .ok a r => .ok a r
  | _ => .stk
def Out.of {α : Type} (o : Option α) (r : Env) : Out α :=
  match o with
  | some a => .ok a r
  | none => .stk

/-- what a call gives -/
inductive CR where
  | ok (d : D) (outs : List D)
  | err (c : Nat) (fs outs : List D)
  | stk

inductive Ty where
  | str | tuple | list | int | bool | dict
  deriving DecidableEq
inductive Op where
  | tup | lst | isi (t : Ty) | len | all | any | eq | ne | lt | le | gt | ge | isin | notin | isN | notN | isB (b : Bool) | isntB (b : Bool)
  | add | sub | mul | mod | fdiv | pow | neg | not_ | max2 | min2 | toInt | ix | sl (lo hi : Bool) | slrev | toList | toTuple | repr
  | range1 | range2 | enum | sorted
  deriving DecidableEq
inductive MOp where
  | append | insert | extend | seti | popAt
  deriving DecidableEq
inductive CK where
  | list
  deriving DecidableEq

/-- what isinstance asks about an own exception: one of the own classes, a built-in class -/
inductive IT where
  | own (m : Nat) | ty (s : Str)
  deriving DecidableEq
/-- an own exception class: its name, its field, what isinstance says of it -/
structure XC where
  name : Str
  fld : Option Str
  isa : List (IT × Bool)
/-- no subclass of the n-th -/
def XC.apart (xm : XC) (n : Nat) : Bool := decide (xm.isa.lookup (.own n) = some false)
/-- an except suite's expressions and statements -/
inductive HE where
  | kst (d : D) | fld | isi (t : IT) | nm (j : Nat) | not_ (a : HE) | and_ (a b : HE) | or_ (a b : HE) | eq (a b : HE) | nil | cons (a r : HE) | lst (a : HE)
inductive HS where
  | nil | seq (s r : HS) | asg (j : Nat) (e : HE) | ret (e : HE) | ifs (c : HE) (a b : HS)

inductive MG where
  | sl (j : Nat) | nil | cons (a r : MG) | tup (g : MG)

inductive ME where
  | kst (d : D)
  | glb (i : Nat)
  | nm (j : Nat)
  | cap (j : Nat)
  | nil
  | cons (a r : ME)
  | op (o : Op) (a : ME)
  | chain (o1 o2 : Op) (ab c : ME)
  | and_ (a b : ME)
  | or_ (a b : ME)
  | ite (c a b : ME)
  | call (f : Nat) (sl : List Nat) (a : ME)
  | mop (o : MOp) (j : Nat) (a : ME)
  | comp (own : List Nat) (tg : MG) (it c e : ME)
  /-- a new list so many times over -/
  | rep (n : Nat) (a : ME)
  /-- a constant dict of the module, asked at a text -/
  | cix (i : Nat) (a : ME)
  | never

inductive MS where
  | nil
  | seq (s r : MS)
  | asg (g : MG) (e : ME)
  | par (i j : Nat) (a b : ME)
  | expr (e : ME)
  | aug (o : Op) (j : Nat) (e : ME)
  | seti (j : Nat) (k v : ME)
  | ret (e : ME)
  | retN
  | ife (c : ME) (a b : MS)
  | for_ (tg : MG) (it : ME) (body : MS)
  | whl (fuel : Nat) (c : ME) (body : MS)
  | brk | cont | pass
  | raise (c : Nat) (a : ME)
  | tryx (body : MS) (n : Nat) (x : Option Nat) (h : HS)
  /-- slots that are not looked at again: forgotten -/
  | scrub (js : List Nat) (s : MS)
  /-- objects that are handed on in what follows: frozen from here on -/
  | frz (js : List Nat) (s : MS)
  | never

inductive Fl where
  | nx | ret (d : D) | bk | ct

/-! ### data -/
def D.toP : D → PyData
  | .non => .none
  | .bl b => .bool b
  | .int i => .int i
  | .str s => .str s
  | .tup xs => .tuple (toPs xs)
  | .lst xs => .list (toPs xs)
  | .dct kvs => .dict (toPd kvs)
where
  toPs : List D → List PyData
    | [] => []
    | d :: r => D.toP d :: toPs r
  toPd : List (D × D) → List (PyData × PyData)
    | [] => []
    | (k, v) :: r => (D.toP k, D.toP v) :: toPd r

def b2i (b : Bool) : Int := if b then 1 else 0

/-- Python's == (dicts: see eqOk) -/
def D.eq : D → D → Bool
  | .non, .non => true
  | .bl a, .bl b => a == b
  | .bl a, .int j => b2i a == j
  | .int i, .bl b => i == b2i b
  | .int i, .int j => i == j
  | .str s, .str t => s == t
  | .tup xs, .tup ys => eqs xs ys
  | .lst xs, .lst ys => eqs xs ys
  | .dct xs, .dct ys => xs.isEmpty && ys.isEmpty
  | _, _ => false
where
  eqs : List D → List D → Bool
    | [], [] => true
    | x :: xs, y :: ys => D.eq x y && eqs xs ys
    | _, _ => false
/-- an empty dict, or another -/
def D.isDc : D → Bool
  | .dct _ => true
  | _ => false
/-- no dict within but the empty one -/
def D.flat : D → Bool
  | .tup xs => flats xs
  | .lst xs => flats xs
  | .dct kvs => kvs.isEmpty
  | _ => true
where
  flats : List D → Bool
    | [] => true
    | d :: r => D.flat d && flats r

def line : Nat := 16777216
/-- how deep -/
def D.dep : D → Nat
  | .tup xs => deps xs + 1
  | .lst xs => deps xs + 1
  | .dct _ => 1
  | _ => 0
where
  deps : List D → Nat
    | [] => 0
    | d :: r => max (D.dep d) (deps r)
def D.cmp (d : D) : Bool := d.flat && decide (d.dep ≤ 60)

/-- what may be a key -/
def D.hk : Nat → D → Bool
  | _, .non => true
  | _, .bl _ => true
  | _, .int _ => true
  | _, .str _ => true
  | 0, _ => false
  | n + 1, .tup xs => hks n xs
  | _ + 1, _ => false
where
  hks : Nat → List D → Bool
    | _, [] => true
    | n, d :: r => D.hk n d && hks n r
def D.key : D → NestedKey
  | .non => .none
  | .bl b => .num (b2i b)
  | .int i => .num i
  | .str s => .text s
  | .tup xs => .tup (keys xs)
  | _ => .none
where
  keys : List D → List NestedKey
    | [] => []
    | d :: r => D.key d :: keys r
def dget (kvs : List (D × D)) (k : D) : Option D := (kvs.find? fun p => D.eq p.1 k).map (·.2)
def dhas (kvs : List (D × D)) (k : D) : Bool := kvs.any fun p => D.eq p.1 k
def dput (kvs : List (D × D)) (k v : D) : List (D × D) := if dhas kvs k then kvs.map (fun p => if D.eq p.1 k then (p.1, v) else p) else kvs ++ [(k, v)]

def D.tru : D → Option Bool
  | .non => some false
  | .bl b => some b
  | .int i => some (i != 0)
  | .str s => if s.length ≤ line then some (s.length != 0) else none
  | .tup xs => some !xs.isEmpty
  | .lst xs => some !xs.isEmpty
  | .dct _ => none
def D.isB (b : Bool) : D → Bool
  | .bl c => c == b
  | _ => false
def D.isNon : D → Bool
  | .non => true
  | _ => false
def D.mutb : D → Bool
  | .lst _ => true
  | .dct _ => true
  | _ => false
def mkSlot (d : D) : Slot := if d.mutb then .ow d else .fz d

/-- an index -/
def ixD {α : Type} (xs : List α) (i : Int) : Option α :=
  if 0 ≤ i then (if i < xs.length then xs[i.toNat]? else none) else if -(xs.length : Int) ≤ i then xs[(i + xs.length).toNat]? else none
/-- a slice's end -/
def slEnd (n d : Nat) : Option Int → Nat
  | none => d
  | some v => if v < 0 then (v + n).toNat else min v.toNat n
def cutD {α : Type} (xs : List α) (lo hi : Option Int) : List α := (xs.drop (slEnd xs.length 0 lo)).take (slEnd xs.length xs.length hi - slEnd xs.length 0 lo)
def chr1 (c : Nat) : D := .str ⟨#[c]⟩
def cutS (s : Str) (lo hi : Option Int) : Str := ⟨((s.cps.toList.drop (slEnd s.length 0 lo)).take (slEnd s.length s.length hi - slEnd s.length 0 lo)).toArray⟩


inductive DK where
  | non | bl | int | str | tup | lst | dct
def D.dk : D → DK
  | .non => .non | .bl _ => .bl | .int _ => .int | .str _ => .str | .tup _ => .tup | .lst _ => .lst | .dct _ => .dct
def DK.name : DK → String
  | .non => "NoneType" | .bl => "bool" | .int => "int" | .str => "str" | .tup => "tuple" | .lst => "list" | .dct => "dict"
def tyOk : Ty → DK → Bool
  | .str, .str => true
  | .tuple, .tup => true
  | .list, .lst => true
  | .int, .int => true
  | .int, .bl => true
  | .bool, .bl => true
  | .dict, .dct => true
  | _, _ => false
def D.isTy (t : Ty) (d : D) : Bool := tyOk t d.dk

def D.bools : List D → Option (List Bool)
  | [] => some []
  | .bl b :: r => (bools r).map (b :: ·)
  | _ => none

def slArg : Bool → List D → Option (Option Int × List D)
  | false, l => some (none, l)
  | true, .int i :: r => some (some i, r)
  | _, _ => none

def inD (x : D) (xs : List D) : Bool := xs.any fun y => D.eq y x

def lenD : D → Option Nat
  | .str s => some s.length
  | .tup xs => some xs.length
  | .lst xs => some xs.length
  | .dct kvs => some kvs.length
  | _ => none

/-- small enough for // -/
def divOk (j : Int) : Bool := j != 0 && decide (j.natAbs < 1073741824)
def mulOk (i j : Int) : Bool := (decide (-(2 ^ 64) < i) && decide (i < 2 ^ 64)) || (decide (-(2 ^ 64) < j) && decide (j < 2 ^ 64))
def powOk (i j : Int) : Bool := decide (0 ≤ j) && decide (j ≤ 1000000) && decide (i.natAbs < 2 ^ 64)
def rngOk (i : Int) : Bool := decide (-(2 ^ 62) ≤ i) && decide (i < 2 ^ 62)

def iota (lo : Int) : Nat → List D
  | 0 => []
  | n + 1 => .int lo :: iota (lo + 1) n
def enumD : Nat → List D → List D
  | _, [] => []
  | i, x :: r => .tup [.int i, x] :: enumD (i + 1) r

/-- the size of a shown text, generously -/
def D.sz : D → Nat
  | .non => 4
  | .bl _ => 5
  | .int i => i.natAbs.log2 + 3
  | .str s => 10 * s.length + 2
  | .tup xs => szs xs + 4
  | .lst xs => szs xs + 4
  | .dct kvs => szd kvs + 4
where
  szs : List D → Nat
    | [] => 0
    | d :: r => D.sz d + 2 + szs r
  szd : List (D × D) → Nat
    | [] => 0
    | (k, v) :: r => D.sz k + D.sz v + 4 + szd r

def itemsD : D → Option (List D)
  | .lst xs => some xs
  | .tup xs => some xs
  | .str s => some (s.cps.toList.map chr1)
  | _ => none

def slD : D → Option Int → Option Int → Option D
  | .lst xs, lo, hi => some (.lst (cutD xs lo hi))
  | .tup xs, lo, hi => some (.tup (cutD xs lo hi))
  | .str s, lo, hi => if s.length ≤ line then some (.str (cutS s lo hi)) else none
  | _, _, _ => none
def Ty.name : Ty → String
  | .str => "str" | .tuple => "tuple" | .list => "list" | .int => "int" | .bool => "bool" | .dict => "dict"
/-- what sorted takes -/
def tupHd : D → Bool
  | .tup (_ :: _) => true
  | _ => false
def noTup : D → Bool
  | .tup _ => false
  | .non => false
  | _ => true
def sortOk (xs : List D) : Bool := (xs.all fun x => xs.all fun y => PySem.W.alike x.toP y.toP) && (xs.all tupHd || xs.all noTup) && xs.all fun x => decide (x.toP.depth ≤ 100)
def sortD (xs : List D) : List D := xs.mergeSort (PySem.W.dataLe false D.toP)
variable (shown : D → Option Str)

def Op.ap1 (o : Op) (d : D) : Option D :=
  match o with
  | .isi t => some (.bl (d.isTy t))
  | .len => match d with
    | .str z => if z.length ≤ line then some (.int z.length) else none
    | .lst xs => some (.int xs.length)
    | .tup xs => some (.int xs.length)
    | .dct xs => some (.int xs.length)
    | _ => none
  | .all => match d with
    | .lst xs => (D.bools xs).map fun bs => .bl (bs.all id)
    | _ => none
  | .any => match d with
    | .lst xs => (D.bools xs).map fun bs => .bl (bs.any id)
    | _ => none
  | .isN => some (.bl d.isNon)
  | .notN => some (.bl (!d.isNon))
  | .isB b => some (.bl (d.isB b))
  | .isntB b => some (.bl (!d.isB b))
  | .neg => match d with
    | .int i => some (.int (-i))
    | _ => none
  | .not_ => d.tru.map fun b => .bl (!b)
  | .toInt => match d with
    | .int i => some (.int i)
    | .bl b => some (.int (b2i b))
    | _ => none
  | .toList => match d with
    | .lst xs => some (.lst xs)
    | .tup xs => some (.lst xs)
    | _ => none
  | .toTuple => match d with
    | .lst xs => some (.tup xs)
    | .tup xs => some (.tup xs)
    | _ => none
  | .repr => (shown d).map .str
  | .range1 => match d with
    | .int n => if rngOk n then some (.lst (iota 0 n.toNat)) else none
    | _ => none
  | .enum => match d with
    | .lst xs => some (.lst (enumD 0 xs))
    | .tup xs => some (.lst (enumD 0 xs))
    | _ => none
  | .sorted => match d with
    | .lst xs => if sortOk xs then some (.lst (sortD xs)) else none
    | _ => none
  | _ => none

def Op.ap2 (o : Op) (a b : D) : Option D :=
  match o with
  | .eq => if a.cmp && b.cmp then some (.bl (D.eq a b)) else none
  | .ne => if a.cmp && b.cmp && !a.isDc && !b.isDc then some (.bl (!D.eq a b)) else none
  | .lt => match a, b with
    | .int i, .int j => some (.bl (decide (i < j)))
    | _, _ => none
  | .le => match a, b with
    | .int i, .int j => some (.bl (decide (i ≤ j)))
    | _, _ => none
  | .gt => match a, b with
    | .int i, .int j => some (.bl (decide (j < i)))
    | _, _ => none
  | .ge => match a, b with
    | .int i, .int j => some (.bl (decide (j ≤ i)))
    | _, _ => none
  | .isin => match b with
    | .str t => match a with
      | .str s => match s.cps.toList with
        | [c] => some (.bl (decide (c ∈ t.cps.toList)))
        | _ => none
      | _ => none
    | .lst xs => if a.cmp && (D.lst xs).cmp then some (.bl (inD a xs)) else none
    | .tup xs => if a.cmp && (D.lst xs).cmp then some (.bl (inD a xs)) else none
    | .dct kvs => if a.hk 8 then some (.bl (dhas kvs a)) else none
    | _ => none
  | .notin => match b with
    | .str t => match a with
      | .str s => match s.cps.toList with
        | [c] => some (.bl (!decide (c ∈ t.cps.toList)))
        | _ => none
      | _ => none
    | .lst xs => if a.cmp && (D.lst xs).cmp then some (.bl (!inD a xs)) else none
    | .tup xs => if a.cmp && (D.lst xs).cmp then some (.bl (!inD a xs)) else none
    | .dct kvs => if a.hk 8 then some (.bl (!dhas kvs a)) else none
    | _ => none
  | .add => match a, b with
    | .int i, .int j => some (.int (i + j))
    | .str a, .str b => if a.length + b.length ≤ line then some (.str (a ++ b)) else none
    | .lst a, .lst b => if a.length + b.length ≤ line then some (.lst (a ++ b)) else none
    | .tup a, .tup b => if a.length + b.length ≤ line then some (.tup (a ++ b)) else none
    | _, _ => none
  | .sub => match a, b with
    | .int i, .int j => some (.int (i - j))
    | _, _ => none
  | .mul => match a, b with
    | .int i, .int j => if mulOk i j then some (.int (i * j)) else none
    | _, _ => none
  | .mod => match a, b with
    | .int i, .int j => if j = 0 then none else some (.int (i.fmod j))
    | _, _ => none
  | .fdiv => match a, b with
    | .int i, .int j => if divOk j then some (.int (i.fdiv j)) else none
    | _, _ => none
  | .pow => match a, b with
    | .int i, .int j => if powOk i j then some (.int (i ^ j.toNat)) else none
    | _, _ => none
  | .max2 => match a, b with
    | .int i, .int j => some (.int (if j > i then j else i))
    | _, _ => none
  | .min2 => match a, b with
    | .int i, .int j => some (.int (if j < i then j else i))
    | _, _ => none
  | .ix => match a with
    | .dct kvs => if b.hk 8 then dget kvs b else none
    | a => match b with
      | .int i => match a with
        | .lst xs => ixD xs i
        | .tup xs => ixD xs i
        | .str s => if s.length ≤ line then (ixD s.cps.toList i).map chr1 else none
        | _ => none
      | _ => none
  | .range2 => match a, b with
    | .int m, .int n => if rngOk m && rngOk n then some (.lst (iota m (n - m).toNat)) else none
    | _, _ => none
  | _ => none

def Op.ap (o : Op) (ds : List D) : Option D :=
  match o with
  | .tup => if ds.length ≤ line then some (.tup ds) else none
  | .lst => if ds.length ≤ line then some (.lst ds) else none
  | .sl a b => match ds with
    | x :: r => match slArg a r with
      | some (lo, r) => match slArg b r with
        | some (hi, []) => slD x lo hi
        | _ => none
      | none => none
    | [] => none
  | o => match ds with
    | [a] => o.ap1 shown a
    | [a, b] => o.ap2 a b
    | _ => none

/-- a method that changes the object: (what it gives, the object behind it) -/
def MOp.ap : MOp → D → List D → Option (D × D)
  | .append, .lst xs, [y] => if xs.length < line then some (.non, .lst (xs ++ [y])) else none
  | .insert, .lst xs, [.int i, y] => if xs.length < line ∧ 0 ≤ i ∧ i < 2 ^ 62 then some (.non, .lst (xs.take i.toNat ++ [y] ++ xs.drop i.toNat)) else none
  | .extend, .lst xs, [.lst ys] => if xs.length + ys.length ≤ line then some (.non, .lst (xs ++ ys)) else none
  | .seti, .lst xs, [.int i, y] => if 0 ≤ i ∧ i < xs.length then some (.non, .lst (xs.set i.toNat y)) else none
  | .seti, .dct kvs, [k, y] => if k.hk 8 = true ∧ kvs.length < line then some (.non, .dct (dput kvs k y)) else none
  | .popAt, .lst xs, [.int i] => if 0 ≤ i ∧ i < xs.length ∧ xs.length ≤ line then (xs[i.toNat]?).map fun y => (y, .lst (xs.eraseIdx i.toNat)) else none
  | _, _, _ => none

/-! ### slots -/
def peek (r : Env) (j : Nat) : Option D :=
  match r[j]? with
  | some (.fz d) => some d
  | some (.ow d) => some d
  | some (.lk d) => some d
  | _ => none
def setE (r : Env) (j : Nat) (x : Slot) : Env := r.set j x
/-- a name handed on: frozen from here on -/
def capE (r : Env) (j : Nat) : Option (D × Env) :=
  match r[j]? with
  | some (.fz d) => some (d, r)
  | some (.ow d) => some (d, r.set j (.fz d))
  | _ => none
def owned (r : Env) (j : Nat) : Option D :=
  match r[j]? with
  | some (.ow d) => some d
  | _ => none
/-- a comprehension's own names -/
def wipeE (r : Env) (own : List Nat) : Env := own.foldl (fun r j => r.set j .un) r
def ownFree (r : Env) (own : List Nat) : Bool := own.all fun j => match r[j]? with | some .un => true | some (.fz _) => true | _ => false
def backE (r0 r : Env) (own : List Nat) : Env := own.foldl (fun r j => match r0[j]? with | some x => r.set j x | none => r) r
def setOw (r : Env) : List Nat → List D → Option Env
  | [], [] => some r
  | j :: js, d :: ds => match r[j]? with
    | some (.ow _) => setOw (r.set j (.ow d)) js ds
    | _ => none
  | _, _ => none

def MG.bind : MG → D → Env → Option Env
  | .sl j, d, r => some (r.set j (.fz d))
  | .tup g, .tup xs, r => binds g xs r
  | _, _, _ => none
where
  binds : MG → List D → Env → Option Env
    | .nil, [], r => some r
    | .cons a g, x :: xs, r => match MG.bind a x r with
      | some r' => binds g xs r'
      | none => none
    | _, _, _ => none

/-- names among the arguments are read again behind all of them -/
def ME.fresh : ME → List D → Env → Option (List D)
  | .cons (.nm j) m, _ :: ds, r => match peek r j, fresh m ds r with
    | some d, some l => some (d :: l)
    | _, _ => none
  | .cons _ m, d :: ds, r => (fresh m ds r).map (d :: ·)
  | .nil, [], _ => some []
  | _, _, _ => none
/-- the names that stand as arguments -/
def ME.names : ME → List Nat
  | .cons (.nm j) m => j :: names m
  | .cons _ m => names m
  | _ => []
/-- a constant dict's text at a text -/
def findS : List (D × D) → Str → Option Str
  | [], _ => none
  | (.str k, .str v) :: r, s => if k = s then some v else findS r s
  | _ :: r, s => findS r s
def cixD : Option (Str × D) → Str → Option Str
  | some (_, .dct kvs), s => findS kvs s
  | _, _ => none
structure FDef where
  nslots : Nat
  io : List Bool
  rf : Bool
  body : MS
structure Prog where
  gt : List (Nat × Str × D)
  fs : List FDef
  xs : List (Nat × XC) := []
  /-- which of the constants and the exceptions stand in the program -/
  gp : List Nat := []
  xp : List Nat := []
  /-- the constant dicts that stand in the program -/
  gd : List Nat := []

def compLoop (own : List Nat) (tg : MG) (c e : Env → Out (List D)) : List D → List D → Env → Out (List D)
  | acc, [], r => .ok acc r
  | acc, x :: xs, r =>
    match tg.bind x (wipeE r own) with
    | none => .stk
    | some r1 => (c r1).bind fun b r2 =>
      match b with
      | [b] => match b.tru with
        | some true => (e r2).bind fun y r3 => match y with
          | [y] => if acc.length < line then compLoop own tg c e (acc ++ [y]) xs r3 else .stk
          | _ => .stk
        | some false => compLoop own tg c e acc xs r2
        | none => .stk
      | _ => .stk

variable (P : Prog) (cf : Nat → List D → CR)

def ME.ev : ME → Env → Out (List D)
  | .kst d, r => .ok [d] r
  | .glb i, r => match P.gt.lookup i with
    | some x => .ok [x.2] r
    | none => .stk
  | .nm j, r => match peek r j with
    | some d => .ok [d] r
    | none => .stk
  | .cap j, r => match capE r j with
    | some (d, r') => .ok [d] r'
    | none => .stk
  | .nil, r => .ok [] r
  | .cons a m, r => (ev a r).bind fun x r1 => (ev m r1).bind fun y r2 => .ok (x ++ y) r2
  | .op o a, r => (ev a r).bind fun x r1 => match a.fresh x r1 with
    | some x => match o.ap shown x with
      | some d => .ok [d] r1
      | none => .stk
    | none => .stk
  | .chain o1 o2 ab c, r => (ev ab r).bind fun x r1 => match ab.fresh x r1 with
    | some x => match o1.ap shown x with
      | some (.bl true) => (ev c r1).bind fun z r2 => match ab.fresh x r2 with
        | some [_, y] => match (ME.cons c .nil).fresh z r2 with
          | some [z] => match o2.ap shown [y, z] with
            | some d => .ok [d] r2
            | none => .stk
          | _ => .stk
        | _ => .stk
      | some (.bl false) => .ok [.bl false] r1
      | _ => .stk
    | none => .stk
  | .and_ a b, r => (ev a r).bind fun x r1 => match x with
    | [x] => match x.tru with
      | some true => ev b r1
      | some false => .ok [x] r1
      | none => .stk
    | _ => .stk
  | .or_ a b, r => (ev a r).bind fun x r1 => match x with
    | [x] => match x.tru with
      | some true => .ok [x] r1
      | some false => ev b r1
      | none => .stk
    | _ => .stk
  | .ite c a b, r => (ev c r).bind fun x r1 => match x with
    | [x] => match x.tru with
      | some true => ev a r1
      | some false => ev b r1
      | none => .stk
    | _ => .stk
  | .call f sl a, r => (ev a r).bind fun x r1 => match a.fresh x r1 with
    | some x => match cf f x with
      | .ok d outs => match setOw r1 sl outs with
        | some r2 => .ok [d] r2
        | none => .stk
      | .err c fs outs => match setOw r1 sl outs with
        | some r2 => .err c fs r2
        | none => .stk
      | .stk => .stk
    | none => .stk
  | .mop o j a, r => match r[j]? with
    | some (.ow (.lst _)) => (ev a r).bind fun x r1 => match a.fresh x r1, owned r1 j with
      | some x, some d => match o.ap d x with
        | some (y, d') => .ok [y] (r1.set j (.ow d'))
        | none => .stk
      | _, _ => .stk
    | _ => .stk
  | .comp own tg it c e, r => (ev it r).bind fun x r1 => match x with
    | [x] => match itemsD x with
      | some xs => if ownFree r1 own then
          (compLoop own tg (ev c) (ev e) [] xs r1).nox.bind fun ys r2 => .ok [.lst ys] (backE r1 r2 own)
        else .stk
      | none => .stk
    | _ => .stk
  | .rep n a, r => (ev a r).bind fun x r1 => match x with
    | [.lst xs] => if xs.length * n ≤ line ∧ n ≤ 1000000 then .ok [.lst (List.replicate n xs).flatten] r1 else .stk
    | _ => .stk
  | .cix i a, r => (ev a r).bind fun x r1 => match x with
    | [.str s] => match cixD (P.gt.lookup i) s with
      | some z => .ok [.str z] r1
      | none => .stk
    | _ => .stk
  | .never, _ => .stk

def evC (m : ME) (r : Env) : Out Bool := (m.ev shown P cf r).bind fun x r1 => match x with
  | [x] => match x.tru with
    | some b => .ok b r1
    | none => .stk
  | _ => .stk

def forLoop (tg : MG) (body : Env → Out Fl) : List D → Env → Out Fl
  | [], r => .ok .nx r
  | x :: xs, r => match tg.bind x r with
    | none => .stk
    | some r1 => (body r1).bind fun f r2 => match f with
      | .nx => forLoop tg body xs r2
      | .ct => forLoop tg body xs r2
      | .bk => .ok .nx r2
      | .ret d => .ok (.ret d) r2

def whlLoop (c : Env → Out Bool) (body : Env → Out Fl) : Nat → Env → Out Fl
  | 0, _ => .stk
  | n + 1, r => (c r).bind fun b r1 => if b then (body r1).bind fun f r2 => match f with
      | .nx => whlLoop c body n r2
      | .ct => whlLoop c body n r2
      | .bk => .ok .nx r2
      | .ret d => .ok (.ret d) r2
    else .ok .nx r1

/-- a value that is nobody else's: a new object, or no object that changes -/
def ME.fr : ME → Bool
  | .kst _ => true
  | .nil => true
  | .cons a m => fr a && fr m
  | .op o _ => match o with
    | .ix => false
    | _ => true
  | .chain .. => true
  | .and_ a b => fr a && fr b
  | .or_ a b => fr a && fr b
  | .ite _ a b => fr a && fr b
  | .call f _ _ => match P.fs[f]? with
    | some fd => fd.rf
    | none => false
  | .mop .. => false
  | .comp .. => true
  | .rep .. => true
  | .cix .. => true
  | .never => true
  | _ => false

/-- x = e: an object of one's own where e is new -/
def asgE (g : MG) (own : Bool) (d : D) (r : Env) : Option Env :=
  match g, own with
  | .sl j, true => some (r.set j (mkSlot d))
  | g, _ => g.bind d r

def oneOf : List D → Option D
  | [d] => some d
  | _ => none
/-- an atom of an except suite -/
def HE.at (xc : XC) (fs : List D) (r : Env) : HE → Option D
  | .kst d => some d
  | .fld => oneOf fs
  | .isi t => (xc.isa.lookup t).map .bl
  | .nm j => (match r[j]? with
    | some (.fz d) => some d
    | _ => none)
  | .not_ a => (match HE.at xc fs r a with
    | some d => d.tru.map fun b => .bl (!b)
    | none => none)
  | .and_ a b => (match HE.at xc fs r a with
    | some d => (match d.tru with
      | some true => HE.at xc fs r b
      | some false => some d
      | none => none)
    | none => none)
  | .or_ a b => (match HE.at xc fs r a with
    | some d => (match d.tru with
      | some true => some d
      | some false => HE.at xc fs r b
      | none => none)
    | none => none)
  | .eq a b => (match HE.at xc fs r a, HE.at xc fs r b with
    | some x, some y => Op.eq.ap2 x y
    | _, _ => none)
  | _ => none
def HE.ls (xc : XC) (fs : List D) (r : Env) : HE → Option (List D)
  | .nil => some []
  | .cons a m => (match HE.at xc fs r a, HE.ls xc fs r m with
    | some d, some l => some (d :: l)
    | _, _ => none)
  | _ => none
def HS.ev (xc : XC) (fs : List D) (rf : Bool) : HS → Env → Option (Fl × Env)
  | .nil, r => some (.nx, r)
  | .seq s t, r => (match HS.ev xc fs rf s r with
    | some (.nx, r1) => HS.ev xc fs rf t r1
    | x => x)
  | .asg j e, r => (match e with
    | .lst a => (match a.ls xc fs r with
      | some ds => if ds.length ≤ line then some (.nx, r.set j (.ow (.lst ds))) else none
      | none => none)
    | e => (match e.at xc fs r with
      | some d => some (.nx, r.set j (.fz d))
      | none => none))
  | .ret e, r => (match e with
    | .lst a => (match a.ls xc fs r with
      | some ds => if ds.length ≤ line then some (.ret (.lst ds), r) else none
      | none => none)
    | e => (match e.at xc fs r with
      | some d => if rf && d.mutb then none else some (.ret d, r)
      | none => none))
  | .ifs c a b, r => (match c.at xc fs r with
    | some d => (match d.tru with
      | some true => HS.ev xc fs rf a r
      | some false => HS.ev xc fs rf b r
      | none => none)
    | none => none)
def frzE (r : Env) (js : List Nat) : Env := js.foldl (fun (r : Env) (j : Nat) => match r[j]? with
  | some (.ow d) => r.set j (.fz d)
  | _ => r) r
def hotE (r : Env) : Option Nat → Env
  | none => r
  | some j => r.set j .un
def hotOk (r : Env) : Option Nat → Bool
  | none => true
  | some j => decide (j < r.length)

def MS.ev (rf : Bool) : MS → Env → Out Fl
  | .nil, r => .ok .nx r
  | .seq s t, r => (ev rf s r).bind fun f r1 => match f with
    | .nx => ev rf t r1
    | f => .ok f r1
  | .asg g e, r => (e.ev shown P cf r).bind fun x r1 => match x with
    | [d] => match asgE g (e.fr P) d r1 with
      | some r2 => .ok .nx r2
      | none => .stk
    | _ => .stk
  | .par i j a b, r => ((ME.cons a (.cons b .nil)).ev shown P cf r).bind fun x r1 => match x with
    | [x, y] => .ok .nx ((r1.set i (.fz x)).set j (.fz y))
    | _ => .stk
  | .expr e, r => (e.ev shown P cf r).bind fun _ r1 => .ok .nx r1
  | .aug o j e, r => match peek r j with
    | some x => (e.ev shown P cf r).bind fun y r1 => match y with
      | [y] => match x with
        | .int _ => match o.ap shown [x, y] with
          | some d => .ok .nx (r1.set j (.fz d))
          | none => .stk
        | _ => .stk
      | _ => .stk
    | none => .stk
  | .seti j k v, r => match r[j]? with
    | some (.ow _) => (v.ev shown P cf r).bind fun x r1 => (k.ev shown P cf r1).bind fun y r2 => match x, y, owned r2 j with
      | [v], [k], some d => match MOp.seti.ap d [k, v] with
        | some (_, d') => .ok .nx (r2.set j (.ow d'))
        | none => .stk
      | _, _, _ => .stk
    | _ => .stk
  | .ret e, r => match e with
    | .nm j => match rf, r[j]? with
      | true, some (.ow d) => .ok (.ret d) r
      | true, some (.fz d) => if d.mutb then .stk else .ok (.ret d) r
      | false, some (.ow d) => .ok (.ret d) (r.set j (.fz d))
      | false, some (.fz d) => .ok (.ret d) r
      | _, _ => .stk
    | e => (e.ev shown P cf r).bind fun x r1 => match x with
      | [d] => if rf && !e.fr P && d.mutb then .stk else .ok (.ret d) r1
      | _ => .stk
  | .retN, r => .ok (.ret .non) r
  | .ife c a b, r => (evC shown P cf c r).bind fun t r1 => if t then ev rf a r1 else ev rf b r1
  | .for_ tg it body, r => (it.ev shown P cf r).bind fun x r1 => match x with
    | [x] => match itemsD x with
      | some xs => forLoop tg (ev rf body) xs r1
      | none => .stk
    | _ => .stk
  | .whl n c body, r => whlLoop (evC shown P cf c) (ev rf body) n r
  | .brk, r => .ok .bk r
  | .cont, r => .ok .ct r
  | .pass, r => .ok .nx r
  | .scrub js s, r => (ev rf s r).bind fun f r1 => .ok f (wipeE r1 js)
  | .frz js s, r => ev rf s (frzE r js)
  | .raise c a, r => (a.ev shown P cf r).bind fun x r1 => .err c x r1
  | .tryx body n x h, r => (match ev rf body r with
    | .ok f r1 => .ok f r1
    | .err n' fs r1 => if n' = n then (match P.xs.lookup n with
        | some xc => if hotOk r1 x then (match h.ev xc fs rf (hotE r1 x) with
          | some (f, r2) => .ok f (hotE r2 x)
          | none => .stk) else .stk
        | none => .stk) else (match P.xs.lookup n' with
        | some xm => if P.xp.contains n' && xm.apart n then .err n' fs r1 else .stk
        | none => .stk)
    | .stk => .stk)
  | .never, _ => .stk

def iosOf : List Bool → Env → Option (List D)
  | [], _ => some []
  | true :: bs, .ow d :: r => (iosOf bs r).map (d :: ·)
  | false :: bs, _ :: r => iosOf bs r
  | _, _ => none
def startE (n : Nat) (io : List Bool) (ds : List D) : Env := (io.zip ds).map (fun (b, d) => if b then .ow d else .fz d) ++ List.replicate (n - ds.length) .un

def FDef.run (fd : FDef) (ds : List D) : CR :=
  if ds.length = fd.io.length then
    match fd.body.ev shown P cf fd.rf (startE fd.nslots fd.io ds) with
    | .ok f r => match f, iosOf fd.io r with
      | .nx, some outs => .ok .non outs
      | .ret d, some outs => .ok d outs
      | _, _ => .stk
    | .err c fs r => match iosOf fd.io r with
      | some outs => .err c fs outs
      | none => .stk
    | .stk => .stk
  else .stk

/-- calls, k deep -/
def callN : Nat → Nat → List D → CR
  | 0, _, _ => .stk
  | k + 1, f, ds => match P.fs[f]? with
    | some fd => fd.run shown P (callN k) ds
    | none => .stk
end VL

/-! VL2: how data lie in the abstract heap; the state of a def's body. -/
namespace VL
open PySem PySem.Spec L2

/-- what the program's top left, and the world -/
structure KW where
  K : PySem.W.Frag
  w : World
abbrev kw (X : Cx) : KW := ⟨X.K, X.w⟩
/-- one entry of a dict: its hash, its key, its value -/
abbrev ERow := Int × V × V
def EntR (e : ERow) (d : DictEntry) : Prop := d.hash = e.1 ∧ RelV e.2.1 d.key ∧ RelV e.2.2 d.val
/-- a dict's object -/
def DctAt (a : Addr) (ep : Nat) (es : List ERow) (h : Heap) : Prop := es.length ≤ sizeLine ∧ (a == sysModules) = false ∧ ∃ o ds, h.get? a = some o ∧ o.ExactDict ∧ o.data = .dict ds ep ∧ Paired EntR es ds.toList
def DctO (a : Addr) (ep : Nat) (es : List ERow) : HO := .ext (DctAt a ep es)
/-- d lies at v, all of it in G -/
def RV (K : KW) (G : Hp) : D → V → Prop
  | .non, v => v = .non
  | .bl b, v => v = .bl b
  | .int i, v => v = .int i
  | .str s, v => v = .str s
  | .tup ds, v => ∃ a vs, v = .ref a ∧ SqT K.K G a vs ∧ all ds vs
  | .lst ds, v => ∃ a vs, v = .ref a ∧ SqL K.K G a vs ∧ all ds vs
  | .dct kvs, v => ∃ a ep es, v = .ref a ∧ G a = some (DctO a ep es) ∧ (kvs.map (·.1.key)).Nodup ∧ ents kvs es
where
  all : List D → List V → Prop
    | [], vs => vs = []
    | d :: ds, vs => ∃ v r, vs = v :: r ∧ RV K G d v ∧ all ds r
  ents : List (D × D) → List ERow → Prop
    | [], es => es = []
    | (k, d) :: kvs, es => ∃ x y r, es = (k.key.hash K.w, x, y) :: r ∧ k.hk 8 = true ∧ RV K G k x ∧ RV K G d y ∧ ents kvs r
abbrev RVs (K : KW) (G : Hp) : List D → List V → Prop := RV.all K G
abbrev REs (K : KW) (G : Hp) : List (D × D) → List ERow → Prop := RV.ents K G
/-- an object of one's own at a: its items lie in G -/
def OV (K : KW) (G H : Hp) : D → Addr → Prop
  | .lst ds, a => ∃ vs, H a = some (.lst vs) ∧ RVs K G ds vs
  | .dct kvs, a => ∃ ep es, H a = some (DctO a ep es) ∧ (kvs.map (·.1.key)).Nodup ∧ REs K G kvs es
  | _, _ => False

section
variable {K : KW} {G G' H H' : Hp}
theorem SqT.mono {F : PySem.W.Frag} {a : Addr} {xs : List V} (g : Same G G') (h : SqT F G a xs) : SqT F G' a xs := by
  rcases h with (h | ⟨o, h⟩) | h
  · exact .inl (.inl (g _ _ h))
  · exact .inl (.inr ⟨o, g _ _ h⟩)
  · exact .inr h
mutual
theorem RV.mono (g : Same G G') : ∀ {d : D} {v : V}, RV K G d v → RV K G' d v
  | .non, _, h => h
  | .bl _, _, h => h
  | .int _, _, h => h
  | .str _, _, h => h
  | .tup ds, _, ⟨a, vs, e, h, r⟩ => ⟨a, vs, e, SqT.mono g h, RVs.mono g r⟩
  | .lst ds, _, ⟨a, vs, e, h, r⟩ => ⟨a, vs, e, g.seq h, RVs.mono g r⟩
  | .dct _, _, ⟨a, ep, es, e, h, n, r⟩ => ⟨a, ep, es, e, g _ _ h, n, REs.mono g r⟩
theorem RVs.mono (g : Same G G') : ∀ {ds : List D} {vs : List V}, RVs K G ds vs → RVs K G' ds vs
  | [], _, h => h
  | d :: ds, _, ⟨v, r, e, h1, h2⟩ => ⟨v, r, e, RV.mono g h1, RVs.mono g h2⟩
theorem REs.mono (g : Same G G') : ∀ {kvs : List (D × D)} {es : List ERow}, REs K G kvs es → REs K G' kvs es
  | [], _, h => h
  | (k, d) :: kvs, _, ⟨x, y, r, e, h0, h1, h2, h3⟩ => ⟨x, y, r, e, h0, RV.mono g h1, RV.mono g h2, REs.mono g h3⟩
end
theorem RVs.nil : RVs K G [] [] := rfl
theorem RVs.cons {d : D} {v : V} {ds : List D} {vs : List V} (h1 : RV K G d v) (h2 : RVs K G ds vs) : RVs K G (d :: ds) (v :: vs) := ⟨v, vs, rfl, h1, h2⟩
theorem RVs.len : ∀ {ds : List D} {vs : List V}, RVs K G ds vs → vs.length = ds.length
  | [], _, h => by rw [show _ = [] from h]; rfl
  | d :: ds, _, ⟨v, r, e, h1, h2⟩ => by rw [e, List.length_cons, List.length_cons, RVs.len h2]
theorem RVs.one {d : D} {v : V} (h : RV K G d v) : RVs K G [d] [v] := RVs.cons h RVs.nil
theorem RVs.app : ∀ {ds es : List D} {vs ws : List V}, RVs K G ds vs → RVs K G es ws → RVs K G (ds ++ es) (vs ++ ws)
  | [], _, _, _, h, k => by rw [show _ = [] from h]; exact k
  | d :: ds, _, _, _, ⟨v, r, e, h1, h2⟩, k => by rw [e]; exact RVs.cons h1 (RVs.app h2 k)
theorem RVs.get : ∀ {ds : List D} {vs : List V} {i : Nat} {d : D}, RVs K G ds vs → ds[i]? = some d → ∃ v, vs[i]? = some v ∧ RV K G d v
  | [], _, _, _, _, e => by simp at e
  | d :: ds, _, 0, _, ⟨v, r, e, h1, h2⟩, q => by
    simp at q
    subst q e
    exact ⟨v, rfl, h1⟩
  | d :: ds, _, i + 1, x, ⟨v, r, e, h1, h2⟩, q => by
    subst e
    obtain ⟨u, h, k⟩ := RVs.get (i := i) h2 (by simpa using q)
    exact ⟨u, by simpa using h, k⟩
theorem RVs.getV : ∀ {ds : List D} {vs : List V} {i : Nat} {v : V}, RVs K G ds vs → vs[i]? = some v → ∃ d, ds[i]? = some d ∧ RV K G d v
  | [], _, _, _, h, e => by rw [show _ = [] from h] at e; simp at e
  | d :: ds, _, 0, _, ⟨v, r, e, h1, h2⟩, q => by
    subst e
    simp at q
    subst q
    exact ⟨d, rfl, h1⟩
  | d :: ds, _, i + 1, x, ⟨v, r, e, h1, h2⟩, q => by
    subst e
    obtain ⟨u, h, k⟩ := RVs.getV (i := i) h2 (by simpa using q)
    exact ⟨u, by simpa using h, k⟩
theorem RVs.drop : ∀ {ds : List D} {vs : List V} (n : Nat), RVs K G ds vs → RVs K G (ds.drop n) (vs.drop n)
  | _, _, 0, h => h
  | [], _, n + 1, h => by rw [show _ = [] from h]; exact RVs.nil
  | d :: ds, _, n + 1, ⟨v, r, e, h1, h2⟩ => by subst e; exact RVs.drop n h2
theorem RVs.take : ∀ {ds : List D} {vs : List V} (n : Nat), RVs K G ds vs → RVs K G (ds.take n) (vs.take n)
  | _, _, 0, h => RVs.nil
  | [], _, n + 1, h => by rw [show _ = [] from h]; exact RVs.nil
  | d :: ds, _, n + 1, ⟨v, r, e, h1, h2⟩ => by subst e; exact RVs.cons h1 (RVs.take n h2)
theorem RVs.set : ∀ {ds : List D} {vs : List V} {d : D} {v : V} (n : Nat), RVs K G ds vs → RV K G d v → RVs K G (ds.set n d) (vs.set n v)
  | [], _, _, _, _, h, _ => by rw [show _ = [] from h]; exact RVs.nil
  | d :: ds, _, _, _, 0, ⟨v, r, e, h1, h2⟩, k => by subst e; exact RVs.cons k h2
  | d :: ds, _, _, _, n + 1, ⟨v, r, e, h1, h2⟩, k => by subst e; exact RVs.cons h1 (RVs.set n h2 k)
theorem RVs.erase : ∀ {ds : List D} {vs : List V} (n : Nat), RVs K G ds vs → RVs K G (ds.eraseIdx n) (vs.eraseIdx n)
  | [], _, _, h => by rw [show _ = [] from h]; exact RVs.nil
  | d :: ds, _, 0, ⟨v, r, e, h1, h2⟩ => by subst e; exact h2
  | d :: ds, _, n + 1, ⟨v, r, e, h1, h2⟩ => by subst e; exact RVs.cons h1 (RVs.erase n h2)
theorem RVs.snoc {ds : List D} {vs : List V} {d : D} {v : V} (h : RVs K G ds vs) (k : RV K G d v) : RVs K G (ds ++ [d]) (vs ++ [v]) := RVs.app h (RVs.one k)
theorem OV.mono (g : Same G G') : ∀ {d : D} {a : Addr}, OV K G H d a → OV K G' H d a
  | .lst _, _, ⟨vs, h, r⟩ => ⟨vs, h, RVs.mono g r⟩
  | .dct _, _, ⟨ep, es, h, n, r⟩ => ⟨ep, es, h, n, REs.mono g r⟩
theorem OV.heap : ∀ {d : D} {a : Addr}, OV K G H d a → H' a = H a → OV K G H' d a
  | .lst _, _, ⟨vs, h, r⟩, e => ⟨vs, e.trans h, r⟩
  | .dct _, _, ⟨ep, es, h, r⟩, e => ⟨ep, es, e.trans h, r⟩
theorem OV.there : ∀ {d : D} {a : Addr}, OV K G H d a → ∃ o, H a = some o
  | .lst _, _, ⟨vs, h, r⟩ => ⟨_, h⟩
  | .dct _, _, ⟨ep, es, h, r⟩ => ⟨_, h⟩
theorem OV.mutb : ∀ {d : D} {a : Addr}, OV K G H d a → d.mutb = true
  | .lst _, _, _ => rfl
  | .dct _, _, _ => rfl
/-- once it is in G -/
theorem OV.rv : ∀ {d : D} {a : Addr} {o : HO}, OV K G H d a → H a = some o → Same G G' → G' a = some o → RV K G' d (.ref a)
  | .lst _, _, _, ⟨vs, h, r⟩, e, g, k => ⟨_, vs, rfl, SqL.of (by rw [k, ← e, h]), RVs.mono g r⟩
  | .dct _, _, _, ⟨ep, es, h, n, r⟩, e, g, k => ⟨_, ep, es, rfl, by rw [k, ← e, h], n, REs.mono g r⟩
end

/-! ### the state of a body -/
def ownAt (σ : St) (r : Env) (j : Nat) (a : Addr) : Prop := σ[j]? = some (some (.ref a)) ∧ ∃ d, r[j]? = some (.ow d) ∨ r[j]? = some (.lk d)
def SlotOk (K : KW) (Fr G H : Hp) (x : Option (Option V)) : Slot → Prop
  | .un => True
  | .fz d => ∃ v, x = some (some v) ∧ RV K G d v
  | .ow d => ∃ a, x = some (some (.ref a)) ∧ G a = none ∧ Fr a = none ∧ OV K G H d a
  | .lk d => ∃ a, x = some (some (.ref a)) ∧ G a = none ∧ Fr a = none ∧ OV K G H d a
/-- io: the parameters that the caller owns; Fr: objects of others; G: what is frozen -/
structure SR (K : KW) (io : List (Nat × Addr)) (Fr G : Hp) (σ : St) (H : Hp) (r : Env) : Prop where
  len : r.length = σ.length
  g : Same G H
  f : ∀ a o, Fr a = some o → H a = some o ∧ G a = none
  s : ∀ (j : Nat) (x : Slot), r[j]? = some x → SlotOk K Fr G H σ[j]? x
  d : ∀ i j a, ownAt σ r i a → ownAt σ r j a → i = j
  i : ∀ p ∈ io, σ[p.1]? = some (some (.ref p.2)) ∧ ∃ d, r[p.1]? = some (.ow d) ∨ r[p.1]? = some (.lk d)

theorem same_upd {H : Hp} {p : Addr} {o : HO} (h : H p = none) : Same H (upd H p o) := fun b x e => by
  rw [upd_ne (ne_of_none e h)]
  exact e

section
variable {K : KW} {io : List (Nat × Addr)} {Fr G G' H H' : Hp} {σ : St} {r : Env}
theorem SlotOk.mono {x : Option (Option V)} (gg : Same G G') (hG : ∀ a, Fr a = none → G a = none → (∃ o, H a = some o) → x = some (some (.ref a)) → G' a = none ∧ H' a = H a) : ∀ {t : Slot}, SlotOk K Fr G H x t → SlotOk K Fr G' H' x t
  | .un, h => h
  | .fz _, ⟨v, e, h⟩ => ⟨v, e, h.mono gg⟩
  | .ow _, ⟨a, e, h1, h2, h3⟩ => let z := hG a h2 h1 h3.there e; ⟨a, e, z.1, h2, (h3.mono gg).heap z.2⟩
  | .lk _, ⟨a, e, h1, h2, h3⟩ => let z := hG a h2 h1 h3.there e; ⟨a, e, z.1, h2, (h3.mono gg).heap z.2⟩
theorem SR.ownSlot {j : Nat} {a : Addr} (S : SR K io Fr G σ H r) (h : ownAt σ r j a) : G a = none ∧ Fr a = none ∧ ∃ o, H a = some o := by
  obtain ⟨e, d, h | h⟩ := h
  · obtain ⟨b, e', h1, h2, h3⟩ := S.s _ _ h
    rw [e] at e'
    cases e'
    exact ⟨h1, h2, h3.there⟩
  · obtain ⟨b, e', h1, h2, h3⟩ := S.s _ _ h
    rw [e] at e'
    cases e'
    exact ⟨h1, h2, h3.there⟩
/-- the heap grew by one object that nobody holds -/
theorem SR.grow {p : Addr} {o : HO} (S : SR K io Fr G σ H r) (h : H p = none) : SR K io Fr G σ (upd H p o) r := by
  have ss : Same H (upd H p o) := same_upd h
  refine ⟨S.len, fun a u e => ss _ _ (S.g a u e), fun a u e => ⟨ss _ _ (S.f a u e).1, (S.f a u e).2⟩, fun j x e => ?_, S.d, S.i⟩
  refine (S.s j x e).mono (fun _ _ q => q) fun a h1 h2 h3 _ => ⟨h2, ?_⟩
  obtain ⟨u, h3⟩ := h3
  rw [upd_ne (ne_of_none h3 h)]
/-- an object that nobody holds is frozen -/
theorem SR.freeze {p : Addr} {o : HO} (S : SR K io Fr G σ H r) (h : H p = some o) (hG : G p = none) (hF : Fr p = none) (hn : ∀ j, ¬ ownAt σ r j p) : SR K io Fr (upd G p o) σ H r := by
  refine ⟨S.len, fun a u e => ?_, fun a u e => ⟨(S.f a u e).1, ?_⟩, fun j x e => ?_, S.d, S.i⟩
  · by_cases z : a = p
    · subst z
      rw [upd_same] at e
      cases e
      exact h
    · rw [upd_ne z] at e
      exact S.g a u e
  · have z : a ≠ p := fun z => by subst z; rw [hF] at e; cases e
    rw [upd_ne z]
    exact (S.f a u e).2
  · have S1 := S.s j x e
    have gg : Same G (upd G p o) := same_upd hG
    cases x with
    | un => exact S1
    | fz d => obtain ⟨v, e1, h1⟩ := S1; exact ⟨v, e1, h1.mono gg⟩
    | ow d =>
      obtain ⟨a, e1, h1, h2, h3⟩ := S1
      have z : a ≠ p := fun z => hn j (by subst z; exact ⟨e1, d, .inl e⟩)
      exact ⟨a, e1, by rw [upd_ne z]; exact h1, h2, h3.mono gg⟩
    | lk d =>
      obtain ⟨a, e1, h1, h2, h3⟩ := S1
      have z : a ≠ p := fun z => hn j (by subst z; exact ⟨e1, d, .inr e⟩)
      exact ⟨a, e1, by rw [upd_ne z]; exact h1, h2, h3.mono gg⟩
theorem SR.none_own {p : Addr} (S : SR K io Fr G σ H r) (h : H p = none) (j : Nat) : ¬ ownAt σ r j p := fun q => by
  obtain ⟨_, _, o, e⟩ := S.ownSlot q
  rw [h] at e
  cases e
theorem SR.none_g {p : Addr} (S : SR K io Fr G σ H r) (h : H p = none) : G p = none := by
  cases e : G p with
  | none => rfl
  | some o => rw [S.g _ _ e] at h; cases h
theorem SR.none_f {p : Addr} (S : SR K io Fr G σ H r) (h : H p = none) : Fr p = none := by
  cases e : Fr p with
  | none => rfl
  | some o => rw [(S.f _ _ e).1] at h; cases h
/-- a new object, frozen at once -/
theorem SR.new {p : Addr} {o : HO} (S : SR K io Fr G σ H r) (h : H p = none) : SR K io Fr (upd G p o) σ (upd H p o) r :=
  (S.grow h).freeze upd_same (S.none_g h) (S.none_f h) fun j q => S.none_own h j q

theorem ownAt.set {σ : St} {r : Env} {j i : Nat} {a : Addr} {v : Option V} {x : Slot} (h : ownAt (σ.set j v) (r.set j x) i a) : i = j ∨ ownAt σ r i a := by
  by_cases z : i = j
  · exact .inl z
  · obtain ⟨h1, d, h2⟩ := h
    rw [List.getElem?_set_ne (Ne.symm z)] at h1
    rw [List.getElem?_set_ne (Ne.symm z)] at h2
    exact .inr ⟨h1, d, h2⟩
/-- a slot holds a frozen value -/
theorem SR.setFz {j : Nat} {d : D} {v : V} (S : SR K io Fr G σ H r) (hj : ∀ p ∈ io, p.1 ≠ j) (h : RV K G d v) : SR K io Fr G (σ.set j (some v)) H (r.set j (.fz d)) := by
  have l1 : r.length = σ.length := S.len
  refine ⟨by rw [List.length_set, List.length_set, l1], S.g, S.f, fun i x e => ?_, fun i i' a q q' => ?_, fun p hp => ?_⟩
  · by_cases z : i = j
    · subst z
      have hlt : i < r.length := by
        have := (List.getElem?_eq_some_iff.mp e).1
        rwa [List.length_set] at this
      rw [List.getElem?_set_self hlt] at e
      cases e
      exact ⟨v, List.getElem?_set_self (by omega), h⟩
    · rw [List.getElem?_set_ne (Ne.symm z)] at e
      rw [List.getElem?_set_ne (Ne.symm z)]
      exact S.s i x e
  · have fzno : ∀ {i}, ownAt (σ.set j (some v)) (r.set j (.fz d)) i a → i ≠ j := fun {i} q z => by
      obtain ⟨h1, x, h2⟩ := q
      subst z
      by_cases hlt : i < r.length
      · rw [List.getElem?_set_self hlt] at h2
        rcases h2 with h2 | h2 <;> cases h2
      · rw [List.getElem?_eq_none (by rw [List.length_set]; omega)] at h2
        rcases h2 with h2 | h2 <;> cases h2
    rcases ownAt.set q with z | q1
    · exact absurd z (fzno q)
    · rcases ownAt.set q' with z | q2
      · exact absurd z (fzno q')
      · exact S.d i i' a q1 q2
  · obtain ⟨h1, d', h2⟩ := S.i p hp
    rw [List.getElem?_set_ne (Ne.symm (hj p hp)), List.getElem?_set_ne (Ne.symm (hj p hp))]
    exact ⟨h1, d', h2⟩
/-- a slot is forgotten -/
theorem SR.setUn {j : Nat} {v : Option V} (S : SR K io Fr G σ H r) (hj : ∀ p ∈ io, p.1 ≠ j) : SR K io Fr G (σ.set j v) H (r.set j .un) := by
  refine ⟨by rw [List.length_set, List.length_set, S.len], S.g, S.f, fun i x e => ?_, fun i i' a q q' => ?_, fun p hp => ?_⟩
  · by_cases z : i = j
    · subst z
      have hlt : i < r.length := by
        have := (List.getElem?_eq_some_iff.mp e).1
        rwa [List.length_set] at this
      rw [List.getElem?_set_self hlt] at e
      cases e
      trivial
    · rw [List.getElem?_set_ne (Ne.symm z)] at e
      rw [List.getElem?_set_ne (Ne.symm z)]
      exact S.s i x e
  · have fzno : ∀ {i}, ownAt (σ.set j v) (r.set j .un) i a → i ≠ j := fun {i} q z => by
      obtain ⟨h1, x, h2⟩ := q
      subst z
      by_cases hlt : i < r.length
      · rw [List.getElem?_set_self hlt] at h2
        rcases h2 with h2 | h2 <;> cases h2
      · rw [List.getElem?_eq_none (by rw [List.length_set]; omega)] at h2
        rcases h2 with h2 | h2 <;> cases h2
    rcases ownAt.set q with z | q1
    · exact absurd z (fzno q)
    · rcases ownAt.set q' with z | q2
      · exact absurd z (fzno q')
      · exact S.d i i' a q1 q2
  · obtain ⟨h1, d', h2⟩ := S.i p hp
    rw [List.getElem?_set_ne (Ne.symm (hj p hp)), List.getElem?_set_ne (Ne.symm (hj p hp))]
    exact ⟨h1, d', h2⟩
/-- a slot holds an object that nobody else holds -/
theorem SR.setOw {j : Nat} {d : D} {a : Addr} (S : SR K io Fr G σ H r) (hj : ∀ p ∈ io, p.1 ≠ j) (h : OV K G H d a) (hG : G a = none) (hF : Fr a = none) (hn : ∀ i, ¬ ownAt σ r i a) :
    SR K io Fr G (σ.set j (some (.ref a))) H (r.set j (.ow d)) := by
  have l1 : r.length = σ.length := S.len
  refine ⟨by rw [List.length_set, List.length_set, l1], S.g, S.f, fun i x e => ?_, fun i i' b q q' => ?_, fun p hp => ?_⟩
  · by_cases z : i = j
    · subst z
      have hlt : i < r.length := by
        have := (List.getElem?_eq_some_iff.mp e).1
        rwa [List.length_set] at this
      rw [List.getElem?_set_self hlt] at e
      cases e
      exact ⟨a, List.getElem?_set_self (by omega), hG, hF, h⟩
    · rw [List.getElem?_set_ne (Ne.symm z)] at e
      rw [List.getElem?_set_ne (Ne.symm z)]
      exact S.s i x e
  · have atj : ∀ {i}, ownAt (σ.set j (some (.ref a))) (r.set j (.ow d)) i b → i = j → b = a := fun {i} q z => by
      obtain ⟨h1, x, h2⟩ := q
      subst z
      by_cases hlt : i < σ.length
      · rw [List.getElem?_set_self hlt] at h1
        cases h1
        rfl
      · rw [List.getElem?_eq_none (by rw [List.length_set]; omega)] at h1
        cases h1
    rcases ownAt.set q with z | q1
    · rcases ownAt.set q' with z' | q2
      · rw [z, z']
      · exact absurd (by rw [← atj q z]; exact q2) (hn i')
    · rcases ownAt.set q' with z' | q2
      · exact absurd (by rw [← atj q' z']; exact q1) (hn i)
      · exact S.d i i' b q1 q2
  · obtain ⟨h1, d', h2⟩ := S.i p hp
    rw [List.getElem?_set_ne (Ne.symm (hj p hp)), List.getElem?_set_ne (Ne.symm (hj p hp))]
    exact ⟨h1, d', h2⟩
/-- the object of slot j is changed -/
theorem SR.put {j : Nat} {d d' : D} {a : Addr} {o : HO} (S : SR K io Fr G σ H r) (ha : σ[j]? = some (some (.ref a))) (hr : r[j]? = some (.ow d)) (h : OV K G (upd H a o) d' a) :
    SR K io Fr G σ (upd H a o) (r.set j (.ow d')) := by
  have hoa : ownAt σ r j a := ⟨ha, d, .inl hr⟩
  obtain ⟨ga, fa, _⟩ := S.ownSlot hoa
  have hlt : j < r.length := (List.getElem?_eq_some_iff.mp hr).1
  have own_back : ∀ {i b}, ownAt σ (r.set j (.ow d')) i b → ownAt σ r i b := fun {i b} q => by
    obtain ⟨h1, x, h2⟩ := q
    by_cases z : i = j
    · subst z
      exact ⟨h1, d, .inl hr⟩
    · rw [List.getElem?_set_ne (Ne.symm z)] at h2
      exact ⟨h1, x, h2⟩
  refine ⟨by rw [List.length_set, S.len], fun b u e => ?_, fun b u e => ⟨?_, (S.f b u e).2⟩, fun i x e => ?_, fun i i' b q q' => S.d i i' b (own_back q) (own_back q'), fun p hp => ?_⟩
  · have z : b ≠ a := fun z => by subst z; rw [ga] at e; cases e
    rw [upd_ne z]
    exact S.g b u e
  · have z : b ≠ a := fun z => by subst z; rw [fa] at e; cases e
    rw [upd_ne z]
    exact (S.f b u e).1
  · by_cases z : i = j
    · subst z
      rw [List.getElem?_set_self hlt] at e
      cases e
      exact ⟨a, ha, ga, fa, h⟩
    · rw [List.getElem?_set_ne (Ne.symm z)] at e
      have S1 := S.s i x e
      have other : ∀ b, ownAt σ r i b → upd H a o b = H b := fun b q => by
        refine upd_ne fun zz => z ?_
        subst zz
        exact S.d i j b q hoa
      cases x with
      | un => trivial
      | fz d => exact S1
      | ow d1 => obtain ⟨b, e1, h1, h2, h3⟩ := S1; exact ⟨b, e1, h1, h2, h3.heap (other b ⟨e1, d1, .inl e⟩)⟩
      | lk d1 => obtain ⟨b, e1, h1, h2, h3⟩ := S1; exact ⟨b, e1, h1, h2, h3.heap (other b ⟨e1, d1, .inr e⟩)⟩
  · obtain ⟨h1, x, h2⟩ := S.i p hp
    refine ⟨h1, ?_⟩
    by_cases z : p.1 = j
    · rw [z, List.getElem?_set_self hlt]
      exact ⟨d', .inl rfl⟩
    · rw [List.getElem?_set_ne (Ne.symm z)]
      exact ⟨x, h2⟩
/-- an own object frozen where it stands -/
theorem SR.cap {j : Nat} {d : D} (S : SR K io Fr G σ H r) (hj : ∀ p ∈ io, p.1 ≠ j) (hr : r[j]? = some (.ow d)) : ∃ a o, σ[j]? = some (some (.ref a)) ∧ G a = none ∧ H a = some o ∧ SR K io Fr (upd G a o) σ H (r.set j (.fz d)) ∧ RV K (upd G a o) d (.ref a) := by
  obtain ⟨a, e1, h1, h2, h3⟩ := S.s j _ hr
  obtain ⟨o, ho⟩ := h3.there
  have gg : Same G (upd G a o) := same_upd h1
  have rv : RV K (upd G a o) d (.ref a) := h3.rv ho gg upd_same
  have hoa : ownAt σ r j a := ⟨e1, d, .inl hr⟩
  have hlt : j < r.length := (List.getElem?_eq_some_iff.mp hr).1
  have own_back : ∀ {i b}, ownAt σ (r.set j (.fz d)) i b → i ≠ j ∧ ownAt σ r i b := fun {i b} q => by
    obtain ⟨q1, x, q2⟩ := q
    by_cases z : i = j
    · subst z
      rw [List.getElem?_set_self hlt] at q2
      rcases q2 with q2 | q2 <;> cases q2
    · rw [List.getElem?_set_ne (Ne.symm z)] at q2
      exact ⟨z, q1, x, q2⟩
  refine ⟨a, o, e1, h1, ho, ⟨by rw [List.length_set, S.len], fun b u e => ?_, fun b u e => ⟨(S.f b u e).1, ?_⟩, fun i x e => ?_, fun i i' b q q' => S.d i i' b (own_back q).2 (own_back q').2, fun p hp => ?_⟩, rv⟩
  · by_cases z : b = a
    · subst z
      rw [upd_same] at e
      cases e
      exact ho
    · rw [upd_ne z] at e
      exact S.g b u e
  · have z : b ≠ a := fun z => by subst z; rw [h2] at e; cases e
    rw [upd_ne z]
    exact (S.f b u e).2
  · by_cases z : i = j
    · subst z
      rw [List.getElem?_set_self hlt] at e
      cases e
      exact ⟨_, e1, rv⟩
    · rw [List.getElem?_set_ne (Ne.symm z)] at e
      have S1 := S.s i x e
      have other : ∀ b, ownAt σ r i b → b ≠ a := fun b q zz => z (by subst zz; exact S.d i j b q hoa)
      cases x with
      | un => trivial
      | fz d => obtain ⟨v, e2, h4⟩ := S1; exact ⟨v, e2, h4.mono gg⟩
      | ow d1 => obtain ⟨b, e2, k1, k2, k3⟩ := S1; exact ⟨b, e2, by rw [upd_ne (other b ⟨e2, d1, .inl e⟩)]; exact k1, k2, k3.mono gg⟩
      | lk d1 => obtain ⟨b, e2, k1, k2, k3⟩ := S1; exact ⟨b, e2, by rw [upd_ne (other b ⟨e2, d1, .inr e⟩)]; exact k1, k2, k3.mono gg⟩
  · obtain ⟨q1, x, q2⟩ := S.i p hp
    rw [List.getElem?_set_ne (Ne.symm (hj p hp))]
    exact ⟨q1, x, q2⟩
end
end VL

/-! VL2D: the dicts of the layer in the heap. -/
namespace VL
open PySem PySem.Spec L2
/-! ### keys -/
mutual
theorem hk_dep : ∀ {n : Nat} {d : D}, d.hk n = true → d.key.depth ≤ n
  | _, .non, _ => Nat.zero_le _
  | _, .bl _, _ => Nat.zero_le _
  | _, .int _, _ => Nat.zero_le _
  | _, .str _, _ => Nat.zero_le _
  | 0, .tup _, h => by simp [D.hk] at h
  | n + 1, .tup xs, h => by
    have h : D.hk.hks n xs = true := by simpa [D.hk] using h
    have := hks_dep h
    show NestedKey.depthAll (D.key.keys xs) + 1 ≤ n + 1
    omega
  | 0, .lst _, h => by simp [D.hk] at h
  | n + 1, .lst _, h => by simp [D.hk] at h
  | 0, .dct _, h => by simp [D.hk] at h
  | n + 1, .dct _, h => by simp [D.hk] at h
theorem hks_dep : ∀ {n : Nat} {ds : List D}, D.hk.hks n ds = true → NestedKey.depthAll (D.key.keys ds) ≤ n
  | _, [], _ => Nat.zero_le _
  | n, d :: ds, h => by
    have h : (D.hk n d && D.hk.hks n ds) = true := h
    simp only [Bool.and_eq_true] at h
    show max _ _ ≤ n
    exact Nat.max_le.mpr ⟨hk_dep h.1, hks_dep h.2⟩
end
theorem NestedKey_tup {xs ys : List NestedKey} : NestedKey.beq (.tup xs) (.tup ys) = NestedKey.beqAll xs ys := by rw [NestedKey.beq]
mutual
theorem eq_beq : ∀ {n m : Nat} {a b : D}, a.hk n = true → b.hk m = true → D.eq a b = NestedKey.beq a.key b.key
  | n, m, a, b, h, k => by
    cases a with
    | lst _ => cases n <;> simp [D.hk] at h
    | dct _ => cases n <;> simp [D.hk] at h
    | tup xs =>
      cases n with
      | zero => simp [D.hk] at h
      | succ n =>
        cases b with
        | tup ys =>
          cases m with
          | zero => simp [D.hk] at k
          | succ m =>
            show D.eq.eqs xs ys = NestedKey.beq (.tup _) (.tup _)
            rw [NestedKey_tup]
            exact eqs_beq (by simpa [D.hk] using h) (by simpa [D.hk] using k)
        | lst _ => cases m <;> simp [D.hk] at k
        | dct _ => cases m <;> simp [D.hk] at k
        | non => simp [D.eq, D.key, NestedKey.beq]
        | bl b => simp [D.eq, D.key, NestedKey.beq]
        | int b => simp [D.eq, D.key, NestedKey.beq]
        | str b => simp [D.eq, D.key, NestedKey.beq]
    | non =>
      cases b with
      | lst _ => cases m <;> simp [D.hk] at k
      | dct _ => cases m <;> simp [D.hk] at k
      | _ => simp [D.eq, D.key, NestedKey.beq]
    | bl x =>
      cases b with
      | lst _ => cases m <;> simp [D.hk] at k
      | dct _ => cases m <;> simp [D.hk] at k
      | bl y => cases x <;> cases y <;> simp [D.eq, D.key, NestedKey.beq, b2i]
      | int y => simp [D.eq, D.key, NestedKey.beq]; rfl
      | _ => simp [D.eq, D.key, NestedKey.beq]
    | int x =>
      cases b with
      | lst _ => cases m <;> simp [D.hk] at k
      | dct _ => cases m <;> simp [D.hk] at k
      | bl y => simp [D.eq, D.key, NestedKey.beq]; rfl
      | int y => simp [D.eq, D.key, NestedKey.beq]; rfl
      | _ => simp [D.eq, D.key, NestedKey.beq]
    | str x =>
      cases b with
      | lst _ => cases m <;> simp [D.hk] at k
      | dct _ => cases m <;> simp [D.hk] at k
      | str y => simp [D.eq, D.key, NestedKey.beq]; rfl
      | _ => simp [D.eq, D.key, NestedKey.beq]
theorem eqs_beq : ∀ {n m : Nat} {xs ys : List D}, D.hk.hks n xs = true → D.hk.hks m ys = true → D.eq.eqs xs ys = NestedKey.beqAll (D.key.keys xs) (D.key.keys ys)
  | _, _, [], [], _, _ => by simp [D.eq.eqs, D.key.keys, NestedKey.beqAll]
  | _, _, [], _ :: _, _, _ => by simp [D.eq.eqs, D.key.keys, NestedKey.beqAll]
  | _, _, _ :: _, [], _, _ => by simp [D.eq.eqs, D.key.keys, NestedKey.beqAll]
  | n, m, x :: xs, y :: ys, h, k => by
    have h : (D.hk n x && D.hk.hks n xs) = true := h
    have k : (D.hk m y && D.hk.hks m ys) = true := k
    simp only [Bool.and_eq_true] at h k
    show (D.eq x y && D.eq.eqs xs ys) = NestedKey.beqAll (_ :: _) (_ :: _)
    rw [NestedKey.beqAll, eq_beq h.1 k.1, eqs_beq h.2 k.2]
end
theorem eq_key {n m : Nat} {a b : D} (h : a.hk n = true) (k : b.hk m = true) : D.eq a b = decide (a.key = b.key) := by
  rw [eq_beq h k, NestedKey.decide_eq]

section
variable {X : Cx} {pins : List (Addr × Obj)} {σ : L2.St} {H : Hp} {s : Shared}
mutual
theorem RV.nested (I : Inv X pins σ H s) : ∀ {n : Nat} {d : D} {v : V} {u : Value}, RV (kw X) H d v → RelV v u → d.hk n = true → NestedIs s.heap d.key u
  | _, .non, _, _, h, r, _ => by
    cases (show _ = V.non from h)
    cases r
    exact .none
  | _, .bl b, _, _, h, r, _ => by
    cases (show _ = V.bl b from h)
    cases r
    exact .bool (by cases b <;> rfl)
  | _, .int i, _, _, h, r, _ => by
    cases (show _ = V.int i from h)
    obtain ⟨t, rfl⟩ := r
    exact .int i t
  | _, .str x, _, _, h, r, _ => by
    cases (show _ = V.str x from h)
    obtain ⟨t, rfl⟩ := r
    exact .text x t
  | 0, .tup _, _, _, _, _, k => by simp [D.hk] at k
  | n + 1, .tup ds, _, _, ⟨a, vs, z, h1, h2⟩, r, k => by
    subst z
    cases r
    obtain ⟨its, rv, ⟨o, ho, hc, m, hd⟩, _⟩ := I.tuple (show SqT X.K H a vs from h1)
    exact .tup ho hc hd (by simpa using RVs.nested I h2 rv (show D.hk.hks n ds = true by simpa [D.hk] using k))
  | 0, .lst _, _, _, _, _, k => by simp [D.hk] at k
  | _ + 1, .lst _, _, _, _, _, k => by simp [D.hk] at k
  | 0, .dct _, _, _, _, _, k => by simp [D.hk] at k
  | _ + 1, .dct _, _, _, _, _, k => by simp [D.hk] at k
theorem RVs.nested (I : Inv X pins σ H s) : ∀ {n : Nat} {ds : List D} {vs : List V} {us : List Value}, RVs (kw X) H ds vs → Vals vs us → D.hk.hks n ds = true → NestedAll s.heap (D.key.keys ds) us
  | _, [], _, _, h, r, _ => by
    cases (show _ = [] from h)
    cases r
    exact .nil
  | n, d :: ds, _, _, ⟨v, vr, z, h1, h2⟩, r, k => by
    subst z
    have k : (D.hk n d && D.hk.hks n ds) = true := k
    simp only [Bool.and_eq_true] at k
    cases r with
    | cons r1 r2 => exact .cons (RV.nested I h1 r1 k.1) (RVs.nested I h2 r2 k.2)
end
theorem RV.keyOk (I : Inv X pins σ H s) {d : D} {v : V} {u : Value} (h : RV (kw X) H d v) (r : RelV v u) (k : d.hk 8 = true) : KeyOk s.heap d.key u := ⟨RV.nested I h r k, hk_dep k⟩
end

/-! ### entries -/
/-- an entry as data, as it lies -/
def RowR (K : KW) (G : Hp) (p : D × D) (x : KRow) : Prop := x.1 = p.1.key ∧ p.1.hk 8 = true ∧ (∃ v, RV K G p.1 v ∧ RelV v x.2.1) ∧ ∃ v, RV K G p.2 v ∧ RelV v x.2.2
abbrev RowsR (K : KW) (G : Hp) : List (D × D) → List KRow → Prop := Paired (RowR K G)
section
variable {K : KW} {G G' : Hp}
theorem rows_of : ∀ {kvs : List (D × D)} {es : List ERow} {ds : List DictEntry}, REs K G kvs es → Paired EntR es ds → ∃ xs : List KRow, ds = xs.map (entK K.w) ∧ RowsR K G kvs xs
  | [], _, _, h, p => by
    cases (show _ = [] from h)
    cases p
    exact ⟨[], rfl, .nil⟩
  | (k, d) :: kvs, _, _, ⟨x, y, r, e, h0, h1, h2, h3⟩, p => by
    subst e
    cases p with
    | @cons _ b _ l q1 q2 =>
      obtain ⟨xs, e, hr⟩ := rows_of h3 q2
      obtain ⟨hs, ky, vl⟩ := b
      obtain ⟨z1, z2, z3⟩ := q1
      have z1 : hs = k.key.hash K.w := z1
      exact ⟨(k.key, ky, vl) :: xs, by rw [e, z1]; rfl, .cons ⟨rfl, h0, ⟨x, h1, z2⟩, ⟨y, h2, z3⟩⟩ hr⟩
theorem rows_back : ∀ {kvs : List (D × D)} {xs : List KRow}, RowsR K G kvs xs → ∃ es : List ERow, REs K G kvs es ∧ Paired EntR es (xs.map (entK K.w))
  | _, _, .nil => ⟨[], rfl, .nil⟩
  | _, _, .cons (a := (k, d)) (b := (kk, ky, vl)) ⟨e, h0, ⟨x, h1, z2⟩, ⟨y, h2, z3⟩⟩ t => by
    obtain ⟨es, q1, q2⟩ := rows_back t
    cases (show kk = k.key from e)
    exact ⟨(k.key.hash K.w, x, y) :: es, ⟨x, y, es, rfl, h0, h1, h2, q1⟩, .cons ⟨rfl, z2, z3⟩ q2⟩
theorem rows_keys : ∀ {kvs : List (D × D)} {xs : List KRow}, RowsR K G kvs xs → xs.map (·.1) = kvs.map (·.1.key)
  | _, _, .nil => rfl
  | _, _, .cons ⟨e, _⟩ t => by rw [List.map_cons, List.map_cons, rows_keys t, e]
theorem rows_mono (g : Same G G') {kvs : List (D × D)} {xs : List KRow} (h : RowsR K G kvs xs) : RowsR K G' kvs xs :=
  Paired.mapP h fun _ _ ⟨e, h0, ⟨x, h1, z2⟩, ⟨y, h2, z3⟩⟩ => ⟨e, h0, ⟨x, h1.mono g, z2⟩, ⟨y, h2.mono g, z3⟩⟩
theorem row_get {k : D} (hk : k.hk 8 = true) : ∀ {kvs : List (D × D)} {xs : List KRow}, RowsR K G kvs xs → (∀ d, dget kvs k = some d → ∃ p v, rowAt xs k.key = some p ∧ RV K G d v ∧ RelV v p.2) ∧ (dget kvs k = none → rowAt xs k.key = none)
  | _, _, .nil => ⟨fun _ h => (nomatch h), fun _ => rfl⟩
  | _, _, .cons (a := (k', d')) (b := (kk, ky, vl)) (l₁ := kvs) (l₂ := xs) ⟨e, h0, h1, ⟨y, h2, z3⟩⟩ t => by
    cases (show kk = k'.key from e)
    have e1 := eq_key h0 hk
    by_cases z : k'.key = k.key
    · rw [decide_eq_true z] at e1
      have a1 : dget ((k', d') :: kvs) k = some d' := by simp [dget, List.find?_cons, e1]
      have a2 : rowAt ((k'.key, ky, vl) :: xs) k.key = some (ky, vl) := by simp [rowAt, List.find?_cons, z]
      rw [a1, a2]
      exact ⟨fun d q => by cases q; exact ⟨_, y, rfl, h2, z3⟩, fun q => nomatch q⟩
    · rw [decide_eq_false z] at e1
      have a1 : dget ((k', d') :: kvs) k = dget kvs k := by simp [dget, List.find?_cons, e1]
      have a2 : rowAt ((k'.key, ky, vl) :: xs) k.key = rowAt xs k.key := by simp [rowAt, List.find?_cons, z]
      rw [a1, a2]
      exact row_get hk t
theorem dhas_get (kvs : List (D × D)) (k : D) : dhas kvs k = (dget kvs k).isSome := by
  unfold dhas dget
  rw [Option.isSome_map]
  induction kvs with
  | nil => rfl
  | cons p kvs ih =>
    rw [List.any_cons, List.find?_cons]
    cases e : D.eq p.1 k with
    | true => rfl
    | false => simpa using ih
theorem row_has {k : D} (hk : k.hk 8 = true) {kvs : List (D × D)} {xs : List KRow} (h : RowsR K G kvs xs) : (rowAt xs k.key).isSome = dhas kvs k := by
  rw [dhas_get]
  obtain ⟨h1, h2⟩ := row_get hk h
  cases e : dget kvs k with
  | none => rw [h2 e]; rfl
  | some d => obtain ⟨p, v, e2, _⟩ := h1 d e; rw [e2]; rfl
theorem row_map {k v : D} {u : Value} {y : V} (hk : k.hk 8 = true) (hv : RV K G v y) (rv : RelV y u) : ∀ {kvs : List (D × D)} {xs : List KRow}, RowsR K G kvs xs → RowsR K G (kvs.map fun p => if D.eq p.1 k then (p.1, v) else p) (xs.map (rowPut k.key u))
  | _, _, .nil => .nil
  | _, _, .cons (a := (k', d')) (b := (kk, ky, vl)) ⟨e, h0, h1, h2⟩ t => by
    cases (show kk = k'.key from e)
    have e1 := eq_key h0 hk
    rw [List.map_cons, List.map_cons]
    refine .cons ?_ (row_map hk hv rv t)
    unfold rowPut
    by_cases z : k'.key = k.key
    · rw [decide_eq_true z] at e1
      rw [if_pos e1, if_pos z]
      exact ⟨rfl, h0, h1, ⟨y, hv, rv⟩⟩
    · rw [decide_eq_false z] at e1
      rw [if_neg (by simpa using e1), if_neg z]
      exact ⟨rfl, h0, h1, h2⟩
theorem row_put {k v : D} {ku u : Value} {x y : V} (hk : k.hk 8 = true) (hx : RV K G k x) (rx : RelV x ku) (hv : RV K G v y) (rv : RelV y u) {kvs : List (D × D)} {xs : List KRow} (h : RowsR K G kvs xs) : RowsR K G (dput kvs k v) (rowsSet xs k.key ku u) := by
  unfold dput rowsSet
  rw [row_has hk h]
  by_cases z : dhas kvs k = true
  · rw [if_pos z, if_pos z]
    exact row_map hk hv rv h
  · rw [if_neg z, if_neg z]
    exact Paired.snoc h ⟨rfl, hk, ⟨x, hx, rx⟩, ⟨y, hv, rv⟩⟩
theorem dput_len (kvs : List (D × D)) (k v : D) : (dput kvs k v).length ≤ kvs.length + 1 := by
  unfold dput
  split
  · rw [List.length_map]; omega
  · rw [List.length_append, List.length_cons, List.length_nil]; omega
end

/-! ### the object -/
theorem dctAt_ext {P : Program} {w : World} {H : Hp} {h : Heap} {a : Addr} {ep : Nat} {es : List ERow} (x : DctAt a ep es h) : ObjOk P w H h a (DctO a ep es) :=
  ⟨x, let ⟨_, _, o, _, ho, _⟩ := x; ⟨o, ho⟩, fun h1 h2 ⟨z, m, o, ds, ho, q⟩ k => ⟨z, m, o, ds, k o ho, q⟩⟩
section
variable {X : Cx} {pins : List (Addr × Obj)} {σ : L2.St} {H : Hp} {s : Shared} {a : Addr} {ep : Nat} {es : List ERow}
theorem Inv.dctAt (I : Inv X pins σ H s) (h : H a = some (DctO a ep es)) : DctAt a ep es s.heap := (show ObjOk X.prog X.w H s.heap a (.ext (DctAt a ep es)) from I.hok a _ h).1
/-- a dict of the layer as the rules see it -/
theorem Inv.dctN {G : Hp} {kvs : List (D × D)} (I : Inv X pins σ H s) (h : H a = some (DctO a ep es)) (hn : (kvs.map (·.1.key)).Nodup) (gg : Same G H) (hr : REs (kw X) G kvs es) :
    ∃ xs : List KRow, DictN X.w s.heap a xs ∧ RowsR (kw X) G kvs xs ∧ xs.length ≤ sizeLine ∧ (a == sysModules) = false := by
  obtain ⟨z, m, o, ds, ho, hc, hd, hp⟩ := Inv.dctAt I h
  obtain ⟨xs, e, rr⟩ := rows_of hr hp
  have hl : xs.length = es.length := by
    have := hp.length
    rw [e, List.length_map] at this
    exact this.symm
  refine ⟨xs, ⟨o, ds, ep, ho, hc, hd, e, fun x hx => ?_, by rw [rows_keys rr]; exact hn⟩, rr, by rw [hl]; exact z, m⟩
  have all : ∀ {kvs : List (D × D)} {xs : List KRow}, RowsR (kw X) G kvs xs → ∀ x ∈ xs, KeyOk s.heap x.1 x.2.1 := by
    intro kvs xs q
    induction q with
    | nil => intro x hx; exact nomatch hx
    | @cons p y ps ys hq t ih =>
      intro x hx
      rcases List.mem_cons.mp hx with e | hx
      · subst e
        obtain ⟨e, h0, ⟨v, h1, z2⟩, _⟩ := hq
        rw [e]
        exact RV.keyOk I (h1.mono gg) z2 h0
      · exact ih x hx
  exact all rr x hx
theorem dctN_at {w : World} {h' : Heap} {K : KW} {G : Hp} {kvs : List (D × D)} {xs : List KRow} (hw : K.w = w) (hm : DictN w h' a xs) (rr : RowsR K G kvs xs) (z : xs.length ≤ sizeLine) (m : (a == sysModules) = false) : ∃ ep es, DctAt a ep es h' ∧ REs K G kvs es ∧ (kvs.map (·.1.key)).Nodup := by
  obtain ⟨o, ds, ep, ho, hc, hd, e, _, hn⟩ := hm
  obtain ⟨es, q1, q2⟩ := rows_back rr
  subst hw
  refine ⟨ep, es, ⟨?_, m, o, ds, ho, hc, hd, by rw [e]; exact q2⟩, q1, by rw [← rows_keys rr]; exact hn⟩
  have := q2.length
  rw [List.length_map] at this
  rw [this]
  exact z
theorem DctAt.new (h : Heap) (hb : sysModules < h.objs.size) : DctAt h.objs.size 0 [] (h.push { cls := .type "dict", data := .dict #[] }) :=
  ⟨Nat.zero_le _, beq_eq_false_iff_ne.mpr (Ne.symm (Nat.ne_of_lt hb)), _, #[], Heap.get?_push_size _ rfl, ⟨rfl, rfl, rfl⟩, rfl, .nil⟩
/-- one object, one description -/
theorem dctO_inj (I : Inv X pins σ H s) {ep' : Nat} {es' : List ERow} (h : H a = some (DctO a ep es)) (k : H a = some (DctO a ep' es')) : es = es' := by
  obtain ⟨_, _, o, ds, ho, _, hd, hp⟩ := Inv.dctAt I h
  obtain ⟨_, _, o', ds', ho', _, hd', hp'⟩ := Inv.dctAt I k
  rw [ho] at ho'
  cases ho'
  rw [hd] at hd'
  cases hd'
  have all : ∀ {es es' : List ERow} {l : List DictEntry}, Paired EntR es l → Paired EntR es' l → es = es' := by
    intro es es' l p
    induction p generalizing es' with
    | nil => intro q; cases q; rfl
    | @cons a b as bs q1 t ih =>
      intro q
      cases q with
      | @cons a' _ as' _ q2 t' =>
        rw [ih t']
        obtain ⟨x1, x2, x3⟩ := a
        obtain ⟨y1, y2, y3⟩ := a'
        obtain ⟨e1, e2, e3⟩ := q1
        obtain ⟨f1, f2, f3⟩ := q2
        simp only at e1 e2 e3 f1 f2 f3
        rw [← e1, ← f1, RelV.inj e2 f2, RelV.inj e3 f3]
  exact all hp hp'
end
/-- {} -/
def tDNew : TE := fun _ H Q => ∀ p, H p = none → Q (.ref p) (upd H p (DctO p 0 []))
theorem pe_dnew {X : Cx} {pos : Pos} : PE X (.Dict [] [] pos) tDNew := ⟨fun pins s σ H Q I h =>
  wpAny_Dict_empty ⟨.ref s.heap.objs.size, _, I.laid (a := s.heap.objs.size) (o := DctO s.heap.objs.size 0 []) (t' := s.toks) (fun _ _ q => Heap.get?_push_of_some _ q) (Nat.le_refl _) (dctAt_ext (DctAt.new s.heap I.big)), rfl, h _ (I.hok.fresh (Nat.le_refl _))⟩⟩
end VL

/-! VLQ: a dict beside other data: == says no. -/
namespace VL
open PySem PySem.Spec L2 PySem.SeqAt
open AutoSeq1 (wpAny_loadPart')
open MeetsSeq
section
variable (a l : Addr) (dd d2 : Option Addr) (es : Array DictEntry) (ep : Nat) (sl s2 : Array (Option Value)) (its : Array Value) (n : Nat)
abbrev oDc (dd : Option Addr) (es : Array DictEntry) (ep : Nat) (sl : Array (Option Value)) : Obj := { cls := .type "dict", dict := dd, data := .dict es ep, slots := sl }
theorem qd_bool (b : Bool) : Meets (Builtin.«int.__eq__» ⟨[.bool b, .ref a], []⟩) (fun _ R s => s.heap.get? a = some (oDc dd es ep sl) ∧ R (.ok (.ret .notImplemented)) s) :=
  .of_wp fun p0 w0 A0 R0 s0 q0 => by obtain ⟨h0, g0, d0, t0, o0⟩ := s0; obtain ⟨ha, q0⟩ := q0; wp_walk using wpAny_loadPart' ha, wpAny_load ha; exact ⟨_, rfl, q0⟩
theorem qd_int (b : Int) (u : Tok) : Meets (Builtin.«int.__eq__» ⟨[.int b u, .ref a], []⟩) (fun _ R s => s.heap.get? a = some (oDc dd es ep sl) ∧ R (.ok (.ret .notImplemented)) s) :=
  .of_wp fun p0 w0 A0 R0 s0 q0 => by obtain ⟨h0, g0, d0, t0, o0⟩ := s0; obtain ⟨ha, q0⟩ := q0; wp_walk using wpAny_loadPart' ha, wpAny_load ha; exact ⟨_, rfl, q0⟩
theorem qd_str (b : Str) (u : Tok) : Meets (Builtin.«str.__eq__» ⟨[.str b u, .ref a], []⟩) (fun _ R s => s.heap.get? a = some (oDc dd es ep sl) ∧ R (.ok (.ret .notImplemented)) s) :=
  .of_wp fun p0 w0 A0 R0 s0 q0 => by obtain ⟨h0, g0, d0, t0, o0⟩ := s0; obtain ⟨ha, q0⟩ := q0; wp_walk using wpAny_loadPart' ha, wpAny_load ha; exact ⟨_, rfl, q0⟩
theorem qd_list : Meets (Builtin.«list.__eq__» ⟨[.ref l, .ref a], []⟩) (fun _ R s => s.heap.get? l = some { cls := .type "list", dict := d2, data := .seq its n, slots := s2 } ∧ s.heap.get? a = some (oDc dd es ep sl) ∧ R (.ok (.ret .notImplemented)) s) :=
  .of_wp fun p0 w0 A0 R0 s0 q0 => by obtain ⟨h0, g0, d0, t0, o0⟩ := s0; obtain ⟨hl, ha, q0⟩ := q0; have f1 := F.sub_dict_list; wp_walk using wpAny_loadPart' hl, wpAny_loadPart' ha; exact ⟨_, rfl, q0⟩
theorem qd_tuple : Meets (Builtin.«tuple.__eq__» ⟨[.ref l, .ref a], []⟩) (fun _ R s => s.heap.get? l = some { cls := .type "tuple", dict := d2, data := .seq its n, slots := s2 } ∧ s.heap.get? a = some (oDc dd es ep sl) ∧ R (.ok (.ret .notImplemented)) s) :=
  .of_wp fun p0 w0 A0 R0 s0 q0 => by obtain ⟨h0, g0, d0, t0, o0⟩ := s0; obtain ⟨hl, ha, q0⟩ := q0; have f1 := F.sub_dict_tuple; wp_walk using wpAny_loadPart' hl, wpAny_loadPart' ha; exact ⟨_, rfl, q0⟩
end
section
variable {prog : Program} {w : World} {A : Around} {E : Value → Shared → Prop} {s : Shared} {a : Addr}
/-- dict.__eq__ with what is no dict -/
theorem qd_dict {y : Value} {Ty : String} {o : Obj} {Q : Value → Shared → Prop} (ho : s.heap.get? a = some o) (hc : o.cls = .type "dict") (hy : s.TypeIs y Ty) (hs : isSubtype (.type Ty) (.type "dict") = pure false) (hQ : Q .notImplemented s) :
    wpAny (model prog w) A (call (.builtin "dict.__eq__") [.ref a, y]) Q E s := by
  have hT : s.TypeIs (.ref a) "dict" := ⟨o, ho, hc⟩
  refine wpAny_call_entry PySem.F.slot_dict_eq hT PySem.F.entry_dict_eq ?_ (PySem.F.args_dict_eq_2 _ _)
  show wpAny _ _ (Builtin.Dict.dictSlotArgs "__eq__" ⟨[.ref a, y], []⟩ >>= _) _ _ s
  refine wpAny_bind ?_
  unfold Builtin.Dict.dictSlotArgs
  refine wpAny_bind (wpAny_notOrdered_dict hT ?_)
  show wpAny _ _ (pure (Value.ref a, y)) _ _ s
  refine wpAny_pure ?_
  refine wpAny_bind (wpAny_isInstance (U := "dict") (b := false) hy hs ?_)
  simp only [Bool.not_false, if_true]
  exact wpAny_bind (wpAny_rule (wpAny_pure ⟨_, rfl, hQ⟩))
/-- an empty dict at a -/
def IsDc (s : Shared) (a : Addr) : Prop := ∃ dd es ep sl, s.heap.get? a = some (oDc dd es ep sl)
theorem IsDc.ty (h : IsDc s a) : s.TypeIs (.ref a) "dict" := by
  obtain ⟨dd, es, ep, sl, h⟩ := h
  exact ⟨_, h, rfl⟩
theorem IsDc.no {y : Value} {Ty : String} {Q : Value → Shared → Prop} (h : IsDc s a) (hy : s.TypeIs y Ty) (hs : isSubtype (.type Ty) (.type "dict") = pure false) (hQ : Q .notImplemented s) :
    wpAny (model prog w) A (call (.builtin "dict.__eq__") [.ref a, y]) Q E s := by
  obtain ⟨dd, es, ep, sl, h⟩ := h
  exact qd_dict h rfl hy hs hQ
theorem eqBr {x : Value} (hn : (x == .ref a) = false) (h : RcAt A s x (.ref a) false) : EqAt A s x (.ref a) false := fun prog w E Q hq => by
  unfold eqBool
  refine wpAny_holding (wpAny_ite_split (fun e => absurd (hn.symm.trans e) (fun z => nomatch z)) fun _ => ?_)
  cases x <;> exact wpAny_bind (h prog w E _ (wpAny_truthy_bool hq))
theorem eqBl {x : Value} (hn : (Value.ref a == x) = false) (h : RcAt A s (.ref a) x false) : EqAt A s (.ref a) x false := fun prog w E Q hq => by
  unfold eqBool
  refine wpAny_holding (wpAny_ite_split (fun e => absurd (hn.symm.trans e) (fun z => nomatch z)) fun _ => ?_)
  cases x <;> exact wpAny_bind (h prog w E _ (wpAny_truthy_bool hq))
theorem ne_dc_list {l : Addr} {its : Array Value} (h : IsDc s a) (hl : s.heap.IsList l its) : a ≠ l := fun e => by
  subst e
  obtain ⟨dd, es, ep, sl, h⟩ := h
  obtain ⟨o, ho, hc, _⟩ := hl
  rw [h] at ho
  cases ho
  have hc := Value.type.inj hc
  exact absurd hc (by decide)
theorem ne_dc_tuple {l : Addr} {its : Array Value} (h : IsDc s a) (hl : s.heap.IsTuple l its) : a ≠ l := fun e => by
  subst e
  obtain ⟨dd, es, ep, sl, h⟩ := h
  obtain ⟨o, ho, hc, _⟩ := hl
  rw [h] at ho
  cases ho
  have hc := Value.type.inj hc
  exact absurd hc (by decide)
variable (h : IsDc s a) (hu : A.units < cLine)
include h hu
theorem rc_none_dc : RcAt A s .none (.ref a) false := fun p w E Q q => by
  exact rc_eq_decline_or (k := false) rfl h.ty (by decide) F.sub_dict_NoneType F.slot_NoneType_eq F.slot_dict_eq_refl
    (fun _ z => call_gives F.slot_NoneType_eq rfl F.entry_NoneType_eq (F.args_NoneType_eq_2 _ _) (NoneType___eq___none_ref_0 a) z)
    (fun _ z => h.no rfl F.sub_NoneType_dict z) (fun _ z => wpAny_of_eq (rfl : isSame .none (.ref a) = pure false) z) (.inr hu) q
theorem rc_dc_none : RcAt A s (.ref a) .none false := fun p w E Q q => by
  exact rc_eq_decline_or (k := false) h.ty rfl (by decide) F.sub_NoneType_dict F.slot_dict_eq F.slot_NoneType_eq_refl
    (fun _ z => h.no rfl F.sub_NoneType_dict z) (fun _ z => call_gives F.slot_NoneType_eq rfl F.entry_NoneType_eq (F.args_NoneType_eq_2 _ _) (NoneType___eq___none_ref_0 a) z)
    (fun _ z => wpAny_of_eq (rfl : isSame (.ref a) .none = pure false) z) (.inr hu) q
theorem rc_bool_dc (b : Bool) : RcAt A s (.bool b) (.ref a) false := fun p w E Q q => by
  obtain ⟨dd, es, ep, sl, hq⟩ := id h
  exact rc_eq_decline_or (k := false) rfl h.ty (by decide) F.sub_dict_bool F.slot_bool_eq F.slot_dict_eq_refl
    (fun _ z => call_meets F.slot_bool_eq rfl F.entry_int_eq (F.args_int_eq_2 _ _) (qd_bool a dd es ep sl b) ⟨hq, z⟩)
    (fun _ z => h.no rfl F.sub_bool_dict z) (fun _ z => wpAny_of_eq (rfl : isSame (.bool b) (.ref a) = pure false) z) (.inr hu) q
theorem rc_dc_bool (b : Bool) : RcAt A s (.ref a) (.bool b) false := fun p w E Q q => by
  obtain ⟨dd, es, ep, sl, hq⟩ := id h
  exact rc_eq_decline_or (k := false) h.ty rfl (by decide) F.sub_bool_dict F.slot_dict_eq F.slot_bool_eq_refl
    (fun _ z => h.no rfl F.sub_bool_dict z) (fun _ z => call_meets F.slot_bool_eq rfl F.entry_int_eq (F.args_int_eq_2 _ _) (qd_bool a dd es ep sl b) ⟨hq, z⟩)
    (fun _ z => wpAny_of_eq (rfl : isSame (.ref a) (.bool b) = pure false) z) (.inr hu) q
theorem rc_int_dc (b : Int) (u : Tok) : RcAt A s (.int b u) (.ref a) false := fun p w E Q q => by
  obtain ⟨dd, es, ep, sl, hq⟩ := id h
  exact rc_eq_decline_or (k := false) (typeIs_int s b u) h.ty (by decide) F.sub_dict_int F.slot_int_eq F.slot_dict_eq_refl
    (fun _ z => call_meets F.slot_int_eq (typeIs_int s b u) F.entry_int_eq (F.args_int_eq_2 _ _) (qd_int a dd es ep sl b u) ⟨hq, z⟩)
    (fun _ z => h.no (typeIs_int s b u) F.sub_int_dict z) (fun _ z => wpAny_of_eq (rfl : isSame (.int b u) (.ref a) = pure false) z) (.inr hu) q
theorem rc_dc_int (b : Int) (u : Tok) : RcAt A s (.ref a) (.int b u) false := fun p w E Q q => by
  obtain ⟨dd, es, ep, sl, hq⟩ := id h
  exact rc_eq_decline_or (k := false) h.ty (typeIs_int s b u) (by decide) F.sub_int_dict F.slot_dict_eq F.slot_int_eq_refl
    (fun _ z => h.no (typeIs_int s b u) F.sub_int_dict z) (fun _ z => call_meets F.slot_int_eq (typeIs_int s b u) F.entry_int_eq (F.args_int_eq_2 _ _) (qd_int a dd es ep sl b u) ⟨hq, z⟩)
    (fun _ z => wpAny_of_eq (rfl : isSame (.ref a) (.int b u) = pure false) z) (.inr hu) q
theorem rc_str_dc (b : Str) (u : Tok) : RcAt A s (.str b u) (.ref a) false := fun p w E Q q => by
  obtain ⟨dd, es, ep, sl, hq⟩ := id h
  exact rc_eq_decline_or (k := false) (typeIs_str s b u) h.ty (by decide) F.sub_dict_str F.slot_str_eq F.slot_dict_eq_refl
    (fun _ z => call_meets F.slot_str_eq (typeIs_str s b u) F.entry_str_eq (F.args_str_eq_2 _ _) (qd_str a dd es ep sl b u) ⟨hq, z⟩)
    (fun _ z => h.no (typeIs_str s b u) F.sub_str_dict z) (fun _ z => wpAny_of_eq (rfl : isSame (.str b u) (.ref a) = pure false) z) (.inr hu) q
theorem rc_dc_str (b : Str) (u : Tok) : RcAt A s (.ref a) (.str b u) false := fun p w E Q q => by
  obtain ⟨dd, es, ep, sl, hq⟩ := id h
  exact rc_eq_decline_or (k := false) h.ty (typeIs_str s b u) (by decide) F.sub_str_dict F.slot_dict_eq F.slot_str_eq_refl
    (fun _ z => h.no (typeIs_str s b u) F.sub_str_dict z) (fun _ z => call_meets F.slot_str_eq (typeIs_str s b u) F.entry_str_eq (F.args_str_eq_2 _ _) (qd_str a dd es ep sl b u) ⟨hq, z⟩)
    (fun _ z => wpAny_of_eq (rfl : isSame (.ref a) (.str b u) = pure false) z) (.inr hu) q
variable {l : Addr} {its : Array Value}
theorem rc_list_dc (hl : s.heap.IsList l its) : RcAt A s (.ref l) (.ref a) false := fun p w E Q q => by
  obtain ⟨dd, es, ep, sl, hq⟩ := id h
  have hn : l ≠ a := (ne_dc_list h hl).symm
  obtain ⟨⟨cx, dx, dt, sx⟩, hx, hc, m, hd⟩ := hl
  have hc' : cx = .type "list" := hc
  have hd' : dt = .seq its m := hd
  subst hc' hd'
  exact rc_eq_decline_or (k := false) ⟨_, hx, rfl⟩ h.ty (by decide) F.sub_dict_list F.slot_list_eq F.slot_dict_eq_refl
    (fun _ z => call_meets F.slot_list_eq ⟨_, hx, rfl⟩ F.entry_list_eq (F.args_list_eq_2 _ _) (qd_list a l dd dx es ep sl sx its m) ⟨hx, hq, z⟩)
    (fun _ z => h.no ⟨_, hx, rfl⟩ F.sub_list_dict z) (fun _ z => wpAny_isSame_ref_other hn hx hq (by simp) z) (.inr hu) q
theorem rc_dc_list (hl : s.heap.IsList l its) : RcAt A s (.ref a) (.ref l) false := fun p w E Q q => by
  obtain ⟨dd, es, ep, sl, hq⟩ := id h
  have hn : a ≠ l := ne_dc_list h hl
  obtain ⟨⟨cx, dx, dt, sx⟩, hx, hc, m, hd⟩ := hl
  have hc' : cx = .type "list" := hc
  have hd' : dt = .seq its m := hd
  subst hc' hd'
  exact rc_eq_decline_or (k := false) h.ty ⟨_, hx, rfl⟩ (by decide) F.sub_list_dict F.slot_dict_eq F.slot_list_eq_refl
    (fun _ z => h.no ⟨_, hx, rfl⟩ F.sub_list_dict z)
    (fun _ z => call_meets F.slot_list_eq ⟨_, hx, rfl⟩ F.entry_list_eq (F.args_list_eq_2 _ _) (qd_list a l dd dx es ep sl sx its m) ⟨hx, hq, z⟩)
    (fun _ z => wpAny_isSame_ref_other hn hq hx (by simp) z) (.inr hu) q
theorem rc_tuple_dc (hl : s.heap.IsTuple l its) : RcAt A s (.ref l) (.ref a) false := fun p w E Q q => by
  obtain ⟨dd, es, ep, sl, hq⟩ := id h
  have hn : l ≠ a := (ne_dc_tuple h hl).symm
  obtain ⟨⟨cx, dx, dt, sx⟩, hx, hc, m, hd⟩ := hl
  have hc' : cx = .type "tuple" := hc
  have hd' : dt = .seq its m := hd
  subst hc' hd'
  exact rc_eq_decline_or (k := false) ⟨_, hx, rfl⟩ h.ty (by decide) F.sub_dict_tuple F.slot_tuple_eq F.slot_dict_eq_refl
    (fun _ z => call_meets F.slot_tuple_eq ⟨_, hx, rfl⟩ F.entry_tuple_eq (F.args_tuple_eq_2 _ _) (qd_tuple a l dd dx es ep sl sx its m) ⟨hx, hq, z⟩)
    (fun _ z => h.no ⟨_, hx, rfl⟩ F.sub_tuple_dict z) (fun _ z => wpAny_isSame_ref_other' hn hx hq (by simp) z) (.inr hu) q
theorem rc_dc_tuple (hl : s.heap.IsTuple l its) : RcAt A s (.ref a) (.ref l) false := fun p w E Q q => by
  obtain ⟨dd, es, ep, sl, hq⟩ := id h
  have hn : a ≠ l := ne_dc_tuple h hl
  obtain ⟨⟨cx, dx, dt, sx⟩, hx, hc, m, hd⟩ := hl
  have hc' : cx = .type "tuple" := hc
  have hd' : dt = .seq its m := hd
  subst hc' hd'
  exact rc_eq_decline_or (k := false) h.ty ⟨_, hx, rfl⟩ (by decide) F.sub_tuple_dict F.slot_dict_eq F.slot_tuple_eq_refl
    (fun _ z => h.no ⟨_, hx, rfl⟩ F.sub_tuple_dict z)
    (fun _ z => call_meets F.slot_tuple_eq ⟨_, hx, rfl⟩ F.entry_tuple_eq (F.args_tuple_eq_2 _ _) (qd_tuple a l dd dx es ep sl sx its m) ⟨hx, hq, z⟩)
    (fun _ z => wpAny_isSame_ref_other hn hq hx (by simp) z) (.inr hu) q
end
theorem IsDc.of {s : Shared} {a : Addr} {ep : Nat} {es : List ERow} (q : DctAt a ep es s.heap) : IsDc s a := by
  obtain ⟨_, _, ⟨c, d, dt, sl⟩, ds, ho, hx, hd, _⟩ := q
  have hc : c = .type "dict" := hx.1
  have hd' : dt = .dict ds ep := hd
  subst hc hd'
  exact ⟨d, ds, ep, sl, ho⟩
theorem dc_any {P : Program} {w : World} {s : Shared} {a : Addr} {ep : Nat} (h : DctAt a ep [] s.heap) : (a == sysModules) = false ∧ s.heap.DictOf (mixKind P w) a [] := by
  obtain ⟨_, m, o, ds, ho, hx, hd, hp⟩ := h
  have e : ds = #[] := by
    obtain ⟨l⟩ := ds
    cases l with
    | nil => rfl
    | cons x xs => cases hp
  subst e
  exact ⟨m, o, _, ep, ho, hx, hd, by intro x hx; simp at hx, .nil, List.nodup_nil⟩
theorem rc_dcs {X : Cx} {pins : List (Addr × Obj)} {σ : L2.St} {H : Hp} {s : Shared} {a b : Addr} {A : Around} {ep ep' : Nat} (I : L2.Inv X pins σ H s) (h : H a = some (DctO a ep [])) (k : H b = some (DctO b ep' [])) (hu : A.units < cLine) : RcAt A s (.ref a) (.ref b) true := fun p w E Q q => by
  obtain ⟨h1, h2⟩ := dc_any (P := p) (w := w) (Inv.dctAt I h)
  obtain ⟨k1, k2⟩ := dc_any (P := p) (w := w) (Inv.dctAt I k)
  exact PySem.W.keq_eq (knd := mixKind p w) (ka := []) (kb := []) (r := true) h1 k1 h2 k2 hu (fun _ => .nil) q
end VL

/-! VL3: what the operators and built-ins do to data. -/
namespace VL
open PySem PySem.Spec L2 PySem.SeqAt

/-! ### comparisons of data -/
section
variable {X : Cx} {pins : List (Addr × Obj)} {σ : L2.St} {H : Hp} {s : Shared}
mutual
theorem RV.uniq (I : Inv X pins σ H s) : ∀ {d e : D} {v : V}, RV (kw X) H d v → RV (kw X) H e v → D.flat d = true → d = e
  | .non, e, _, h, k, _ => by
    cases (show _ = V.non from h)
    cases e with
    | non => rfl
    | bl b => cases (show V.non = V.bl b from k)
    | int i => cases (show V.non = V.int i from k)
    | str i => cases (show V.non = V.str i from k)
    | tup xs => obtain ⟨a, vs, z, _⟩ := k; cases z
    | lst xs => obtain ⟨a, vs, z, _⟩ := k; cases z
    | dct xs => obtain ⟨a, _, _, z, _⟩ := k; cases z
  | .bl b, e, _, h, k, _ => by
    cases (show _ = V.bl b from h)
    cases e with
    | non => cases (show V.bl b = V.non from k)
    | bl b' => cases (show V.bl b = V.bl b' from k); rfl
    | int i => cases (show V.bl b = V.int i from k)
    | str i => cases (show V.bl b = V.str i from k)
    | tup xs => obtain ⟨a, vs, z, _⟩ := k; cases z
    | lst xs => obtain ⟨a, vs, z, _⟩ := k; cases z
    | dct xs => obtain ⟨a, _, _, z, _⟩ := k; cases z
  | .int b, e, _, h, k, _ => by
    cases (show _ = V.int b from h)
    cases e with
    | non => cases (show V.int b = V.non from k)
    | bl b' => cases (show V.int b = V.bl b' from k)
    | int i => cases (show V.int b = V.int i from k); rfl
    | str i => cases (show V.int b = V.str i from k)
    | tup xs => obtain ⟨a, vs, z, _⟩ := k; cases z
    | lst xs => obtain ⟨a, vs, z, _⟩ := k; cases z
    | dct xs => obtain ⟨a, _, _, z, _⟩ := k; cases z
  | .str b, e, _, h, k, _ => by
    cases (show _ = V.str b from h)
    cases e with
    | non => cases (show V.str b = V.non from k)
    | bl b' => cases (show V.str b = V.bl b' from k)
    | int i => cases (show V.str b = V.int i from k)
    | str i => cases (show V.str b = V.str i from k); rfl
    | tup xs => obtain ⟨a, vs, z, _⟩ := k; cases z
    | lst xs => obtain ⟨a, vs, z, _⟩ := k; cases z
    | dct xs => obtain ⟨a, _, _, z, _⟩ := k; cases z
  | .tup ds, e, _, ⟨a, vs, z, h1, h2⟩, k, f => by
    subst z
    cases e with
    | non => cases (show V.ref a = V.non from k)
    | bl b' => cases (show V.ref a = V.bl b' from k)
    | int i => cases (show V.ref a = V.int i from k)
    | str i => cases (show V.ref a = V.str i from k)
    | tup xs =>
      obtain ⟨b, ws, z, k1, k2⟩ := k
      cases z
      have e := I.tuple_inj h1 k1
      subst e
      rw [RVs.uniq I h2 k2 f]
    | lst xs =>
      obtain ⟨b, ws, z, k1, k2⟩ := k
      cases z
      obtain ⟨_, _, ⟨o, e1, e2, _⟩, _⟩ := I.tuple h1
      obtain ⟨_, _, ⟨o', n', q1, q2, _⟩, _⟩ := I.list k1
      rw [e1] at q1
      cases q1
      rw [e2] at q2
      injection q2 with z
      exact absurd z (by decide)
    | dct xs =>
      obtain ⟨b, _, _, z, k1, _⟩ := k
      cases z
      obtain ⟨_, _, ⟨o, e1, e2, _⟩, _⟩ := I.tuple h1
      obtain ⟨_, _, o', _, q1, q2, _⟩ := Inv.dctAt I k1
      rw [e1] at q1
      cases q1
      have q3 := e2.symm.trans q2.1
      injection q3 with z
      exact absurd z (by decide)
  | .lst ds, e, _, ⟨a, vs, z, h1, h2⟩, k, f => by
    subst z
    cases e with
    | non => cases (show V.ref a = V.non from k)
    | bl b' => cases (show V.ref a = V.bl b' from k)
    | int i => cases (show V.ref a = V.int i from k)
    | str i => cases (show V.ref a = V.str i from k)
    | lst xs =>
      obtain ⟨b, ws, z, k1, k2⟩ := k
      cases z
      have e := I.list_inj h1 k1
      subst e
      rw [RVs.uniq I h2 k2 f]
    | tup xs =>
      obtain ⟨b, ws, z, k1, k2⟩ := k
      cases z
      obtain ⟨_, _, ⟨o, e1, e2, _⟩, _⟩ := I.tuple k1
      obtain ⟨_, _, ⟨o', n', q1, q2, _⟩, _⟩ := I.list h1
      rw [e1] at q1
      cases q1
      rw [e2] at q2
      injection q2 with z
      exact absurd z (by decide)
    | dct xs =>
      obtain ⟨b, _, _, z, k1, _⟩ := k
      cases z
      obtain ⟨_, _, ⟨o, n, e1, e2, _⟩, _⟩ := I.list h1
      obtain ⟨_, _, o', _, q1, q2, _⟩ := Inv.dctAt I k1
      rw [e1] at q1
      cases q1
      have q3 := e2.symm.trans q2.1
      injection q3 with z
      exact absurd z (by decide)
  | .dct ds, e, _, ⟨a, ep, es, z, h1, _, h2⟩, k, f => by
    subst z
    have f : ds.isEmpty = true := f
    cases e with
    | non => cases (show V.ref a = V.non from k)
    | bl b' => cases (show V.ref a = V.bl b' from k)
    | int i => cases (show V.ref a = V.int i from k)
    | str i => cases (show V.ref a = V.str i from k)
    | dct xs =>
      obtain ⟨b, ep', es', z, k1, _, k2⟩ := k
      cases z
      have e := dctO_inj I h1 k1
      subst e
      cases ds with
      | cons _ _ => cases f
      | nil =>
        cases (show es = [] from h2)
        cases xs with
        | nil => rfl
        | cons p r =>
          obtain ⟨_, _, _, z, _⟩ := k2
          cases z
    | tup xs =>
      obtain ⟨b, ws, z, k1, k2⟩ := k
      cases z
      obtain ⟨_, _, ⟨o, e1, e2, _⟩, _⟩ := I.tuple k1
      obtain ⟨_, _, o', _, q1, q2, _⟩ := Inv.dctAt I h1
      rw [e1] at q1
      cases q1
      have q3 := e2.symm.trans q2.1
      injection q3 with z
      exact absurd z (by decide)
    | lst xs =>
      obtain ⟨b, ws, z, k1, k2⟩ := k
      cases z
      obtain ⟨_, _, ⟨o, n, e1, e2, _⟩, _⟩ := I.list k1
      obtain ⟨_, _, o', _, q1, q2, _⟩ := Inv.dctAt I h1
      rw [e1] at q1
      cases q1
      have q3 := e2.symm.trans q2.1
      injection q3 with z
      exact absurd z (by decide)
theorem RVs.uniq (I : Inv X pins σ H s) : ∀ {ds es : List D} {vs : List V}, RVs (kw X) H ds vs → RVs (kw X) H es vs → D.flat.flats ds = true → ds = es
  | [], es, _, h, k, _ => by
    cases (show _ = [] from h)
    cases es with
    | nil => rfl
    | cons e es => obtain ⟨_, _, z, _⟩ := k; cases z
  | d :: ds, es, _, ⟨v, r, z, h1, h2⟩, k, f => by
    subst z
    cases es with
    | nil => cases (show v :: r = [] from k)
    | cons e es =>
      obtain ⟨v', r', z, k1, k2⟩ := k
      cases z
      have f' : (D.flat d && D.flat.flats ds) = true := f
      simp only [Bool.and_eq_true] at f'
      rw [RV.uniq I h1 k1 f'.1, RVs.uniq I h2 k2 f'.2]
end
theorem flat_dc {xs : List (D × D)} (f : D.flat (.dct xs) = true) : xs = [] := by
  have f : xs.isEmpty = true := f
  simpa using f
mutual
theorem D.eq_refl : ∀ d : D, D.flat d = true → D.eq d d = true
  | .non, _ => rfl
  | .bl b, _ => by simp [D.eq]
  | .int i, _ => by simp [D.eq]
  | .str x, _ => by simp [D.eq]
  | .tup xs, f => D.eqs_refl xs f
  | .lst xs, f => D.eqs_refl xs f
  | .dct kvs, f => by
    have f : kvs.isEmpty = true := f
    show (kvs.isEmpty && kvs.isEmpty) = true
    rw [f]
    rfl
theorem D.eqs_refl : ∀ ds : List D, D.flat.flats ds = true → D.eq.eqs ds ds = true
  | [], _ => rfl
  | d :: ds, f => by
    have f' : (D.flat d && D.flat.flats ds) = true := f
    simp only [Bool.and_eq_true] at f'
    simp [D.eq.eqs, D.eq_refl d f'.1, D.eqs_refl ds f'.2]
end
theorem eqs_len : ∀ {xs ys : List D}, xs.length ≠ ys.length → D.eq.eqs xs ys = false
  | [], [], h => absurd rfl h
  | [], _ :: _, _ => rfl
  | _ :: _, [], _ => rfl
  | x :: xs, y :: ys, h => by
    have h' : xs.length ≠ ys.length := fun z => h (by rw [List.length_cons, List.length_cons, z])
    simp [D.eq.eqs, eqs_len h']
def pairE (xs ys : List D) (j : Nat) : Bool := D.eq (xs.getD j .non) (ys.getD j .non)
theorem eqs_range : ∀ xs ys : List D, ((List.range (min xs.length ys.length)).all (pairE xs ys) && xs.length == ys.length) = D.eq.eqs xs ys
  | [], [] => rfl
  | [], y :: ys => by simp [D.eq.eqs]
  | x :: xs, [] => by simp [D.eq.eqs]
  | x :: xs, y :: ys => by
    have ih := eqs_range xs ys
    have e : min (x :: xs).length (y :: ys).length = min xs.length ys.length + 1 := by simp only [List.length_cons]; omega
    rw [e, List.range_succ_eq_map, List.all_cons, List.all_map]
    show ((D.eq x y && (List.range (min xs.length ys.length)).all (pairE xs ys)) && (xs.length + 1 == ys.length + 1)) = (D.eq x y && D.eq.eqs xs ys)
    rw [← ih]
    have e2 : (xs.length + 1 == ys.length + 1) = (xs.length == ys.length) := by
      by_cases z : xs.length = ys.length
      · rw [z]; simp
      · rw [beq_eq_false_iff_ne.mpr z, beq_eq_false_iff_ne.mpr (by omega)]
    rw [e2, Bool.and_assoc]
theorem dep_mem : ∀ {xs : List D} {j : Nat}, D.dep (xs.getD j .non) ≤ D.dep.deps xs
  | [], j => Nat.le_of_eq (by simp [D.dep, D.dep.deps])
  | x :: xs, 0 => Nat.le_max_left _ _
  | x :: xs, j + 1 => Nat.le_trans (dep_mem (xs := xs) (j := j)) (Nat.le_max_right _ _)
theorem flat_mem : ∀ {xs : List D} {j : Nat}, D.flat.flats xs = true → D.flat (xs.getD j .non) = true
  | [], j, _ => rfl
  | x :: xs, 0, f => by
    have f' : (D.flat x && D.flat.flats xs) = true := f
    simp only [Bool.and_eq_true] at f'
    exact f'.1
  | x :: xs, j + 1, f => by
    have f' : (D.flat x && D.flat.flats xs) = true := f
    simp only [Bool.and_eq_true] at f'
    exact flat_mem (xs := xs) (j := j) f'.2
theorem ZS.at {K : KW} : ∀ {ds : List D} {vs : List V} {us : List Value}, RVs K H ds vs → Vals vs us → ∀ (j : Nat) (h : j < us.toArray.size), ∃ v, RV K H (ds.getD j .non) v ∧ RelV v us.toArray[j]
  | [], _, _, h, r, j, hj => by
    cases (show _ = [] from h)
    cases r
    simp at hj
  | d :: ds, _, _, ⟨v, r', z, h1, h2⟩, r, j, hj => by
    subst z
    cases r with
    | cons r1 r2 =>
      cases j with
      | zero => exact ⟨v, h1, by simpa using r1⟩
      | succ j =>
        obtain ⟨w, k1, k2⟩ := ZS.at h2 r2 j (by simpa using hj)
        exact ⟨w, by simpa using k1, by simpa using k2⟩
/-- == of data -/
theorem eqAt_D (I : Inv X pins σ H s) : ∀ (n : Nat) {d e : D} {v w : V} {a b : Value} {A : Around}, D.dep d ≤ n → RV (kw X) H d v → RV (kw X) H e w → RelV v a → RelV w b → D.flat d = true → D.flat e = true → A.units + n + 1 < cLine → EqAt A s a b (D.eq d e) := by
  intro n
  induction n with
  | zero =>
    intro d e v w a b A hn hd he ra rb fd fe hu
    have hu' : A.units < cLine := by omega
    cases d with
    | tup xs => exact absurd hn (by simp [D.dep])
    | lst xs => exact absurd hn (by simp [D.dep])
    | dct xs => exact absurd hn (by simp [D.dep])
    | non =>
      cases (show v = V.non from hd)
      cases ra
      cases e with
      | non => cases (show w = V.non from he); cases rb; exact EqAt.same _
      | bl y => cases (show w = V.bl y from he); cases rb; exact EqAt.none_bool y
      | int y => cases (show w = V.int y from he); obtain ⟨t, rfl⟩ := rb; exact EqAt.none_int y t
      | str y => cases (show w = V.str y from he); obtain ⟨t, rfl⟩ := rb; exact EqAt.none_str y t
      | lst ys =>
        obtain ⟨l, vs, rfl, k, _⟩ := he
        cases rb
        obtain ⟨its, _, pl, _⟩ := I.list k
        exact EqAt.none_list pl.isList hu'
      | tup ys =>
        obtain ⟨l, vs, rfl, k, _⟩ := he
        cases rb
        obtain ⟨its, _, pl, _⟩ := I.tuple k
        exact EqAt.none_tuple pl hu'
      | dct ys =>
        obtain ⟨z9, ep9, es9, rfl, k9, _, kr9⟩ := he
        cases rb
        exact eqBr rfl (rc_none_dc (IsDc.of (Inv.dctAt I k9)) hu')
    | bl x =>
      cases (show v = V.bl x from hd)
      cases ra
      cases e with
      | non => cases (show w = V.non from he); cases rb; exact EqAt.bool_none x
      | bl y => cases (show w = V.bl y from he); cases rb; exact EqAt.bool_bool x y
      | int y => cases (show w = V.int y from he); obtain ⟨t, rfl⟩ := rb; exact EqAt.bool_int x y t
      | str y => cases (show w = V.str y from he); obtain ⟨t, rfl⟩ := rb; exact EqAt.bool_str x y t
      | lst ys =>
        obtain ⟨l, vs, rfl, k, _⟩ := he
        cases rb
        obtain ⟨its, _, pl, _⟩ := I.list k
        exact EqAt.bool_list x pl.isList hu'
      | tup ys =>
        obtain ⟨l, vs, rfl, k, _⟩ := he
        cases rb
        obtain ⟨its, _, pl, _⟩ := I.tuple k
        exact EqAt.bool_tuple x pl hu'
      | dct ys =>
        obtain ⟨z9, ep9, es9, rfl, k9, _, kr9⟩ := he
        cases rb
        exact eqBr rfl (rc_bool_dc (IsDc.of (Inv.dctAt I k9)) hu' x)
    | int x =>
      cases (show v = V.int x from hd)
      obtain ⟨t0, rfl⟩ := ra
      cases e with
      | non => cases (show w = V.non from he); cases rb; exact EqAt.int_none x t0
      | bl y => cases (show w = V.bl y from he); cases rb; exact EqAt.int_bool x t0 y
      | int y => cases (show w = V.int y from he); obtain ⟨t, rfl⟩ := rb; exact EqAt.int_int x t0 y t
      | str y => cases (show w = V.str y from he); obtain ⟨t, rfl⟩ := rb; exact EqAt.int_str x t0 y t
      | lst ys =>
        obtain ⟨l, vs, rfl, k, _⟩ := he
        cases rb
        obtain ⟨its, _, pl, _⟩ := I.list k
        exact EqAt.int_list x t0 pl.isList hu'
      | tup ys =>
        obtain ⟨l, vs, rfl, k, _⟩ := he
        cases rb
        obtain ⟨its, _, pl, _⟩ := I.tuple k
        exact EqAt.int_tuple x t0 pl hu'
      | dct ys =>
        obtain ⟨z9, ep9, es9, rfl, k9, _, kr9⟩ := he
        cases rb
        exact eqBr rfl (rc_int_dc (IsDc.of (Inv.dctAt I k9)) hu' x t0)
    | str x =>
      cases (show v = V.str x from hd)
      obtain ⟨t0, rfl⟩ := ra
      cases e with
      | non => cases (show w = V.non from he); cases rb; exact EqAt.str_none x t0
      | bl y => cases (show w = V.bl y from he); cases rb; exact EqAt.str_bool x t0 y
      | int y => cases (show w = V.int y from he); obtain ⟨t, rfl⟩ := rb; exact EqAt.str_int x t0 y t
      | str y => cases (show w = V.str y from he); obtain ⟨t, rfl⟩ := rb; exact EqAt.str_str x t0 y t
      | lst ys =>
        obtain ⟨l, vs, rfl, k, _⟩ := he
        cases rb
        obtain ⟨its, _, pl, _⟩ := I.list k
        exact EqAt.str_list x t0 pl.isList hu'
      | tup ys =>
        obtain ⟨l, vs, rfl, k, _⟩ := he
        cases rb
        obtain ⟨its, _, pl, _⟩ := I.tuple k
        exact EqAt.str_tuple x t0 pl hu'
      | dct ys =>
        obtain ⟨z9, ep9, es9, rfl, k9, _, kr9⟩ := he
        cases rb
        exact eqBr rfl (rc_str_dc (IsDc.of (Inv.dctAt I k9)) hu' x t0)
  | succ n ih =>
    intro d e v w a b A hn hd he ra rb fd fe hu
    have hu' : A.units < cLine := by omega
    have hui : A.in1.units + n + 1 < cLine := by show A.units + 1 + n + 1 < cLine; omega
    cases d with
    | lst xs =>
      have hd0 := hd
      have he0 := he
      obtain ⟨l, vs, rfl, k, kr⟩ := hd
      cases ra
      obtain ⟨its, rv, pl, _⟩ := I.list k
      cases e with
      | non => cases (show w = V.non from he); cases rb; exact EqAt.list_none pl.isList hu'
      | bl y => cases (show w = V.bl y from he); cases rb; exact EqAt.list_bool y pl.isList hu'
      | int y => cases (show w = V.int y from he); obtain ⟨t, rfl⟩ := rb; exact EqAt.list_int y t pl.isList hu'
      | str y => cases (show w = V.str y from he); obtain ⟨t, rfl⟩ := rb; exact EqAt.list_str y t pl.isList hu'
      | dct ys =>
        obtain ⟨z9, ep9, es9, rfl, k9, _, kr9⟩ := he
        cases rb
        exact EqAt.of_refs (ne_dc_list (IsDc.of (Inv.dctAt I k9)) pl.isList).symm (rc_list_dc (IsDc.of (Inv.dctAt I k9)) hu' pl.isList)
      | tup ys =>
        obtain ⟨l2, vs2, rfl, k2, _⟩ := he
        cases rb
        obtain ⟨its2, _, pl2, _⟩ := I.tuple k2
        exact EqAt.list_tuple pl.isList pl2 hu'
      | lst ys =>
        obtain ⟨l2, vs2, rfl, k2, kr2⟩ := he
        cases rb
        obtain ⟨its2, rv2, pl2, _⟩ := I.list k2
        by_cases hl : l = l2
        · subst hl
          have := RV.uniq I hd0 he0 fd
          rw [← this, D.eq_refl _ fd]
          exact EqAt.same _
        · refine EqAt.of_refs hl ?_
          have l1 : its.toArray.size = xs.length := by rw [List.size_toArray, ← rv.length, RVs.len kr]
          have l2' : its2.toArray.size = ys.length := by rw [List.size_toArray, ← rv2.length, RVs.len kr2]
          by_cases hz : xs.length = ys.length
          · have key := RcAt.lists (e := pairE xs ys) pl.isList pl2.isList (by omega) hu' fun j h1 h2 => by
              obtain ⟨v1, q1, q2⟩ := ZS.at kr rv j h1
              obtain ⟨v2, q3, q4⟩ := ZS.at kr2 rv2 j h2
              exact ih (Nat.le_trans dep_mem (by simp only [D.dep] at hn; omega)) q1 q3 q2 q4 (flat_mem fd) (flat_mem fe) hui
            have e1 : (List.range its.toArray.size).all (pairE xs ys) = D.eq (.lst xs) (.lst ys) := by
              show _ = D.eq.eqs xs ys
              rw [← eqs_range xs ys, l1, hz, Nat.min_self]
              simp
            rw [← e1]
            exact key
          · have e1 : D.eq (.lst xs) (.lst ys) = false := eqs_len hz
            rw [e1]
            exact RcAt.lists_lengths pl.isList pl2.isList (by rw [l1, l2']; simpa using hz) hu'
    | tup xs =>
      have hd0 := hd
      have he0 := he
      obtain ⟨l, vs, rfl, k, kr⟩ := hd
      cases ra
      obtain ⟨its, rv, pl, _⟩ := I.tuple k
      cases e with
      | non => cases (show w = V.non from he); cases rb; exact EqAt.tuple_none pl hu'
      | bl y => cases (show w = V.bl y from he); cases rb; exact EqAt.tuple_bool y pl hu'
      | int y => cases (show w = V.int y from he); obtain ⟨t, rfl⟩ := rb; exact EqAt.tuple_int y t pl hu'
      | str y => cases (show w = V.str y from he); obtain ⟨t, rfl⟩ := rb; exact EqAt.tuple_str y t pl hu'
      | dct ys =>
        obtain ⟨z9, ep9, es9, rfl, k9, _, kr9⟩ := he
        cases rb
        exact EqAt.of_refs (ne_dc_tuple (IsDc.of (Inv.dctAt I k9)) pl).symm (rc_tuple_dc (IsDc.of (Inv.dctAt I k9)) hu' pl)
      | lst ys =>
        obtain ⟨l2, vs2, rfl, k2, _⟩ := he
        cases rb
        obtain ⟨its2, _, pl2, _⟩ := I.list k2
        exact EqAt.tuple_list pl pl2.isList hu'
      | tup ys =>
        obtain ⟨l2, vs2, rfl, k2, kr2⟩ := he
        cases rb
        obtain ⟨its2, rv2, pl2, _⟩ := I.tuple k2
        by_cases hl : l = l2
        · subst hl
          have := RV.uniq I hd0 he0 fd
          rw [← this, D.eq_refl _ fd]
          exact EqAt.same _
        · refine EqAt.of_refs hl ?_
          have l1 : its.toArray.size = xs.length := by rw [List.size_toArray, ← rv.length, RVs.len kr]
          have l2' : its2.toArray.size = ys.length := by rw [List.size_toArray, ← rv2.length, RVs.len kr2]
          have key := RcAt.tuples (e := pairE xs ys) pl pl2 hu' fun j h1 h2 => by
            obtain ⟨v1, q1, q2⟩ := ZS.at kr rv j h1
            obtain ⟨v2, q3, q4⟩ := ZS.at kr2 rv2 j h2
            exact ih (Nat.le_trans dep_mem (by simp only [D.dep] at hn; omega)) q1 q3 q2 q4 (flat_mem fd) (flat_mem fe) hui
          have e1 : ((List.range (min its.toArray.size its2.toArray.size)).all (pairE xs ys) && its.toArray.size == its2.toArray.size) = D.eq (.tup xs) (.tup ys) := by
            show _ = D.eq.eqs xs ys
            rw [← eqs_range xs ys, l1, l2']
          rw [← e1]
          exact key
    | dct xs =>
      obtain ⟨z8, ep8, es8, rfl, k8, _, kr8⟩ := hd
      cases ra
      have h8 : IsDc s z8 := IsDc.of (Inv.dctAt I k8)
      cases e with
      | non => cases (show w = V.non from he); cases rb; exact eqBl rfl (rc_dc_none h8 hu')
      | bl y => cases (show w = V.bl y from he); cases rb; exact eqBl rfl (rc_dc_bool h8 hu' y)
      | int y => cases (show w = V.int y from he); obtain ⟨t, rfl⟩ := rb; exact eqBl rfl (rc_dc_int h8 hu' y t)
      | str y => cases (show w = V.str y from he); obtain ⟨t, rfl⟩ := rb; exact eqBl rfl (rc_dc_str h8 hu' y t)
      | lst ys =>
        obtain ⟨l2, vs2, rfl, k2, _⟩ := he
        cases rb
        obtain ⟨its2, _, pl2, _⟩ := I.list k2
        exact EqAt.of_refs (ne_dc_list h8 pl2.isList) (rc_dc_list h8 hu' pl2.isList)
      | tup ys =>
        obtain ⟨l2, vs2, rfl, k2, _⟩ := he
        cases rb
        obtain ⟨its2, _, pl2, _⟩ := I.tuple k2
        exact EqAt.of_refs (ne_dc_tuple h8 pl2) (rc_dc_tuple h8 hu' pl2)
      | dct ys =>
        obtain ⟨z9, ep9, es9, rfl, k9, _, kr9⟩ := he
        cases rb
        cases flat_dc fd
        cases flat_dc fe
        cases (show es8 = [] from kr8)
        cases (show es9 = [] from kr9)
        by_cases hl : z8 = z9
        · subst hl
          exact EqAt.same _
        · exact EqAt.of_refs hl (rc_dcs I k8 k9 hu')
    | non => exact ih (Nat.zero_le _) hd he ra rb fd fe (by omega)
    | bl x => exact ih (Nat.zero_le _) hd he ra rb fd fe (by omega)
    | int x => exact ih (Nat.zero_le _) hd he ra rb fd fe (by omega)
    | str x => exact ih (Nat.zero_le _) hd he ra rb fd fe (by omega)
set_option maxHeartbeats 2000000 in
theorem rcAt_D (I : Inv X pins σ H s) {d e : D} {v w : V} {a b : Value} {A : Around} (hn : D.dep d ≤ 60) (hd : RV (kw X) H d v) (he : RV (kw X) H e w) (ra : RelV v a) (rb : RelV w b) (fd : D.flat d = true) (fe : D.flat e = true) (hu : A.units + 100 < cLine) : RcAt A s a b (D.eq d e) := by
  have hu1 : A.units < cLine := by omega
  have hui : A.in1.units + 60 + 1 < cLine := by show A.units + 1 + 60 + 1 < cLine; omega
  cases d with
  | non =>
    cases (show v = V.non from hd)
    cases ra
    cases e with
    | non =>
      cases (show w = V.non from he)
      cases rb
      exact RcAt.none_none 
    | bl y =>
      cases (show w = V.bl y from he)
      cases rb
      exact RcAt.none_bool y
    | int y =>
      cases (show w = V.int y from he)
      obtain ⟨t, rfl⟩ := rb
      exact RcAt.none_int y t
    | str y =>
      cases (show w = V.str y from he)
      obtain ⟨t, rfl⟩ := rb
      exact RcAt.none_str y t
    | lst ys =>
      obtain ⟨l, vs, rfl, k, _⟩ := he
      cases rb
      obtain ⟨its, _, pl, _⟩ := I.list k
      exact RcAt.none_list pl.isList hu1
    | tup ys =>
      obtain ⟨l, vs, rfl, k, _⟩ := he
      cases rb
      obtain ⟨its, _, pl, _⟩ := I.tuple k
      exact RcAt.none_tuple pl hu1
    | dct ys =>
      obtain ⟨z9, ep9, es9, rfl, k9, _, kr9⟩ := he
      cases rb
      exact rc_none_dc (IsDc.of (Inv.dctAt I k9)) hu1
  | bl x =>
    cases (show v = V.bl x from hd)
    cases ra
    cases e with
    | non =>
      cases (show w = V.non from he)
      cases rb
      exact RcAt.bool_none x
    | bl y =>
      cases (show w = V.bl y from he)
      cases rb
      exact RcAt.bool_bool x y
    | int y =>
      cases (show w = V.int y from he)
      obtain ⟨t, rfl⟩ := rb
      exact RcAt.bool_int x y t
    | str y =>
      cases (show w = V.str y from he)
      obtain ⟨t, rfl⟩ := rb
      exact RcAt.bool_str x y t
    | lst ys =>
      obtain ⟨l, vs, rfl, k, _⟩ := he
      cases rb
      obtain ⟨its, _, pl, _⟩ := I.list k
      exact RcAt.bool_list x pl.isList hu1
    | tup ys =>
      obtain ⟨l, vs, rfl, k, _⟩ := he
      cases rb
      obtain ⟨its, _, pl, _⟩ := I.tuple k
      exact RcAt.bool_tuple x pl hu1
    | dct ys =>
      obtain ⟨z9, ep9, es9, rfl, k9, _, kr9⟩ := he
      cases rb
      exact rc_bool_dc (IsDc.of (Inv.dctAt I k9)) hu1 x
  | int x =>
    cases (show v = V.int x from hd)
    obtain ⟨t0, rfl⟩ := ra
    cases e with
    | non =>
      cases (show w = V.non from he)
      cases rb
      exact RcAt.int_none x t0
    | bl y =>
      cases (show w = V.bl y from he)
      cases rb
      exact RcAt.int_bool x t0 y
    | int y =>
      cases (show w = V.int y from he)
      obtain ⟨t, rfl⟩ := rb
      exact RcAt.int_int x t0 y t
    | str y =>
      cases (show w = V.str y from he)
      obtain ⟨t, rfl⟩ := rb
      exact RcAt.int_str x t0 y t
    | lst ys =>
      obtain ⟨l, vs, rfl, k, _⟩ := he
      cases rb
      obtain ⟨its, _, pl, _⟩ := I.list k
      exact RcAt.int_list x t0 pl.isList hu1
    | tup ys =>
      obtain ⟨l, vs, rfl, k, _⟩ := he
      cases rb
      obtain ⟨its, _, pl, _⟩ := I.tuple k
      exact RcAt.int_tuple x t0 pl hu1
    | dct ys =>
      obtain ⟨z9, ep9, es9, rfl, k9, _, kr9⟩ := he
      cases rb
      exact rc_int_dc (IsDc.of (Inv.dctAt I k9)) hu1 x t0
  | str x =>
    cases (show v = V.str x from hd)
    obtain ⟨t0, rfl⟩ := ra
    cases e with
    | non =>
      cases (show w = V.non from he)
      cases rb
      exact RcAt.str_none x t0
    | bl y =>
      cases (show w = V.bl y from he)
      cases rb
      exact RcAt.str_bool x t0 y
    | int y =>
      cases (show w = V.int y from he)
      obtain ⟨t, rfl⟩ := rb
      exact RcAt.str_int x t0 y t
    | str y =>
      cases (show w = V.str y from he)
      obtain ⟨t, rfl⟩ := rb
      exact RcAt.str_str x t0 y t
    | lst ys =>
      obtain ⟨l, vs, rfl, k, _⟩ := he
      cases rb
      obtain ⟨its, _, pl, _⟩ := I.list k
      exact RcAt.str_list x t0 pl.isList hu1
    | tup ys =>
      obtain ⟨l, vs, rfl, k, _⟩ := he
      cases rb
      obtain ⟨its, _, pl, _⟩ := I.tuple k
      exact RcAt.str_tuple x t0 pl hu1
    | dct ys =>
      obtain ⟨z9, ep9, es9, rfl, k9, _, kr9⟩ := he
      cases rb
      exact rc_str_dc (IsDc.of (Inv.dctAt I k9)) hu1 x t0
  | lst xs =>
    obtain ⟨l, vs, rfl, k, kr⟩ := hd
    cases ra
    obtain ⟨its, rv, pl, _⟩ := I.list k
    cases e with
    | non =>
      cases (show w = V.non from he)
      cases rb
      exact RcAt.list_none pl.isList hu1
    | bl y =>
      cases (show w = V.bl y from he)
      cases rb
      exact RcAt.list_bool y pl.isList hu1
    | int y =>
      cases (show w = V.int y from he)
      obtain ⟨t, rfl⟩ := rb
      exact RcAt.list_int y t pl.isList hu1
    | str y =>
      cases (show w = V.str y from he)
      obtain ⟨t, rfl⟩ := rb
      exact RcAt.list_str y t pl.isList hu1
    | lst ys =>
      obtain ⟨l2, vs2, rfl, k2, kr2⟩ := he
      cases rb
      obtain ⟨its2, rv2, pl2, _⟩ := I.list k2
      have l1 : its.toArray.size = xs.length := by rw [List.size_toArray, ← rv.length, RVs.len kr]
      have l2x : its2.toArray.size = ys.length := by rw [List.size_toArray, ← rv2.length, RVs.len kr2]
      by_cases hz : xs.length = ys.length
      · have key := RcAt.lists (e := pairE xs ys) pl.isList pl2.isList (by omega) hu1 fun j h1 h2 => by
          obtain ⟨v1, q1, q2⟩ := ZS.at kr rv j h1
          obtain ⟨v2, q3, q4⟩ := ZS.at kr2 rv2 j h2
          exact eqAt_D I 60 (Nat.le_trans dep_mem (by simp only [D.dep] at hn; omega)) q1 q3 q2 q4 (flat_mem fd) (flat_mem fe) hui
        have e1 : (List.range its.toArray.size).all (pairE xs ys) = D.eq (.lst xs) (.lst ys) := by
          show _ = D.eq.eqs xs ys
          rw [← eqs_range xs ys, l1, hz, Nat.min_self]
          simp
        rw [← e1]
        exact key
      · have e1 : D.eq (.lst xs) (.lst ys) = false := eqs_len hz
        rw [e1]
        exact RcAt.lists_lengths pl.isList pl2.isList (by rw [l1, l2x]; simpa using hz) hu1
    | tup ys =>
      obtain ⟨l2, vs2, rfl, k2, kr2⟩ := he
      cases rb
      obtain ⟨its2, rv2, pl2, _⟩ := I.tuple k2
      exact RcAt.list_tuple pl.isList pl2 hu1
    | dct ys =>
      obtain ⟨z9, ep9, es9, rfl, k9, _, kr9⟩ := he
      cases rb
      exact rc_list_dc (IsDc.of (Inv.dctAt I k9)) hu1 pl.isList
  | tup xs =>
    obtain ⟨l, vs, rfl, k, kr⟩ := hd
    cases ra
    obtain ⟨its, rv, pl, _⟩ := I.tuple k
    cases e with
    | non =>
      cases (show w = V.non from he)
      cases rb
      exact RcAt.tuple_none pl hu1
    | bl y =>
      cases (show w = V.bl y from he)
      cases rb
      exact RcAt.tuple_bool y pl hu1
    | int y =>
      cases (show w = V.int y from he)
      obtain ⟨t, rfl⟩ := rb
      exact RcAt.tuple_int y t pl hu1
    | str y =>
      cases (show w = V.str y from he)
      obtain ⟨t, rfl⟩ := rb
      exact RcAt.tuple_str y t pl hu1
    | lst ys =>
      obtain ⟨l2, vs2, rfl, k2, kr2⟩ := he
      cases rb
      obtain ⟨its2, rv2, pl2, _⟩ := I.list k2
      exact RcAt.tuple_list pl pl2.isList hu1
    | tup ys =>
      obtain ⟨l2, vs2, rfl, k2, kr2⟩ := he
      cases rb
      obtain ⟨its2, rv2, pl2, _⟩ := I.tuple k2
      have l1 : its.toArray.size = xs.length := by rw [List.size_toArray, ← rv.length, RVs.len kr]
      have l2x : its2.toArray.size = ys.length := by rw [List.size_toArray, ← rv2.length, RVs.len kr2]
      have key := RcAt.tuples (e := pairE xs ys) pl pl2 hu1 fun j h1 h2 => by
          obtain ⟨v1, q1, q2⟩ := ZS.at kr rv j h1
          obtain ⟨v2, q3, q4⟩ := ZS.at kr2 rv2 j h2
          exact eqAt_D I 60 (Nat.le_trans dep_mem (by simp only [D.dep] at hn; omega)) q1 q3 q2 q4 (flat_mem fd) (flat_mem fe) hui
      have e1 : ((List.range (min its.toArray.size its2.toArray.size)).all (pairE xs ys) && its.toArray.size == its2.toArray.size) = D.eq (.tup xs) (.tup ys) := by
        show _ = D.eq.eqs xs ys
        rw [← eqs_range xs ys, l1, l2x]
      rw [← e1]
      exact key
    | dct ys =>
      obtain ⟨z9, ep9, es9, rfl, k9, _, kr9⟩ := he
      cases rb
      exact rc_tuple_dc (IsDc.of (Inv.dctAt I k9)) hu1 pl
  | dct xs =>
    obtain ⟨z8, ep8, es8, rfl, k8, _, kr8⟩ := hd
    cases ra
    have h8 : IsDc s z8 := IsDc.of (Inv.dctAt I k8)
    cases e with
    | non => cases (show w = V.non from he); cases rb; exact rc_dc_none h8 hu1
    | bl y => cases (show w = V.bl y from he); cases rb; exact rc_dc_bool h8 hu1 y
    | int y => cases (show w = V.int y from he); obtain ⟨t, rfl⟩ := rb; exact rc_dc_int h8 hu1 y t
    | str y => cases (show w = V.str y from he); obtain ⟨t, rfl⟩ := rb; exact rc_dc_str h8 hu1 y t
    | lst ys =>
      obtain ⟨l2, vs2, rfl, k2, _⟩ := he
      cases rb
      obtain ⟨its2, _, pl2, _⟩ := I.list k2
      exact rc_dc_list h8 hu1 pl2.isList
    | tup ys =>
      obtain ⟨l2, vs2, rfl, k2, _⟩ := he
      cases rb
      obtain ⟨its2, _, pl2, _⟩ := I.tuple k2
      exact rc_dc_tuple h8 hu1 pl2
    | dct ys =>
      obtain ⟨z9, ep9, es9, rfl, k9, _, kr9⟩ := he
      cases rb
      cases flat_dc fd
      cases flat_dc fe
      cases (show es8 = [] from kr8)
      cases (show es9 = [] from kr9)
      exact rc_dcs I k8 k9 hu1
theorem rcNe_D (I : Inv X pins σ H s) {d e : D} {v w : V} {a b : Value} {A : Around} (hn : D.dep d ≤ 60) (hd : RV (kw X) H d v) (he : RV (kw X) H e w) (ra : RelV v a) (rb : RelV w b) (fd : D.flat d = true) (fe : D.flat e = true) (nd9 : d.isDc = false) (ne9 : e.isDc = false) (hu : A.units + 100 < cLine) : RcNeAt A s a b (!D.eq d e) := by
  have hu1 : A.units < cLine := by omega
  have hui : A.in1.units + 60 + 1 < cLine := by show A.units + 1 + 60 + 1 < cLine; omega
  cases d with
  | non =>
    cases (show v = V.non from hd)
    cases ra
    cases e with
    | non =>
      cases (show w = V.non from he)
      cases rb
      exact RcNeAt.none_none 
    | bl y =>
      cases (show w = V.bl y from he)
      cases rb
      exact RcNeAt.none_bool y
    | int y =>
      cases (show w = V.int y from he)
      obtain ⟨t, rfl⟩ := rb
      exact RcNeAt.none_int y t
    | str y =>
      cases (show w = V.str y from he)
      obtain ⟨t, rfl⟩ := rb
      exact RcNeAt.none_str y t
    | lst ys =>
      obtain ⟨l, vs, rfl, k, _⟩ := he
      cases rb
      obtain ⟨its, _, pl, _⟩ := I.list k
      exact RcNeAt.none_list pl.isList hu1
    | tup ys =>
      obtain ⟨l, vs, rfl, k, _⟩ := he
      cases rb
      obtain ⟨its, _, pl, _⟩ := I.tuple k
      exact RcNeAt.none_tuple pl hu1
    | dct ys => exact nomatch ne9
  | bl x =>
    cases (show v = V.bl x from hd)
    cases ra
    cases e with
    | non =>
      cases (show w = V.non from he)
      cases rb
      exact RcNeAt.bool_none x
    | bl y =>
      cases (show w = V.bl y from he)
      cases rb
      exact RcNeAt.bool_bool x y
    | int y =>
      cases (show w = V.int y from he)
      obtain ⟨t, rfl⟩ := rb
      exact RcNeAt.bool_int x y t
    | str y =>
      cases (show w = V.str y from he)
      obtain ⟨t, rfl⟩ := rb
      exact RcNeAt.bool_str x y t
    | lst ys =>
      obtain ⟨l, vs, rfl, k, _⟩ := he
      cases rb
      obtain ⟨its, _, pl, _⟩ := I.list k
      exact RcNeAt.bool_list x pl.isList hu1
    | tup ys =>
      obtain ⟨l, vs, rfl, k, _⟩ := he
      cases rb
      obtain ⟨its, _, pl, _⟩ := I.tuple k
      exact RcNeAt.bool_tuple x pl hu1
    | dct ys => exact nomatch ne9
  | int x =>
    cases (show v = V.int x from hd)
    obtain ⟨t0, rfl⟩ := ra
    cases e with
    | non =>
      cases (show w = V.non from he)
      cases rb
      exact RcNeAt.int_none x t0
    | bl y =>
      cases (show w = V.bl y from he)
      cases rb
      exact RcNeAt.int_bool x t0 y
    | int y =>
      cases (show w = V.int y from he)
      obtain ⟨t, rfl⟩ := rb
      exact RcNeAt.int_int x t0 y t
    | str y =>
      cases (show w = V.str y from he)
      obtain ⟨t, rfl⟩ := rb
      exact RcNeAt.int_str x t0 y t
    | lst ys =>
      obtain ⟨l, vs, rfl, k, _⟩ := he
      cases rb
      obtain ⟨its, _, pl, _⟩ := I.list k
      exact RcNeAt.int_list x t0 pl.isList hu1
    | tup ys =>
      obtain ⟨l, vs, rfl, k, _⟩ := he
      cases rb
      obtain ⟨its, _, pl, _⟩ := I.tuple k
      exact RcNeAt.int_tuple x t0 pl hu1
    | dct ys => exact nomatch ne9
  | str x =>
    cases (show v = V.str x from hd)
    obtain ⟨t0, rfl⟩ := ra
    cases e with
    | non =>
      cases (show w = V.non from he)
      cases rb
      exact RcNeAt.str_none x t0
    | bl y =>
      cases (show w = V.bl y from he)
      cases rb
      exact RcNeAt.str_bool x t0 y
    | int y =>
      cases (show w = V.int y from he)
      obtain ⟨t, rfl⟩ := rb
      exact RcNeAt.str_int x t0 y t
    | str y =>
      cases (show w = V.str y from he)
      obtain ⟨t, rfl⟩ := rb
      exact RcNeAt.str_str x t0 y t
    | lst ys =>
      obtain ⟨l, vs, rfl, k, _⟩ := he
      cases rb
      obtain ⟨its, _, pl, _⟩ := I.list k
      exact RcNeAt.str_list x t0 pl.isList hu1
    | tup ys =>
      obtain ⟨l, vs, rfl, k, _⟩ := he
      cases rb
      obtain ⟨its, _, pl, _⟩ := I.tuple k
      exact RcNeAt.str_tuple x t0 pl hu1
    | dct ys => exact nomatch ne9
  | lst xs =>
    obtain ⟨l, vs, rfl, k, kr⟩ := hd
    cases ra
    obtain ⟨its, rv, pl, _⟩ := I.list k
    cases e with
    | non =>
      cases (show w = V.non from he)
      cases rb
      exact RcNeAt.list_none pl.isList hu1
    | bl y =>
      cases (show w = V.bl y from he)
      cases rb
      exact RcNeAt.list_bool y pl.isList hu1
    | int y =>
      cases (show w = V.int y from he)
      obtain ⟨t, rfl⟩ := rb
      exact RcNeAt.list_int y t pl.isList hu1
    | str y =>
      cases (show w = V.str y from he)
      obtain ⟨t, rfl⟩ := rb
      exact RcNeAt.list_str y t pl.isList hu1
    | lst ys =>
      obtain ⟨l2, vs2, rfl, k2, kr2⟩ := he
      cases rb
      obtain ⟨its2, rv2, pl2, _⟩ := I.list k2
      have l1 : its.toArray.size = xs.length := by rw [List.size_toArray, ← rv.length, RVs.len kr]
      have l2x : its2.toArray.size = ys.length := by rw [List.size_toArray, ← rv2.length, RVs.len kr2]
      by_cases hz : xs.length = ys.length
      · have key := RcNeAt.lists (e := pairE xs ys) pl.isList pl2.isList (by omega) hu1 fun j h1 h2 => by
          obtain ⟨v1, q1, q2⟩ := ZS.at kr rv j h1
          obtain ⟨v2, q3, q4⟩ := ZS.at kr2 rv2 j h2
          exact eqAt_D I 60 (Nat.le_trans dep_mem (by simp only [D.dep] at hn; omega)) q1 q3 q2 q4 (flat_mem fd) (flat_mem fe) hui
        have e1 : (List.range its.toArray.size).all (pairE xs ys) = D.eq (.lst xs) (.lst ys) := by
          show _ = D.eq.eqs xs ys
          rw [← eqs_range xs ys, l1, hz, Nat.min_self]
          simp
        rw [← e1]
        exact key
      · have e1 : D.eq (.lst xs) (.lst ys) = false := eqs_len hz
        rw [e1]
        exact RcNeAt.lists_lengths pl.isList pl2.isList (by rw [l1, l2x]; simpa using hz) hu1
    | tup ys =>
      obtain ⟨l2, vs2, rfl, k2, kr2⟩ := he
      cases rb
      obtain ⟨its2, rv2, pl2, _⟩ := I.tuple k2
      exact RcNeAt.list_tuple pl.isList pl2 hu1
    | dct ys => exact nomatch ne9
  | tup xs =>
    obtain ⟨l, vs, rfl, k, kr⟩ := hd
    cases ra
    obtain ⟨its, rv, pl, _⟩ := I.tuple k
    cases e with
    | non =>
      cases (show w = V.non from he)
      cases rb
      exact RcNeAt.tuple_none pl hu1
    | bl y =>
      cases (show w = V.bl y from he)
      cases rb
      exact RcNeAt.tuple_bool y pl hu1
    | int y =>
      cases (show w = V.int y from he)
      obtain ⟨t, rfl⟩ := rb
      exact RcNeAt.tuple_int y t pl hu1
    | str y =>
      cases (show w = V.str y from he)
      obtain ⟨t, rfl⟩ := rb
      exact RcNeAt.tuple_str y t pl hu1
    | lst ys =>
      obtain ⟨l2, vs2, rfl, k2, kr2⟩ := he
      cases rb
      obtain ⟨its2, rv2, pl2, _⟩ := I.list k2
      exact RcNeAt.tuple_list pl pl2.isList hu1
    | tup ys =>
      obtain ⟨l2, vs2, rfl, k2, kr2⟩ := he
      cases rb
      obtain ⟨its2, rv2, pl2, _⟩ := I.tuple k2
      have l1 : its.toArray.size = xs.length := by rw [List.size_toArray, ← rv.length, RVs.len kr]
      have l2x : its2.toArray.size = ys.length := by rw [List.size_toArray, ← rv2.length, RVs.len kr2]
      have key := RcNeAt.tuples (e := pairE xs ys) pl pl2 hu1 fun j h1 h2 => by
          obtain ⟨v1, q1, q2⟩ := ZS.at kr rv j h1
          obtain ⟨v2, q3, q4⟩ := ZS.at kr2 rv2 j h2
          exact eqAt_D I 60 (Nat.le_trans dep_mem (by simp only [D.dep] at hn; omega)) q1 q3 q2 q4 (flat_mem fd) (flat_mem fe) hui
      have e1 : ((List.range (min its.toArray.size its2.toArray.size)).all (pairE xs ys) && its.toArray.size == its2.toArray.size) = D.eq (.tup xs) (.tup ys) := by
        show _ = D.eq.eqs xs ys
        rw [← eqs_range xs ys, l1, l2x]
      rw [← e1]
      exact key
    | dct ys => exact nomatch ne9
  | dct xs => exact nomatch nd9
end
end VL

/-! VL4: the operators and built-ins, by data. -/
namespace VL
open PySem PySem.Spec L2

def depOk (d : D) : Bool := decide (d.dep ≤ 60)
/-- repr's text, where it is known -/
def shownD (d : D) : Option Str := if d.toP.showable && decide (d.toP.depth ≤ 100) && decide (d.toP.shown.length ≤ line) then some d.toP.shown else none
abbrev ap (o : Op) (ds : List D) : Option D := o.ap shownD ds

/-- seen from outside: frozen, or an object of one's own -/
def VW (K : KW) (G H : Hp) (d : D) (v : V) : Prop := RV K G d v ∨ ∃ a, v = .ref a ∧ OV K G H d a
def VWs (K : KW) (G H : Hp) : List D → List V → Prop
  | [], vs => vs = []
  | d :: ds, vs => ∃ v r, vs = v :: r ∧ VW K G H d v ∧ VWs K G H ds r
/-- a new object for d -/
def NewO (K : KW) (G : Hp) (p : Addr) : D → HO → Prop
  | .lst ds, o => ∃ vs, o = .lst vs ∧ RVs K G ds vs
  | .tup ds, o => ∃ vs, o = .tup vs ∧ RVs K G ds vs
  | .dct kvs, o => ∃ ep es, o = DctO p ep es ∧ (kvs.map (·.1.key)).Nodup ∧ REs K G kvs es
  | _, _ => False
/-- what must hold behind an operation that gives d; b: nothing that changes may be an old object -/
structure OpPost (K : KW) (G H : Hp) (b : Bool) (d : D) (Q : VK) : Prop where
  old : ∀ v, (b = true → d.mutb = false) → RV K G d v → Q v H
  new : ∀ p o, H p = none → NewO K G p d o → Q (.ref p) (upd H p o)
/-- sys.modules stands where it stood -/
def SysM (h : Heap) : Prop := ∃ m, h.Ns sysModules m
structure XG0 (X : Cx) : Prop where
  guards : X.A.guards = some []
  units : X.A.units + 200 < cLine
  sys : SysM X.base
structure XG (X : Cx) : Prop extends XG0 X where
  calm : X.calm = true

section
variable {K : KW} {G H : Hp}
theorem VW.rv {d : D} {v : V} (g : Same G H) (h : VW K G H d v) : RV K H d v := by
  rcases h with h | ⟨a, rfl, h⟩
  · exact h.mono g
  · obtain ⟨o, e⟩ := h.there
    exact h.rv e g e
theorem VW.lst {ds : List D} {v : V} (g : Same G H) (h : VW K G H (.lst ds) v) : ∃ a vs, v = .ref a ∧ SqL K.K H a vs ∧ RVs K G ds vs := by
  rcases h with ⟨a, vs, e, h1, h2⟩ | ⟨a, e, vs, h1, h2⟩
  · exact ⟨a, vs, e, g.seq h1, h2⟩
  · exact ⟨a, vs, e, SqL.of h1, h2⟩
theorem VW.tup {ds : List D} {v : V} (g : Same G H) (h : VW K G H (.tup ds) v) : ∃ a vs, v = .ref a ∧ SqT K.K H a vs ∧ RVs K G ds vs := by
  rcases h with ⟨a, vs, e, h1, h2⟩ | ⟨a, e, h⟩
  · exact ⟨a, vs, e, SqT.mono g h1, h2⟩
  · exact h.elim
theorem VW.tupRV {ds : List D} {v : V} (h : VW K G H (.tup ds) v) : RV K G (.tup ds) v := by
  rcases h with h | ⟨a, e, h⟩
  · exact h
  · exact h.elim
theorem VW.dct {ds : List (D × D)} {v : V} (g : Same G H) (h : VW K G H (.dct ds) v) : ∃ a ep es, v = .ref a ∧ H a = some (DctO a ep es) ∧ (ds.map (·.1.key)).Nodup ∧ REs K G ds es := by
  rcases h with ⟨a, ep, es, e, h1, h2⟩ | ⟨a, e, ep, es, h1, h2⟩
  · exact ⟨a, ep, es, e, g _ _ h1, h2⟩
  · exact ⟨a, ep, es, e, h1, h2⟩
theorem VW.int {i : Int} {v : V} (h : VW K G H (.int i) v) : v = .int i := by
  rcases h with h | ⟨a, e, h⟩
  · exact h
  · exact h.elim
theorem VW.bl {i : Bool} {v : V} (h : VW K G H (.bl i) v) : v = .bl i := by
  rcases h with h | ⟨a, e, h⟩
  · exact h
  · exact h.elim
theorem VW.str {i : Str} {v : V} (h : VW K G H (.str i) v) : v = .str i := by
  rcases h with h | ⟨a, e, h⟩
  · exact h
  · exact h.elim
theorem VW.non {v : V} (h : VW K G H .non v) : v = .non := by
  rcases h with h | ⟨a, e, h⟩
  · exact h
  · exact h.elim
theorem VWs.one {d : D} {vs : List V} (h : VWs K G H [d] vs) : ∃ v, vs = [v] ∧ VW K G H d v := by
  obtain ⟨v, r, e, h1, h2⟩ := h
  cases (show r = [] from h2)
  exact ⟨v, e, h1⟩
theorem VWs.two {d e : D} {vs : List V} (h : VWs K G H [d, e] vs) : ∃ v w, vs = [v, w] ∧ VW K G H d v ∧ VW K G H e w := by
  obtain ⟨v, r, e1, h1, h2⟩ := h
  obtain ⟨w, e2, h3⟩ := VWs.one h2
  subst e2
  exact ⟨v, w, e1, h1, h3⟩
theorem VWs.nil_inv {vs : List V} (h : VWs K G H [] vs) : vs = [] := h
theorem VWs.of_RVs : ∀ {ds : List D} {vs : List V}, RVs K G ds vs → VWs K G H ds vs
  | [], _, h => h
  | d :: ds, _, ⟨v, r, e, h1, h2⟩ => ⟨v, r, e, .inl h1, VWs.of_RVs h2⟩
end


def rD2 (K : KW) (o : Op) (b : Bool) : R2 := fun x y H Q => ∃ (G : Hp) (d1 d2 d : D), Same G H ∧ VW K G H d1 x ∧ VW K G H d2 y ∧ ap o [d1, d2] = some d ∧ OpPost K G H b d Q
def rD1 (K : KW) (o : Op) (b : Bool) : V → Hp → VK → Prop := fun x H Q => ∃ (G : Hp) (d1 d : D), Same G H ∧ VW K G H d1 x ∧ ap o [d1] = some d ∧ OpPost K G H b d Q
def rDn (K : KW) (o : Op) (b : Bool) : List V → Hp → VK → Prop := fun xs H Q => ∃ (G : Hp) (ds : List D) (d : D), Same G H ∧ VWs K G H ds xs ∧ ap o ds = some d ∧ OpPost K G H b d Q

theorem cmp_of {d : D} (h : d.cmp = true) : D.flat d = true ∧ D.dep d ≤ 60 := by
  unfold D.cmp at h
  simp only [Bool.and_eq_true, decide_eq_true_eq] at h
  exact h
theorem bl_post {K : KW} {G H : Hp} {b c : Bool} {Q : VK} (q : OpPost K G H b (.bl c) Q) : Q (.bl c) H := q.old _ (fun _ => rfl) rfl
theorem int_post {K : KW} {G H : Hp} {b : Bool} {i : Int} {Q : VK} (q : OpPost K G H b (.int i) Q) : Q (.int i) H := q.old _ (fun _ => rfl) rfl
theorem str_post {K : KW} {G H : Hp} {b : Bool} {i : Str} {Q : VK} (q : OpPost K G H b (.str i) Q) : Q (.str i) H := q.old _ (fun _ => rfl) rfl
theorem ite_some {α : Type} {c : Bool} {a b : α} (h : (if c = true then some a else none) = some b) : c = true ∧ a = b := by
  cases c with
  | true => exact ⟨rfl, Option.some.inj h⟩
  | false => cases h

section
variable {X : Cx}
/-! ### comparisons -/
theorem r2_eq (g : XG0 X) : OpR X (compareOp .Eq) (rD2 (kw X) .eq true) := by
  intro pins s σ H x y v u Q I rx ry h
  obtain ⟨G, d1, d2, d, gg, h1, h2, ha, q⟩ := h
  obtain ⟨hc, rfl⟩ := ite_some (c := d1.cmp && d2.cmp) (a := D.bl (D.eq d1 d2)) ha
  simp only [Bool.and_eq_true] at hc
  have hu := g.units
  obtain ⟨f1, k1⟩ := cmp_of hc.1
  obtain ⟨f2, k2⟩ := cmp_of hc.2
  exact rcAt_D I k1 (h1.rv gg) (h2.rv gg) rx ry f1 f2 (by omega) X.prog X.w X.xe _ ⟨.bl _, H, I, rfl, bl_post q⟩
theorem r2_ne (g : XG0 X) : OpR X (compareOp .NotEq) (rD2 (kw X) .ne true) := by
  intro pins s σ H x y v u Q I rx ry h
  obtain ⟨G, d1, d2, d, gg, h1, h2, ha, q⟩ := h
  obtain ⟨hc, rfl⟩ := ite_some (c := d1.cmp && d2.cmp && !d1.isDc && !d2.isDc) (a := D.bl (!D.eq d1 d2)) ha
  simp only [Bool.and_eq_true, Bool.not_eq_true'] at hc
  have hu := g.units
  obtain ⟨⟨⟨hc1, hc2⟩, n1⟩, n2⟩ := hc
  obtain ⟨f1, k1⟩ := cmp_of hc1
  obtain ⟨f2, k2⟩ := cmp_of hc2
  exact rcNe_D I k1 (h1.rv gg) (h2.rv gg) rx ry f1 f2 n1 n2 (by omega) X.prog X.w X.xe _ ⟨.bl _, H, I, rfl, bl_post q⟩
theorem two_ints {o : Op} {d1 d2 d : D} (f : Int → Int → Option D) (hf : ∀ i j, ap o [.int i, .int j] = f i j) (hn : ∀ d1 d2, (∀ i j, ¬ (d1 = .int i ∧ d2 = .int j)) → ap o [d1, d2] = none) (h : ap o [d1, d2] = some d) : ∃ i j, d1 = .int i ∧ d2 = .int j ∧ f i j = some d := by
  by_cases z : ∃ i j, d1 = .int i ∧ d2 = .int j
  · obtain ⟨i, j, rfl, rfl⟩ := z
    exact ⟨i, j, rfl, rfl, (hf i j).symm.trans h⟩
  · rw [hn d1 d2 fun i j q => z ⟨i, j, q⟩] at h
    cases h
theorem no2 {o : Op} (hn : ∀ d1 d2, (∀ i j, ¬ (d1 = D.int i ∧ d2 = D.int j)) → ap o [d1, d2] = none) : True := trivial
theorem r2_lt : OpR X (compareOp .Lt) (rD2 (kw X) .lt true) := by
  intro pins s σ H x y v u Q I rx ry h
  obtain ⟨G, d1, d2, d, gg, h1, h2, ha, q⟩ := h
  cases d1 <;> try (cases ha; done)
  cases d2 <;> try (cases ha; done)
  cases ha
  exact op_lt pins s σ H x y v u Q I rx ry ⟨_, _, h1.int, h2.int, bl_post q⟩
theorem r2_le : OpR X (compareOp .LtE) (rD2 (kw X) .le true) := by
  intro pins s σ H x y v u Q I rx ry h
  obtain ⟨G, d1, d2, d, gg, h1, h2, ha, q⟩ := h
  cases d1 <;> try (cases ha; done)
  cases d2 <;> try (cases ha; done)
  cases ha
  exact op_le pins s σ H x y v u Q I rx ry ⟨_, _, h1.int, h2.int, bl_post q⟩
theorem r2_gt : OpR X (compareOp .Gt) (rD2 (kw X) .gt true) := by
  intro pins s σ H x y v u Q I rx ry h
  obtain ⟨G, d1, d2, d, gg, h1, h2, ha, q⟩ := h
  cases d1 <;> try (cases ha; done)
  cases d2 <;> try (cases ha; done)
  cases ha
  exact op_gt pins s σ H x y v u Q I rx ry ⟨_, _, h1.int, h2.int, bl_post q⟩
theorem r2_ge : OpR X (compareOp .GtE) (rD2 (kw X) .ge true) := by
  intro pins s σ H x y v u Q I rx ry h
  obtain ⟨G, d1, d2, d, gg, h1, h2, ha, q⟩ := h
  cases d1 <;> try (cases ha; done)
  cases d2 <;> try (cases ha; done)
  cases ha
  exact op_ge pins s σ H x y v u Q I rx ry ⟨_, _, h1.int, h2.int, bl_post q⟩

/-! ### in -/
theorem one_sign {a : Str} {c : Nat} (h : a.cps.toList = [c]) : a = ⟨#[c]⟩ := by
  obtain ⟨cps⟩ := a
  have h' : cps.toList = [c] := h
  have : cps = #[c] := by
    apply Array.ext'
    simpa using h'
  rw [this]
/-- which of the raw items equal x -/
theorem in_fun {pins : List (Addr × Obj)} {σ : L2.St} {H : Hp} {s : Shared} {A : Around} (I : L2.Inv X pins σ H s) {x : V} {v : Value} {dx : D} (hx : RV (kw X) H dx x) (rx : RelV x v) (fx : D.flat dx = true) :
    ∀ {ds : List D} {vs : List V} {us : List Value}, RVs (kw X) H ds vs → Vals vs us → D.flat.flats ds = true → D.dep.deps ds ≤ 60 → A.units + 100 < cLine → ∃ e : Value → Bool, (∀ y ∈ us, SeqAt.EqAt A s y v (e y)) ∧ us.any e = inD dx ds := by
  intro ds vs us hr rr f dp hu
  have key : ∀ y ∈ us, ∃ d ∈ ds, SeqAt.EqAt A s y v (D.eq d dx) ∧ ∀ d' ∈ ds, ∀ w, RV (kw X) H d' w → RelV w y → d' = d := by
    intro y hy
    obtain ⟨j, hj, e⟩ := List.getElem_of_mem hy
    obtain ⟨w, h1, h2⟩ := ZS.at hr rr j (by simpa using hj)
    have h2' : RelV w y := by rw [← e]; simpa using h2
    have hl : ds.length = us.length := by rw [← rr.length, RVs.len hr]
    have hjd : j < ds.length := by omega
    have hm : ds.getD j .non ∈ ds := by
      rw [List.getD_eq_getElem?_getD, List.getElem?_eq_getElem hjd]
      exact List.getElem_mem hjd
    refine ⟨_, hm, eqAt_D I 60 (Nat.le_trans dep_mem dp) h1 hx h2' rx (flat_mem f) fx (by omega), fun d' hd' w' k1 k2 => ?_⟩
    have : w' = w := k2.inj h2'
    subst this
    obtain ⟨j', hj', e'⟩ := List.getElem_of_mem hd'
    have fd' : D.flat d' = true := by
      have := flat_mem (xs := ds) (j := j') f
      rwa [List.getD_eq_getElem?_getD, List.getElem?_eq_getElem hj', Option.getD_some, e'] at this
    exact RV.uniq I k1 h1 fd'
  classical
  let e : Value → Bool := fun y => if h : ∃ d ∈ ds, SeqAt.EqAt A s y v (D.eq d dx) ∧ ∃ w, RV (kw X) H d w ∧ RelV w y then D.eq (Classical.choose h) dx else false
  have he : ∀ (j : Nat) (hj : j < us.length), e us[j] = D.eq (ds.getD j .non) dx ∧ SeqAt.EqAt A s us[j] v (e us[j]) := by
    intro j hj
    obtain ⟨w, h1, h2⟩ := ZS.at hr rr j (by simpa using hj)
    have h2' : RelV w us[j] := by simpa using h2
    have hl : ds.length = us.length := by rw [← rr.length, RVs.len hr]
    have hjd : j < ds.length := by omega
    have hm : ds.getD j .non ∈ ds := by
      rw [List.getD_eq_getElem?_getD, List.getElem?_eq_getElem hjd]
      exact List.getElem_mem hjd
    have h3 := eqAt_D (A := A) I 60 (Nat.le_trans dep_mem dp) h1 hx h2' rx (flat_mem f) fx (by omega)
    have hex : ∃ d ∈ ds, SeqAt.EqAt A s us[j] v (D.eq d dx) ∧ ∃ w, RV (kw X) H d w ∧ RelV w us[j] := ⟨_, hm, h3, w, h1, h2'⟩
    have ee : e us[j] = D.eq (Classical.choose hex) dx := dif_pos hex
    obtain ⟨k1, k2, w', k3, k4⟩ := Classical.choose_spec hex
    have : w' = w := k4.inj h2'
    subst this
    have : Classical.choose hex = ds.getD j .non := by
      refine RV.uniq I k3 h1 ?_
      obtain ⟨j', hj', e'⟩ := List.getElem_of_mem k1
      have := flat_mem (xs := ds) (j := j') f
      rwa [List.getD_eq_getElem?_getD, List.getElem?_eq_getElem hj', Option.getD_some, e'] at this
    rw [this] at ee
    exact ⟨ee, by rw [ee]; exact h3⟩
  refine ⟨e, fun y hy => ?_, ?_⟩
  · obtain ⟨j, hj, ej⟩ := List.getElem_of_mem hy
    rw [← ej]
    exact (he j hj).2
  · have hl : ds.length = us.length := by rw [← rr.length, RVs.len hr]
    have hmap : us.map e = ds.map fun d => D.eq d dx := by
      apply List.ext_getElem (by simp [hl])
      intro j h1 h2
      have hj : j < us.length := by simpa using h1
      have hjd : j < ds.length := by omega
      rw [List.getElem_map, List.getElem_map, (he j hj).1, List.getD_eq_getElem?_getD, List.getElem?_eq_getElem hjd]
      rfl
    show us.any e = ds.any fun y => D.eq y dx
    have a1 : us.any e = (us.map e).any id := by rw [List.any_map]; rfl
    have a2 : (ds.any fun y => D.eq y dx) = (ds.map fun d => D.eq d dx).any id := by rw [List.any_map]; rfl
    rw [a1, a2, hmap]
theorem cmpl_of {ds : List D} (h : (D.lst ds).cmp = true) : D.flat.flats ds = true ∧ D.dep.deps ds ≤ 60 := by
  obtain ⟨h1, h2⟩ := cmp_of h
  refine ⟨h1, ?_⟩
  have : D.dep.deps ds + 1 ≤ 60 := h2
  omega
theorem r2_in (g : XG0 X) : OpR X (compareOp .In) (rD2 (kw X) .isin true) := by
  intro pins s σ H x y v u Q I rx ry h
  obtain ⟨G, d1, d2, d, gg, h1, h2, ha, q⟩ := h
  have hu := g.units
  have seqs : ∀ (ds : List D) (vs : List V) (us : List Value), RVs (kw X) G ds vs → Vals vs us → (d1.cmp && (D.lst ds).cmp) = true → ∃ e : Value → Bool, (∀ y ∈ us, SeqAt.EqAt X.A.in1 s y v (e y)) ∧ us.any e = inD d1 ds := fun ds vs us hr rr hc => by
    simp only [Bool.and_eq_true] at hc
    obtain ⟨f1, k1⟩ := cmp_of hc.1
    obtain ⟨f2, k2⟩ := cmpl_of hc.2
    exact in_fun I (h1.rv gg) rx f1 (RVs.mono gg hr) rr f2 k2 (by show X.A.units + 1 + 100 < cLine; omega)
  cases d2 with
  | str b =>
    cases d1 <;> try (cases ha; done)
    rename_i a
    have ha : (match a.cps.toList with
      | [c] => some (D.bl (decide (c ∈ b.cps.toList)))
      | _ => none) = some d := ha
    split at ha
    · rename_i c hc
      cases ha
      refine op_in_sign pins s σ H x y v u Q I rx ry ⟨c, b, ?_, h2.str, bl_post q⟩
      rw [h1.str, one_sign hc]
    · cases ha
  | lst ds =>
    have ha : (if (d1.cmp && (D.lst ds).cmp) = true then some (D.bl (inD d1 ds)) else none) = some d := by cases d1 <;> exact ha
    obtain ⟨hc, rfl⟩ := ite_some ha
    obtain ⟨a, vs, rfl, k1, k2⟩ := h2.lst gg
    cases ry
    obtain ⟨its, rv, pl, _⟩ := I.list k1
    obtain ⟨e, e1, e2⟩ := seqs ds vs its k2 rv hc
    exact SeqAt.in_listAt e pl.isList (fun y hy => e1 y (by simpa using hy)) ⟨.bl _, H, I, rfl, by rw [show its.toArray.any e = its.any e by simp, e2]; exact bl_post q⟩
  | tup ds =>
    have ha : (if (d1.cmp && (D.lst ds).cmp) = true then some (D.bl (inD d1 ds)) else none) = some d := by cases d1 <;> exact ha
    obtain ⟨hc, rfl⟩ := ite_some ha
    obtain ⟨a, vs, rfl, k1, k2⟩ := h2.tup gg
    cases ry
    obtain ⟨its, rv, pl, _⟩ := I.tuple k1
    obtain ⟨e, e1, e2⟩ := seqs ds vs its k2 rv hc
    exact SeqAt.in_tupleAt e pl (fun y hy => e1 y (by simpa using hy)) ⟨.bl _, H, I, rfl, by rw [show its.toArray.any e = its.any e by simp, e2]; exact bl_post q⟩
  | dct kvs =>
    have ha : (if d1.hk 8 = true then some (D.bl (dhas kvs d1)) else none) = some d := by cases d1 <;> exact ha
    obtain ⟨hc, rfl⟩ := ite_some ha
    obtain ⟨a, ep, es, rfl, k, hn, hr⟩ := h2.dct gg
    obtain ⟨xs, hm, rr, hz, hm2⟩ := Inv.dctN I k hn gg hr
    cases ry
    refine in_N (by omega) (RV.keyOk I (h1.rv gg) rx hc) hm2 hm ?_
    rw [row_has hc rr]
    exact ⟨.bl _, H, I.tok _, rfl, bl_post q⟩
  | _ => cases d1 <;> cases ha
theorem r2_notin (g : XG0 X) : OpR X (compareOp .NotIn) (rD2 (kw X) .notin true) := by
  intro pins s σ H x y v u Q I rx ry h
  obtain ⟨G, d1, d2, d, gg, h1, h2, ha, q⟩ := h
  have hu := g.units
  have seqs : ∀ (ds : List D) (vs : List V) (us : List Value), RVs (kw X) G ds vs → Vals vs us → (d1.cmp && (D.lst ds).cmp) = true → ∃ e : Value → Bool, (∀ y ∈ us, SeqAt.EqAt X.A.in1 s y v (e y)) ∧ us.any e = inD d1 ds := fun ds vs us hr rr hc => by
    simp only [Bool.and_eq_true] at hc
    obtain ⟨f1, k1⟩ := cmp_of hc.1
    obtain ⟨f2, k2⟩ := cmpl_of hc.2
    exact in_fun I (h1.rv gg) rx f1 (RVs.mono gg hr) rr f2 k2 (by show X.A.units + 1 + 100 < cLine; omega)
  cases d2 with
  | str b =>
    cases d1 <;> try (cases ha; done)
    rename_i a
    have ha : (match a.cps.toList with
      | [c] => some (D.bl (!decide (c ∈ b.cps.toList)))
      | _ => none) = some d := ha
    split at ha
    · rename_i c hc
      cases ha
      refine op_notIn_sign pins s σ H x y v u Q I rx ry ⟨c, b, ?_, h2.str, bl_post q⟩
      rw [h1.str, one_sign hc]
    · cases ha
  | lst ds =>
    have ha : (if (d1.cmp && (D.lst ds).cmp) = true then some (D.bl (!inD d1 ds)) else none) = some d := by cases d1 <;> exact ha
    obtain ⟨hc, rfl⟩ := ite_some ha
    obtain ⟨a, vs, rfl, k1, k2⟩ := h2.lst gg
    cases ry
    obtain ⟨its, rv, pl, _⟩ := I.list k1
    obtain ⟨e, e1, e2⟩ := seqs ds vs its k2 rv hc
    exact SeqAt.notIn_listAt e pl.isList (fun y hy => e1 y (by simpa using hy)) ⟨.bl _, H, I, rfl, by rw [show its.toArray.any e = its.any e by simp, e2]; exact bl_post q⟩
  | tup ds =>
    have ha : (if (d1.cmp && (D.lst ds).cmp) = true then some (D.bl (!inD d1 ds)) else none) = some d := by cases d1 <;> exact ha
    obtain ⟨hc, rfl⟩ := ite_some ha
    obtain ⟨a, vs, rfl, k1, k2⟩ := h2.tup gg
    cases ry
    obtain ⟨its, rv, pl, _⟩ := I.tuple k1
    obtain ⟨e, e1, e2⟩ := seqs ds vs its k2 rv hc
    exact SeqAt.notIn_tupleAt e pl (fun y hy => e1 y (by simpa using hy)) ⟨.bl _, H, I, rfl, by rw [show its.toArray.any e = its.any e by simp, e2]; exact bl_post q⟩
  | dct kvs =>
    have ha : (if d1.hk 8 = true then some (D.bl (!dhas kvs d1)) else none) = some d := by cases d1 <;> exact ha
    obtain ⟨hc, rfl⟩ := ite_some ha
    obtain ⟨a, ep, es, rfl, k, hn, hr⟩ := h2.dct gg
    obtain ⟨xs, hm, rr, hz, hm2⟩ := Inv.dctN I k hn gg hr
    cases ry
    refine notIn_N (by omega) (RV.keyOk I (h1.rv gg) rx hc) hm2 hm ?_
    rw [row_has hc rr]
    exact ⟨.bl _, H, I.tok _, rfl, bl_post q⟩
  | _ => cases d1 <;> cases ha

/-! ### arithmetic, concatenation -/
theorem cat_lists {prog : Program} {w : World} {A : Around} {E : Value → Shared → Prop} {s : Shared} {p p2 : Addr} {us ws : List Value} {Q : Value → Shared → Prop} (h1 : s.heap.IsList p us.toArray) (h2 : s.heap.IsList p2 ws.toArray) (hsz : us.length + ws.length ≤ sizeLine)
    (h : Q (.ref s.heap.objs.size) { s with heap := s.heap.push { cls := .type "list", data := .seq (us ++ ws).toArray } }) : wpAny (model prog w) A (binaryOp .Add (.ref p) (.ref p2)) Q E s := by
  obtain ⟨⟨c1, d1, t1, sl1⟩, g1, hc1, n1, hd1⟩ := id h1
  obtain ⟨⟨c2, d2, t2, sl2⟩, g2, hc2, n2, hd2⟩ := id h2
  simp only at hc1 hd1 hc2 hd2
  subst hc1 hd1 hc2 hd2
  refine PySem.concat_meets ⟨_, g1, rfl⟩ ⟨_, g2, rfl⟩ PySem.noFill_list_add PySem.seq_list_add PySem.F.slot_list_add PySem.F.entry_list_add (PySem.F.args_list_add_2 _ _)
    (PyProof.Rows.list_addW p p2 us.toArray ws.toArray n1 n2 d1 d2 sl1 sl2 (by simpa using hsz)) ⟨g1, g2, ?_⟩
  have e : us.toArray ++ ws.toArray = (us ++ ws).toArray := by simp
  rw [e]
  exact h
theorem line_eq : line = sizeLine := by rw [sizeLine_eq]; rfl
theorem r2_add : OpR X (binaryOp .Add) (rD2 (kw X) .add true) := by
  intro pins s σ H x y v u Q I rx ry h
  obtain ⟨G, d1, d2, d, gg, h1, h2, ha, q⟩ := h
  cases d1 <;> cases d2 <;> try (cases ha; done)
  case int.int i j =>
    cases ha
    exact op_add pins s σ H x y v u Q I rx ry ⟨_, _, h1.int, h2.int, int_post q⟩
  case str.str a b =>
    have ha : (if a.length + b.length ≤ line then some (D.str (a ++ b)) else none) = some d := ha
    split at ha
    · rename_i hz
      cases ha
      exact op_add_str pins s σ H x y v u Q I rx ry ⟨_, _, h1.str, h2.str, by rw [← line_eq]; exact hz, str_post q⟩
    · cases ha
  case lst.lst a b =>
    have ha : (if a.length + b.length ≤ line then some (D.lst (a ++ b)) else none) = some d := ha
    split at ha
    · rename_i hz
      cases ha
      obtain ⟨p, vs, rfl, k1, k2⟩ := h1.lst gg
      obtain ⟨p2, vs2, rfl, k3, k4⟩ := h2.lst gg
      cases rx
      cases ry
      obtain ⟨its, r, pl, hl⟩ := I.list k1
      obtain ⟨its2, r2, pl2, hl2⟩ := I.list k3
      have l1 := r.length
      have l2 := r2.length
      have l3 := RVs.len k2
      have l4 := RVs.len k4
      have hz2 : a.length + b.length ≤ sizeLine := by rw [← line_eq]; exact hz
      refine cat_lists pl.isList pl2.isList (by omega) ?_
      refine ⟨.ref s.heap.objs.size, _, I.laid (t' := s.toks) (o := .lst (vs ++ vs2)) (fun _ _ z => Heap.get?_push_of_some _ z) (Nat.le_refl _) ?_, rfl, q.new _ _ (I.hok.fresh (Nat.le_refl _)) ⟨_, rfl, RVs.app k2 k4⟩⟩
      exact ⟨by rw [List.length_append]; omega, its ++ its2, 0, r.append r2, Heap.get?_push_size _ rfl⟩
    · cases ha
  case tup.tup a b =>
    have ha : (if a.length + b.length ≤ line then some (D.tup (a ++ b)) else none) = some d := ha
    split at ha
    · rename_i hz
      cases ha
      obtain ⟨p, vs, rfl, k1, k2⟩ := h1.tup gg
      obtain ⟨p2, vs2, rfl, k3, k4⟩ := h2.tup gg
      refine op_catA pins s σ H _ _ v u Q I rx ry ⟨p, p2, vs, vs2, rfl, rfl, k1, k3, ?_, fun z => ?_, fun z1 z2 => ?_, fun z1 z2 t ht => ?_⟩
      · rw [RVs.len k2, RVs.len k4, ← line_eq]
        exact hz
      · subst z
        have : a = [] := List.length_eq_zero_iff.mp (by rw [← RVs.len k2]; rfl)
        subst this
        exact q.old _ (fun _ => rfl) h2.tupRV
      · subst z2
        have : b = [] := List.length_eq_zero_iff.mp (by rw [← RVs.len k4]; rfl)
        subst this
        rw [List.append_nil] at q
        exact q.old _ (fun _ => rfl) h1.tupRV
      · exact q.new t _ ht ⟨_, rfl, RVs.app k2 k4⟩
    · cases ha

theorem r2_sub : OpR X (binaryOp .Sub) (rD2 (kw X) .sub true) := by
  intro pins s σ H x y v u Q I rx ry h
  obtain ⟨G, d1, d2, d, gg, h1, h2, ha, q⟩ := h
  cases d1 <;> try (cases ha; done)
  cases d2 <;> try (cases ha; done)
  cases ha
  exact op_sub pins s σ H x y v u Q I rx ry ⟨_, _, h1.int, h2.int, int_post q⟩
theorem r2_mul : OpR X (binaryOp .Mult) (rD2 (kw X) .mul true) := by
  intro pins s σ H x y v u Q I rx ry h
  obtain ⟨G, d1, d2, d, gg, h1, h2, ha, q⟩ := h
  cases d1 <;> try (cases ha; done)
  cases d2 <;> try (cases ha; done)
  rename_i i j
  obtain ⟨hc, rfl⟩ := ite_some (c := mulOk i j) (a := D.int (i * j)) ha
  refine op_mul pins s σ H x y v u Q I rx ry ⟨_, _, h1.int, h2.int, ?_, int_post q⟩
  unfold mulOk at hc
  simp only [Bool.or_eq_true, Bool.and_eq_true, decide_eq_true_eq] at hc
  exact hc
theorem r2_mod : OpR X (binaryOp .Mod) (rD2 (kw X) .mod true) := by
  intro pins s σ H x y v u Q I rx ry h
  obtain ⟨G, d1, d2, d, gg, h1, h2, ha, q⟩ := h
  cases d1 <;> try (cases ha; done)
  cases d2 <;> try (cases ha; done)
  rename_i i j
  have ha : (if j = 0 then none else some (D.int (i.fmod j))) = some d := ha
  split at ha
  · cases ha
  · rename_i hj
    cases ha
    exact op_modN pins s σ H x y v u Q I rx ry ⟨_, _, h1.int, h2.int, hj, int_post q⟩
theorem r2_fdiv : OpR X (binaryOp .FloorDiv) (rD2 (kw X) .fdiv true) := by
  intro pins s σ H x y v u Q I rx ry h
  obtain ⟨G, d1, d2, d, gg, h1, h2, ha, q⟩ := h
  cases d1 <;> try (cases ha; done)
  cases d2 <;> try (cases ha; done)
  rename_i i j
  obtain ⟨hc, rfl⟩ := ite_some (c := divOk j) (a := D.int (i.fdiv j)) ha
  refine op_fdivN pins s σ H x y v u Q I rx ry ⟨_, _, h1.int, h2.int, ?_, int_post q⟩
  unfold divOk at hc
  simp only [Bool.and_eq_true, bne_iff_ne, decide_eq_true_eq] at hc
  exact hc
theorem r2_pow : OpR X (binaryOp .Pow) (rD2 (kw X) .pow true) := by
  intro pins s σ H x y v u Q I rx ry h
  obtain ⟨G, d1, d2, d, gg, h1, h2, ha, q⟩ := h
  cases d1 <;> try (cases ha; done)
  cases d2 <;> try (cases ha; done)
  rename_i i j
  obtain ⟨hc, rfl⟩ := ite_some (c := powOk i j) (a := D.int (i ^ j.toNat)) ha
  refine op_pow pins s σ H x y v u Q I rx ry ⟨_, _, h1.int, h2.int, ?_, int_post q⟩
  unfold powOk at hc
  simp only [Bool.and_eq_true, decide_eq_true_eq] at hc
  exact ⟨hc.1.1, hc.1.2, hc.2⟩
theorem r1_neg : UnR X (unaryOp .USub) (rD1 (kw X) .neg true) := by
  intro pins s σ H x v Q I rx h
  obtain ⟨G, d1, d, gg, h1, ha, q⟩ := h
  cases d1 <;> try (cases ha; done)
  cases ha
  exact un_neg pins s σ H x v Q I rx ⟨_, h1.int, int_post q⟩
theorem r2_isN : OpR X (compareOp .Is) (fun x y H Q => y = .non ∧ rD1 (kw X) .isN true x H Q) := by
  intro pins s σ H x y v u Q I rx ry ⟨hy, h⟩
  obtain ⟨G, d1, d, gg, h1, ha, q⟩ := h
  cases ha
  refine op_isN pins s σ H x y v u Q I rx ry ⟨hy, ?_⟩
  have e : decide (x = .non) = d1.isNon := by
    cases d1 with
    | non => rw [h1.non]; rfl
    | bl b => rw [h1.bl]; rfl
    | int b => rw [h1.int]; rfl
    | str b => rw [h1.str]; rfl
    | tup b => obtain ⟨a, vs, rfl, _⟩ := h1.tup gg; rfl
    | lst b => obtain ⟨a, vs, rfl, _⟩ := h1.lst gg; rfl
    | dct b => obtain ⟨a, _, _, rfl, _⟩ := h1.dct gg; rfl
  rw [e]
  exact bl_post q
theorem r2_notN : OpR X (compareOp .IsNot) (fun x y H Q => y = .non ∧ rD1 (kw X) .notN true x H Q) := by
  intro pins s σ H x y v u Q I rx ry ⟨hy, h⟩
  obtain ⟨G, d1, d, gg, h1, ha, q⟩ := h
  cases ha
  refine op_notN pins s σ H x y v u Q I rx ry ⟨hy, ?_⟩
  have e : (!decide (x = .non)) = !d1.isNon := by
    cases d1 with
    | non => rw [h1.non]; rfl
    | bl b => rw [h1.bl]; rfl
    | int b => rw [h1.int]; rfl
    | str b => rw [h1.str]; rfl
    | tup b => obtain ⟨a, vs, rfl, _⟩ := h1.tup gg; rfl
    | lst b => obtain ⟨a, vs, rfl, _⟩ := h1.lst gg; rfl
    | dct b => obtain ⟨a, _, _, rfl, _⟩ := h1.dct gg; rfl
  rw [e]
  exact bl_post q

theorem is_bl {K : KW} {G H : Hp} {d : D} {x : V} {v : Value} {b : Bool} (gg : Same G H) (h : VW K G H d x) (r : RelV x v) : plainIs v (.bool b) = true ∧ (v == Value.bool b) = d.isB b := by
  cases d with
  | non => rw [h.non] at r; cases r; exact ⟨rfl, rfl⟩
  | bl c => rw [h.bl] at r; cases r; exact ⟨rfl, by cases b <;> cases c <;> rfl⟩
  | int i => rw [h.int] at r; obtain ⟨t, rfl⟩ := r; exact ⟨rfl, rfl⟩
  | str i => rw [h.str] at r; obtain ⟨t, rfl⟩ := r; exact ⟨rfl, rfl⟩
  | tup i => obtain ⟨a, vs, rfl, _⟩ := h.tup gg; cases r; exact ⟨rfl, rfl⟩
  | lst i => obtain ⟨a, vs, rfl, _⟩ := h.lst gg; cases r; exact ⟨rfl, rfl⟩
  | dct i => obtain ⟨a, _, _, rfl, _⟩ := h.dct gg; cases r; exact ⟨rfl, rfl⟩
theorem r2_isB {b : Bool} : OpR X (compareOp .Is) (fun x y H Q => y = .bl b ∧ rD1 (kw X) (.isB b) true x H Q) := by
  intro pins s σ H x y v u Q I rx ry ⟨hy, h⟩
  obtain ⟨G, d1, d, gg, h1, ha, q⟩ := h
  cases ha
  subst hy
  cases ry
  obtain ⟨p1, p2⟩ := is_bl (b := b) gg h1 rx
  exact wpAny_is_plain p1 ⟨.bl (d1.isB b), H, I, by rw [p2]; rfl, bl_post q⟩
theorem r2_isntB {b : Bool} : OpR X (compareOp .IsNot) (fun x y H Q => y = .bl b ∧ rD1 (kw X) (.isntB b) true x H Q) := by
  intro pins s σ H x y v u Q I rx ry ⟨hy, h⟩
  obtain ⟨G, d1, d, gg, h1, ha, q⟩ := h
  cases ha
  subst hy
  cases ry
  obtain ⟨p1, p2⟩ := is_bl (b := b) gg h1 rx
  exact wpAny_isNot_plain p1 ⟨.bl (!d1.isB b), H, I, by rw [p2]; rfl, bl_post q⟩

/-! ### truth -/
theorem tru_D {H G : Hp} {d : D} {x : V} {b : Bool} {K : KW} (gg : Same G H) (h : VW K G H d x) (e : d.tru = some b) : TruV K.K x H b := by
  cases d with
  | non => rw [h.non]; cases e; rfl
  | bl c => rw [h.bl]; cases e; rfl
  | int c => rw [h.int]; cases e; rfl
  | str c =>
    rw [h.str]
    have e : (if c.length ≤ line then some (c.length != 0) else none) = some b := e
    split at e
    · rename_i hz
      cases e
      refine ⟨by rw [← line_eq]; exact hz, ?_⟩
      by_cases z : c.length = 0
      · simp [z]
      · have h1 : (c.length != 0) = true := by simpa using z
        have h2 : ((c.length : Int) != 0) = true := by simp; omega
        rw [h1, h2]
    · cases e
  | lst c =>
    obtain ⟨a, vs, rfl, k1, k2⟩ := h.lst gg
    cases e
    refine .inl ⟨vs, k1, ?_⟩
    have := RVs.len k2
    cases c <;> cases vs <;> simp_all
  | tup c =>
    obtain ⟨a, vs, rfl, k1, k2⟩ := h.tup gg
    cases e
    refine .inr (.inl ⟨vs, k1, ?_⟩)
    have := RVs.len k2
    cases c <;> cases vs <;> simp_all
  | dct c =>
    cases e

/-! ### subscripts, slices -/
theorem ixD_atI {α : Type} {xs : List α} {i : Int} : ixD xs i = atI xs i := by
  unfold ixD atI ixN
  by_cases h1 : 0 ≤ i
  · rw [if_pos h1, if_pos h1]
    by_cases h2 : i < xs.length
    · rw [if_pos h2, if_pos h2]; rfl
    · rw [if_neg h2, if_neg h2]; rfl
  · rw [if_neg h1, if_neg h1]
    by_cases h2 : -(xs.length : Int) ≤ i
    · rw [if_pos h2, if_pos h2]; rfl
    · rw [if_neg h2, if_neg h2]; rfl
theorem ixD_get {α β : Type} {xs : List α} {ys : List β} {i : Int} {x : α} (hl : ys.length = xs.length) (h : ixD xs i = some x) : ∃ j : Nat, xs[j]? = some x ∧ ∀ y, ys[j]? = some y → ixD ys i = some y := by
  unfold ixD at h ⊢
  rw [hl]
  by_cases h1 : 0 ≤ i
  · simp only [if_pos h1] at h ⊢
    by_cases h2 : i < xs.length
    · simp only [if_pos h2] at h ⊢
      exact ⟨_, h, fun y hy => hy⟩
    · simp only [if_neg h2] at h
      cases h
  · simp only [if_neg h1] at h ⊢
    by_cases h2 : -(xs.length : Int) ≤ i
    · simp only [if_pos h2] at h ⊢
      exact ⟨_, h, fun y hy => hy⟩
    · simp only [if_neg h2] at h
      cases h
theorem subTail {prog : Program} {w : World} {A : Around} {E : Value → Shared → Prop} {s : Shared} {value slice : Expr} {o i : Value} {T id : String} {Q : Value → Shared → Prop} (hT : s.TypeIs o T)
    (hl : typeLookup (.type T) "__getitem__" = pure (some (.builtin id))) (hs : subscripted slice false o i = operate [o, i] (getItem o i)) (h : wpAny (model prog w) A (getItem o i) Q E s) :
    wpAny (model prog w) A (PyProof.Rows.subscriptTail value slice o i) Q E s := by
  unfold PyProof.Rows.subscriptTail
  refine wpAny_bind ?_
  rw [getitemInPython_of_ne hT.not_modules]
  refine wpAny_bind (wpAny_specialOf hT hl ?_)
  have fin : wpAny (model prog w) A (subscripted slice false o i) (fun r s₃ => wpAny (model prog w) A (letTemporaryGo value o r >>= fun _ => pure r) Q E s₃) E s := by
    rw [hs]
    exact wpAny_operating (wpAny_mono h (fun r s₃ h₃ => wpAny_bind (wpAny_letTemporaryGo (wpAny_pure h₃))) fun _ _ x => x)
  first
    | exact wpAny_pure (wpAny_bind fin)
    | exact wpAny_bind (wpAny_pure (wpAny_bind fin))
    | exact wpAny_bind fin
theorem ix_D (g : XG0 X) : IxR X (rD2 (kw X) .ix false) := by
  intro value slice pins s σ H x y v u Q I rx ry h hs
  obtain ⟨G, d1, d2, d, gg, h1, h2, ha, q⟩ := h
  have hu := g.units
  by_cases hdc : ∃ kvs, d1 = .dct kvs
  · obtain ⟨kvs, rfl⟩ := hdc
    have ha : (if d2.hk 8 = true then dget kvs d2 else none) = some d := by cases d2 <;> exact ha
    split at ha
    · rename_i hc
      obtain ⟨a, ep, es, rfl, k, hn, hr⟩ := h1.dct gg
      obtain ⟨xs, hm, rr, hz, hm2⟩ := Inv.dctN I k hn gg hr
      cases rx
      obtain ⟨p, v0, e1, q1, q2⟩ := (row_get hc rr).1 d ha
      have hv := q.old _ (fun z => nomatch z) q1
      exact subTail hm.typeIs slot_dict_getitem.lookup hs (getItem_N (by omega) (RV.keyOk I (h2.rv gg) ry hc) hm e1 ⟨v0, H, I.tok _, q2, hv⟩)
    · cases ha
  cases d2 <;> cases d1 <;> try (first | (cases ha; done) | exact absurd ⟨_, rfl⟩ hdc)
  case int.str i z =>
    have ha : (if z.length ≤ line then (ixD z.cps.toList i).map chr1 else none) = some d := ha
    split at ha
    · rename_i hz
      cases e : ixD z.cps.toList i with
      | none => rw [e] at ha; cases ha
      | some c =>
        rw [e] at ha
        cases ha
        exact ix_str value slice pins s σ H x y v u Q I rx ry ⟨z, i, c, h1.str, h2.int, by rw [← line_eq]; exact hz, by rw [← ixD_atI]; exact e, str_post q⟩ hs
    · cases ha
  case int.lst i ds =>
    have ha : ixD ds i = some d := ha
    obtain ⟨a, vs, e, k1, k2⟩ := h1.lst gg
    obtain ⟨j, e1, e2⟩ := ixD_get (RVs.len k2) ha
    obtain ⟨w, e3, k3⟩ := RVs.get k2 e1
    exact ix_list value slice pins s σ H x y v u Q I rx ry ⟨a, vs, i, w, e, h2.int, k1, by rw [← ixD_atI]; exact e2 w e3, q.old w (fun z => nomatch z) k3⟩ hs
  case int.tup i ds =>
    have ha : ixD ds i = some d := ha
    obtain ⟨a, vs, e, k1, k2⟩ := h1.tup gg
    obtain ⟨j, e1, e2⟩ := ixD_get (RVs.len k2) ha
    obtain ⟨w, e3, k3⟩ := RVs.get k2 e1
    exact ix_tup value slice pins s σ H x y v u Q I rx ry ⟨a, vs, i, w, e, h2.int, k1, by rw [← ixD_atI]; exact e2 w e3, q.old w (fun z => nomatch z) k3⟩ hs

theorem slEnd_eq (n d : Nat) (o : Option Int) : slEnd n d o = HT.sIx n d o := by cases o <;> rfl
theorem cutD_V {α : Type} (xs : List α) (lo hi : Option Int) : cutD xs lo hi = (xs.drop (HT.sIx xs.length 0 lo)).take (HT.sIx xs.length xs.length hi - HT.sIx xs.length 0 lo) := by
  unfold cutD
  rw [slEnd_eq, slEnd_eq]
theorem RVs.cut {K : KW} {G : Hp} {ds : List D} {vs : List V} (h : RVs K G ds vs) (lo hi : Option Int) : RVs K G (cutD ds lo hi) (cutV vs lo hi) := by
  rw [cutD_V]
  unfold cutV
  rw [RVs.len h]
  exact RVs.take _ (RVs.drop _ h)
def rSlD (K : KW) : V → Option Int → Option Int → Hp → VK → Prop := fun x lo hi H Q => ∃ (G : Hp) (d1 d : D), Same G H ∧ VW K G H d1 x ∧ slD d1 lo hi = some d ∧ OpPost K G H true d Q
theorem sl_D : SlR X (rSlD (kw X)) := by
  intro pins s σ H x v vl vu lo hi sl Q I rx hs pl pu h
  obtain ⟨G, d1, d, gg, h1, ha, q⟩ := h
  cases d1 <;> try (cases ha; done)
  case str z =>
    have ha : (if z.length ≤ line then some (D.str (cutS z lo hi)) else none) = some d := ha
    split at ha
    · rename_i hz
      cases ha
      have e : cutS z lo hi = L2.cutS z lo hi := by
        unfold cutS L2.cutS
        rw [slEnd_eq, slEnd_eq]
      exact sl_str pins s σ H x v vl vu lo hi sl Q I rx hs pl pu ⟨z, h1.str, by rw [← line_eq]; exact hz, by rw [← e]; exact str_post q⟩
    · cases ha
  case lst ds =>
    cases ha
    obtain ⟨a, vs, e, k1, k2⟩ := h1.lst gg
    exact sl_list pins s σ H x v vl vu lo hi sl Q I rx hs pl pu ⟨a, vs, e, k1, fun p hp => q.new p _ hp ⟨_, rfl, k2.cut lo hi⟩⟩
  case tup ds =>
    cases ha
    obtain ⟨a, vs, e, k1, k2⟩ := h1.tup gg
    refine sl_tupA pins s σ H x v vl vu lo hi sl Q I rx hs pl pu ⟨a, vs, e, k1, fun hw => ?_, fun _ p hp => q.new p _ hp ⟨_, rfl, k2.cut lo hi⟩⟩
    have e2 : cutD ds lo hi = ds := by
      rw [cutD_V, ← RVs.len k2, hw.1, hw.2, List.drop_zero, Nat.sub_zero, RVs.len k2, List.take_length]
    rw [e2] at q
    have k := h1.tupRV
    rw [e] at k
    exact q.old _ (fun _ => rfl) k

/-! ### built-ins -/
theorem sq_ty {K : KW} {H : Hp} {a : Addr} {xs : List V} (h : SqL K.K H a xs) : TyX K.K H (.ref a) (.type "list") := by
  rcases h with (h | ⟨o, h⟩) | ⟨o, its, n, h1, h2, _⟩
  · exact .base (.lst h)
  · exact .base (.frz h)
  · exact .kList h1 h2
theorem sqt_ty {K : KW} {H : Hp} {a : Addr} {xs : List V} (h : SqT K.K H a xs) : TyX K.K H (.ref a) (.type "tuple") := by
  rcases h with (h | ⟨o, h⟩) | ⟨o, its, n, h1, h2, _⟩
  · exact .base (.tup h)
  · exact .fTuple h
  · exact .kTuple h1 h2
theorem kit_all : ∀ (k : DK) (u : Ty), kitB k.name u.name = some (tyOk u k) := by
  intro k u
  cases k <;> cases u <;> decide +kernel
theorem ty_D {K : KW} {G H : Hp} {d : D} {x : V} (gg : Same G H) (h : VW K G H d x) (hd : d.isDc = false) : TyX K.K H x (.type d.dk.name) := by
  cases d with
  | non => rw [h.non]; exact .base .non
  | bl b => rw [h.bl]; exact .base (.bl b)
  | int b => rw [h.int]; exact .base (.int b)
  | str b => rw [h.str]; exact .base (.str b)
  | lst b => obtain ⟨a, vs, rfl, k, _⟩ := h.lst gg; exact sq_ty k
  | tup b => obtain ⟨a, vs, rfl, k, _⟩ := h.tup gg; exact sqt_ty k
  | dct b => cases hd
def rIsiD (K : KW) (t : Ty) : List V → Hp → VK → Prop := fun xs H Q => ∃ x, xs = [x, .ty t.name] ∧ rD1 K (.isi t) true x H Q
theorem cr_isi (t : Ty) : CallR X (.builtin "isinstance") (rIsiD (kw X) t) := by
  intro pins s σ H xs us Q I r h
  obtain ⟨x, rfl, G, d1, d, gg, h1, ha, q⟩ := h
  cases ha
  cases hd : d1.isDc with
  | false => exact call_isi pins s σ H _ us Q I r ⟨x, .ty t.name, .type d1.dk.name, .type t.name, _, rfl, .ty _, ty_D gg h1 hd, kit_ty (kit_all d1.dk t), bl_post q⟩
  | true =>
    cases d1 <;> try (cases hd; done)
    case dct kvs =>
      obtain ⟨a, ep, es, rfl, k, _⟩ := h1.dct gg
      obtain ⟨_, _, o, ds, ho, hx, _⟩ := Inv.dctAt I k
      obtain ⟨u1, u2, rfl, r1, r2⟩ := vals2 r
      cases (show u1 = Value.ref a from r1)
      cases (show u2 = Value.type t.name from r2)
      exact PySem.W.kia_one PySem.W.kitx_dict I.kIn ⟨o, ho, hx.1⟩ (kit_ty (kit_all .dct t)) (fun z => nomatch z) fun tk => ⟨.bl _, H, I.tok tk, rfl, bl_post q⟩
theorem one_arg {K : KW} {G H : Hp} {ds : List D} {d : D} {xs : List V} {o : Op} (ho : ∀ ds, ap o ds = match ds with
    | [a] => o.ap1 shownD a
    | [a, b] => o.ap2 a b
    | _ => none) (h2 : ∀ a b, o.ap2 a b = none) (h1 : VWs K G H ds xs) (ha : ap o ds = some d) : ∃ d1 x, ds = [d1] ∧ xs = [x] ∧ VW K G H d1 x ∧ o.ap1 shownD d1 = some d := by
  rw [ho] at ha
  match ds, h1, ha with
  | [], _, ha => cases ha
  | [a], h1, ha =>
    obtain ⟨x, e, k⟩ := VWs.one h1
    exact ⟨a, x, rfl, e, k, ha⟩
  | [a, b], _, ha =>
    have ha : o.ap2 a b = some d := ha
    rw [h2 a b] at ha
    cases ha
  | _ :: _ :: _ :: _, _, ha => cases ha
theorem two_arg {K : KW} {G H : Hp} {ds : List D} {d : D} {xs : List V} {o : Op} (ho : ∀ ds, ap o ds = match ds with
    | [a] => o.ap1 shownD a
    | [a, b] => o.ap2 a b
    | _ => none) (h2 : ∀ a, o.ap1 shownD a = none) (h1 : VWs K G H ds xs) (ha : ap o ds = some d) : ∃ d1 d2 x y, ds = [d1, d2] ∧ xs = [x, y] ∧ VW K G H d1 x ∧ VW K G H d2 y ∧ o.ap2 d1 d2 = some d := by
  rw [ho] at ha
  match ds, h1, ha with
  | [], _, ha => cases ha
  | [a, b], h1, ha =>
    obtain ⟨x, y, e, k, k'⟩ := VWs.two h1
    exact ⟨a, b, x, y, rfl, e, k, k', ha⟩
  | [a], _, ha =>
    have ha : o.ap1 shownD a = some d := ha
    rw [h2 a] at ha
    cases ha
  | _ :: _ :: _ :: _, _, ha => cases ha
theorem cr_len : CallR X (.builtin "len") (rDn (kw X) .len true) := by
  intro pins s σ H xs us Q I r h
  obtain ⟨G, ds, d, gg, h1, ha, q⟩ := h
  obtain ⟨d1, x, rfl, rfl, k1, hb⟩ := one_arg (o := .len) (fun _ => rfl) (fun _ _ => rfl) h1 ha
  clear ha
  have ha := hb
  clear hb
  cases d1 with
  | str z =>
    have ha : (if z.length ≤ line then some (D.int z.length) else none) = some d := ha
    split at ha
    · rename_i hz
      cases ha
      rw [k1.str] at r
      refine call_len_str pins s σ H _ us Q I r ⟨z, rfl, by rw [← line_eq]; exact hz, int_post q⟩
    · cases ha
  | lst ds =>
    cases ha
    obtain ⟨a, vs, rfl, k, k2⟩ := k1.lst gg
    exact call_len_seq pins s σ H _ us Q I r ⟨a, vs, rfl, .inl k, by rw [RVs.len k2]; exact int_post q⟩
  | tup ds =>
    cases ha
    obtain ⟨a, vs, rfl, k, k2⟩ := k1.tup gg
    exact call_len_seq pins s σ H _ us Q I r ⟨a, vs, rfl, .inr k, by rw [RVs.len k2]; exact int_post q⟩
  | dct ds =>
    cases ha
    obtain ⟨a, ep, es, rfl, k, hn, hr⟩ := k1.dct gg
    obtain ⟨xs, hm, rr, hz, hm2⟩ := Inv.dctN I k hn gg hr
    obtain ⟨u, rfl, ru⟩ := vals1 r
    cases (show u = Value.ref a from ru)
    refine len_N hm2 hm hz fun t tk => ⟨.int ds.length, H, I.tok tk, ?_, int_post q⟩
    rw [rr.length]
    exact ⟨t, rfl⟩
  | _ => cases ha
theorem bools_of {K : KW} {G : Hp} : ∀ {ds : List D} {vs : List V} {bs : List Bool}, RVs K G ds vs → D.bools ds = some bs → vs = bs.map V.bl
  | [], _, _, h, e => by
    cases (show _ = [] from h)
    cases e
    rfl
  | d :: ds, _, bs, ⟨v, r, z, h1, h2⟩, e => by
    subst z
    cases d with
    | bl b =>
      have e : (D.bools ds).map (b :: ·) = some bs := e
      cases k : D.bools ds with
      | none => rw [k] at e; cases e
      | some cs =>
        rw [k] at e
        cases e
        rw [bools_of h2 k, show v = V.bl b from h1]
        rfl
    | _ => cases e
theorem cr_all (g : XG X) : CallR X (.builtin "all") (rDn (kw X) .all true) := by
  intro pins s σ H xs us Q I r h
  obtain ⟨G, ds, d, gg, h1, ha, q⟩ := h
  obtain ⟨d1, x, rfl, rfl, k1, hb⟩ := one_arg (o := .all) (fun _ => rfl) (fun _ _ => rfl) h1 ha
  clear ha
  have ha := hb
  clear hb
  cases d1 <;> try (cases ha; done)
  case lst es =>
  have ha : ((D.bools es).map fun bs => D.bl (bs.all id)) = some d := ha
  cases k : D.bools es with
  | none => rw [k] at ha; cases ha
  | some bs =>
    rw [k] at ha
    cases ha
    obtain ⟨a, vs, rfl, k3, k2⟩ := k1.lst gg
    exact L2.cr_all g.calm pins s σ H _ us Q I r ⟨a, bs, rfl, by rw [← bools_of k2 k]; exact k3, bl_post q⟩
theorem cr_any (g : XG X) : CallR X (.builtin "any") (rDn (kw X) .any true) := by
  intro pins s σ H xs us Q I r h
  obtain ⟨G, ds, d, gg, h1, ha, q⟩ := h
  obtain ⟨d1, x, rfl, rfl, k1, hb⟩ := one_arg (o := .any) (fun _ => rfl) (fun _ _ => rfl) h1 ha
  clear ha
  have ha := hb
  clear hb
  cases d1 <;> try (cases ha; done)
  case lst es =>
  have ha : ((D.bools es).map fun bs => D.bl (bs.any id)) = some d := ha
  cases k : D.bools es with
  | none => rw [k] at ha; cases ha
  | some bs =>
    rw [k] at ha
    cases ha
    obtain ⟨a, vs, rfl, k3, k2⟩ := k1.lst gg
    exact L2.cr_any g.calm pins s σ H _ us Q I r ⟨a, bs, rfl, by rw [← bools_of k2 k]; exact k3, bl_post q⟩
theorem cr_max2 (g : XG X) : CallR X (.builtin "max") (rDn (kw X) .max2 true) := by
  intro pins s σ H xs us Q I r h
  obtain ⟨G, ds, d, gg, h1, ha, q⟩ := h
  obtain ⟨d1, d2, x, y, rfl, rfl, k1, k2, hb⟩ := two_arg (o := .max2) (fun _ => rfl) (fun _ => rfl) h1 ha
  clear ha
  have ha := hb
  clear hb
  cases d1 <;> cases d2 <;> try (cases ha; done)
  case int.int i j =>
  cases ha
  exact call_max2 g.calm pins s σ H _ us Q I r ⟨i, j, by rw [k1.int, k2.int], int_post q⟩
theorem cr_min2 (g : XG X) : CallR X (.builtin "min") (rDn (kw X) .min2 true) := by
  intro pins s σ H xs us Q I r h
  obtain ⟨G, ds, d, gg, h1, ha, q⟩ := h
  obtain ⟨d1, d2, x, y, rfl, rfl, k1, k2, hb⟩ := two_arg (o := .min2) (fun _ => rfl) (fun _ => rfl) h1 ha
  clear ha
  have ha := hb
  clear hb
  cases d1 <;> cases d2 <;> try (cases ha; done)
  case int.int i j =>
  cases ha
  exact call_min2 g.calm pins s σ H _ us Q I r ⟨i, j, by rw [k1.int, k2.int], int_post q⟩
theorem cr_int : CallR X (.type "int") (rDn (kw X) .toInt true) := by
  intro pins s σ H xs us Q I r h
  obtain ⟨G, ds, d, gg, h1, ha, q⟩ := h
  obtain ⟨d1, x, rfl, rfl, k1, hb⟩ := one_arg (o := .toInt) (fun _ => rfl) (fun _ _ => rfl) h1 ha
  clear ha
  have ha := hb
  clear hb
  cases d1 <;> try (cases ha; done)
  case int i =>
    cases ha
    exact call_int1 pins s σ H _ us Q I r (.inl ⟨i, by rw [k1.int], int_post q⟩)
  case bl i =>
    cases ha
    exact call_int1 pins s σ H _ us Q I r (.inr ⟨i, by rw [k1.bl], int_post q⟩)
theorem cr_list : CallR X (.type "list") (rDn (kw X) .toList true) := by
  intro pins s σ H xs us Q I r h
  obtain ⟨G, ds, d, gg, h1, ha, q⟩ := h
  obtain ⟨d1, x, rfl, rfl, k1, hb⟩ := one_arg (o := .toList) (fun _ => rfl) (fun _ _ => rfl) h1 ha
  clear ha
  have ha := hb
  clear hb
  cases d1 <;> try (cases ha; done)
  case lst es =>
    cases ha
    obtain ⟨a, vs, rfl, k3, k2⟩ := k1.lst gg
    exact call_list_of pins s σ H _ us Q I r ⟨a, vs, rfl, .inl k3, fun p hp => q.new p _ hp ⟨_, rfl, k2⟩⟩
  case tup es =>
    cases ha
    obtain ⟨a, vs, rfl, k3, k2⟩ := k1.tup gg
    exact call_list_of pins s σ H _ us Q I r ⟨a, vs, rfl, .inr k3, fun p hp => q.new p _ hp ⟨_, rfl, k2⟩⟩
theorem cr_tuple : CallR X (.type "tuple") (rDn (kw X) .toTuple true) := by
  intro pins s σ H xs us Q I r h
  obtain ⟨G, ds, d, gg, h1, ha, q⟩ := h
  obtain ⟨d1, x, rfl, rfl, k1, hb⟩ := one_arg (o := .toTuple) (fun _ => rfl) (fun _ _ => rfl) h1 ha
  clear ha
  have ha := hb
  clear hb
  cases d1 <;> try (cases ha; done)
  case lst es =>
    cases ha
    obtain ⟨a, vs, rfl, k3, k2⟩ := k1.lst gg
    exact call_tuple_of pins s σ H _ us Q I r ⟨a, vs, rfl, .inl ⟨k3, fun p hp => q.new p _ hp ⟨_, rfl, k2⟩⟩⟩
  case tup es =>
    cases ha
    have k := k1.tupRV
    obtain ⟨a, vs, rfl, k3, k2⟩ := k1.tup gg
    exact call_tuple_of pins s σ H _ us Q I r ⟨a, vs, rfl, .inr ⟨k3, q.old _ (fun _ => rfl) k⟩⟩

/-! ### repr -/
mutual
theorem RV.reads {pins : List (Addr × Obj)} {σ : L2.St} {H : Hp} {s : Shared} (I : L2.Inv X pins σ H s) (hsm : SysM X.base) : ∀ (d : D) (v : V) (u : Value), RV (kw X) H d v → RelV v u → ∃ as, Reads s.heap u d.toP as ∧ sysModules ∉ as
  | .non, _, _, h, r => by
    cases (show _ = V.non from h)
    cases r
    exact ⟨_, Reads.none, fun z => nomatch z⟩
  | .bl b, _, _, h, r => by
    cases (show _ = V.bl b from h)
    cases r
    exact ⟨_, Reads.bool b, fun z => nomatch z⟩
  | .int i, _, _, h, r => by
    cases (show _ = V.int i from h)
    obtain ⟨t, rfl⟩ := r
    exact ⟨_, Reads.int i t, fun z => nomatch z⟩
  | .str x, _, _, h, r => by
    cases (show _ = V.str x from h)
    obtain ⟨t, rfl⟩ := r
    exact ⟨_, Reads.str x t, fun z => nomatch z⟩
  | .lst ds, _, _, ⟨a, vs, z, h1, h2⟩, r => by
    subst z
    cases r
    obtain ⟨its, rv, ⟨o, n, ho, hc, _, hd⟩, _⟩ := I.list h1
    obtain ⟨as, hr, hn⟩ := RVs.reads I hsm ds vs its h2 rv
    refine ⟨_, Reads.list ho hc hd hr, fun z => ?_⟩
    rcases List.mem_cons.mp z with z | z
    · subst z
      obtain ⟨m, o2, es, ep, e, q, _⟩ := hsm
      rw [(I.bs _ _ e).1] at ho
      cases ho
      rw [q] at hd
      cases hd
    · exact hn z
  | .tup ds, _, _, ⟨a, vs, z, h1, h2⟩, r => by
    subst z
    cases r
    obtain ⟨its, rv, ⟨o, ho, hc, n, hd⟩, _⟩ := I.tuple h1
    obtain ⟨as, hr, hn⟩ := RVs.reads I hsm ds vs its h2 rv
    exact ⟨_, Reads.tuple ho hc hd hr, hn⟩
  | .dct kvs, _, _, ⟨a, ep, es, z, h1, hn, h2⟩, r => by
    subst z
    cases r
    obtain ⟨_, hs, o, ds, ho, hx, hd, hp⟩ := Inv.dctAt I h1
    obtain ⟨as, bs, r1, r2, n1, n2⟩ := REs.reads I hsm kvs es ds.toList h2 hp
    refine ⟨_, Reads.dict (kvs := D.toP.toPd kvs) ho hx.1 hd r1 r2, fun z => ?_⟩
    rcases List.mem_append.mp z with z | z
    · rcases List.mem_cons.mp z with z | z
      · rw [← z] at hs
        simp at hs
      · exact n1 z
    · exact n2 z
theorem REs.reads {pins : List (Addr × Obj)} {σ : L2.St} {H : Hp} {s : Shared} (I : L2.Inv X pins σ H s) (hsm : SysM X.base) : ∀ (kvs : List (D × D)) (es : List ERow) (ds : List DictEntry), REs (kw X) H kvs es → Paired EntR es ds →
    ∃ as bs, ReadsAll s.heap (ds.map (·.key)) ((D.toP.toPd kvs).map (·.1)) as ∧ ReadsAll s.heap (ds.map (·.val)) ((D.toP.toPd kvs).map (·.2)) bs ∧ sysModules ∉ as ∧ sysModules ∉ bs
  | [], _, _, h, p => by
    cases (show _ = [] from h)
    cases p
    exact ⟨_, _, ReadsAll.nil, ReadsAll.nil, by simp, by simp⟩
  | (k, d) :: kvs, _, _, ⟨x, y, r, e, h0, h1, h2, h3⟩, p => by
    subst e
    cases p with
    | @cons _ b _ l q1 q2 =>
      obtain ⟨z1, z2, z3⟩ := q1
      obtain ⟨as, k1, m1⟩ := RV.reads I hsm k x _ h1 z2
      obtain ⟨bs, k2, m2⟩ := RV.reads I hsm d y _ h2 z3
      obtain ⟨as', bs', k3, k4, m3, m4⟩ := REs.reads I hsm kvs r l h3 q2
      refine ⟨_, _, ReadsAll.cons k1 k3, ReadsAll.cons k2 k4, ?_, ?_⟩
      · rw [List.mem_append]
        rintro (z | z)
        · exact m1 z
        · exact m3 z
      · rw [List.mem_append]
        rintro (z | z)
        · exact m2 z
        · exact m4 z
theorem RVs.reads {pins : List (Addr × Obj)} {σ : L2.St} {H : Hp} {s : Shared} (I : L2.Inv X pins σ H s) (hsm : SysM X.base) : ∀ (ds : List D) (vs : List V) (us : List Value), RVs (kw X) H ds vs → Vals vs us → ∃ as, ReadsAll s.heap us (D.toP.toPs ds) as ∧ sysModules ∉ as
  | [], _, _, h, r => by
    cases (show _ = [] from h)
    cases r
    exact ⟨_, ReadsAll.nil, fun z => nomatch z⟩
  | d :: ds, _, _, ⟨v, vr, z, h1, h2⟩, r => by
    subst z
    cases r with
    | cons r1 r2 =>
      obtain ⟨as, q1, n1⟩ := RV.reads I hsm d v _ h1 r1
      obtain ⟨bs, q2, n2⟩ := RVs.reads I hsm ds vr _ h2 r2
      refine ⟨_, ReadsAll.cons q1 q2, ?_⟩
      rw [List.mem_append]
      rintro (z | z)
      · exact n1 z
      · exact n2 z
end
theorem cr_repr (g : XG X) : CallR X (.builtin "repr") (rDn (kw X) .repr true) := by
  intro pins s σ H xs us Q I r h
  obtain ⟨G, ds, d, gg, h1, ha, q⟩ := h
  obtain ⟨d1, x, rfl, rfl, k1, hb⟩ := one_arg (o := .repr) (fun _ => rfl) (fun _ _ => rfl) h1 ha
  clear ha
  have ha : (shownD d1).map D.str = some d := hb
  unfold shownD at ha
  split at ha
  · rename_i hc
    cases ha
    simp only [Bool.and_eq_true, decide_eq_true_eq] at hc
    obtain ⟨⟨c2, c3⟩, c4⟩ := hc
    rw [line_eq] at c4
    have hu := g.units
    obtain ⟨u, rfl, ru⟩ := vals1 r
    have hr := k1.rv gg
    obtain ⟨as, R, hn⟩ := RV.reads I g.sys d1 x u hr ru
    have hsm : d1.toP.hasDict = true → sysModules ∉ as := fun _ => hn
    have fin : ∀ (h' : Heap) (t tk : Tok), (∀ b o, s.heap.get? b = some o → h'.get? b = some o) → EP X pins σ Q (.str d1.toP.shown t) { s with heap := h', toks := tk } := fun h' t tk kp =>
      ⟨.str d1.toP.shown, H, I.kept kp, ⟨t, rfl⟩, str_post q⟩
    cases d1 with
    | non =>
      cases (show x = V.non from hr)
      cases ru
      exact PySem.P.repr_of_none (fin s.heap _ _ fun _ _ e => e)
    | bl b =>
      cases (show x = V.bl b from hr)
      cases ru
      exact PySem.P.repr_of_bool (fin s.heap _ _ fun _ _ e => e)
    | int i =>
      cases (show x = V.int i from hr)
      obtain ⟨t, rfl⟩ := ru
      exact PySem.P.repr_of_int (of_decide_eq_true c2) (fin s.heap _ _ fun _ _ e => e)
    | str z =>
      cases (show x = V.str z from hr)
      obtain ⟨t, rfl⟩ := ru
      exact PySem.P.repr_of_str (fin s.heap _ _ fun _ _ e => e) c4
    | tup zs =>
      obtain ⟨a, vs, rfl, _⟩ := hr
      cases ru
      exact repr_of_reads' R c2 hsm g.guards (by omega) (fun _ _ e => e) fin c4
    | lst zs =>
      obtain ⟨a, vs, rfl, _⟩ := hr
      cases ru
      exact repr_of_reads' R c2 hsm g.guards (by omega) (fun _ _ e => e) fin c4
    | dct zs =>
      obtain ⟨a, _, _, rfl, _⟩ := hr
      cases ru
      exact repr_of_reads' R c2 hsm g.guards (by omega) (fun _ _ e => e) fin c4
  · cases ha
/-! ### sorted -/
theorem each_of {K : KW} {G : Hp} : ∀ {ds : List D} {vs : List V} {us : List Value}, RVs K G ds vs → Vals vs us → PySem.W.EachIs (fun u d => ∃ x, RV K G d x ∧ RelV x u) us ds
  | [], _, _, h, r => by
    cases (show _ = [] from h)
    cases r
    exact .nil
  | d :: ds, _, _, ⟨v, vr, z, h1, h2⟩, r => by
    subst z
    cases r with
    | cons r1 r2 => exact .cons ⟨v, h1, r1⟩ (each_of h2 r2)
theorem each_back {K : KW} {G : Hp} : ∀ {ds : List D} {us : List Value}, PySem.W.EachIs (fun u d => ∃ x, RV K G d x ∧ RelV x u) us ds → ∃ vs, RVs K G ds vs ∧ Vals vs us
  | _, _, .nil => ⟨[], rfl, .nil⟩
  | _, _, .cons ⟨x, h1, r1⟩ h => by
    obtain ⟨vs, h2, r2⟩ := each_back h
    exact ⟨x :: vs, ⟨x, vs, rfl, h1, h2⟩, .cons r1 r2⟩
theorem cr_sorted (g : XG X) : CallR X (.builtin "sorted") (rDn (kw X) .sorted true) := by
  intro pins s σ H xs us Q I r h
  obtain ⟨G, ds, d, gg, h1, ha, q⟩ := h
  obtain ⟨d1, x, rfl, rfl, k1, hb⟩ := one_arg (o := .sorted) (fun _ => rfl) (fun _ _ => rfl) h1 ha
  clear ha
  have ha := hb
  clear hb
  cases d1 <;> try (cases ha; done)
  case lst es =>
    have ha : (if sortOk es then some (D.lst (sortD es)) else none) = some d := ha
    obtain ⟨hc, rfl⟩ := ite_some ha
    obtain ⟨a, vs, rfl, k3, k2⟩ := k1.lst gg
    obtain ⟨its, rv, pl, hz⟩ := I.list k3
    obtain ⟨u, rfl, ru⟩ := vals1 r
    obtain rfl : u = Value.ref a := ru
    unfold sortOk at hc
    simp only [Bool.and_eq_true, Bool.or_eq_true, List.all_eq_true, decide_eq_true_eq] at hc
    obtain ⟨⟨c1, c2⟩, c3⟩ := hc
    have hl : es.length = its.length := by rw [← RVs.len k2, rv.length]
    have hu := g.units
    have er : PySem.W.EachIs (fun v b => ∃ as, Reads s.heap v (D.toP b) as) its es := (each_of k2 rv).mono fun u d ⟨x, h1, h2⟩ => by
      obtain ⟨as, h3, _⟩ := RV.reads I g.sys d x u (h1.mono gg) h2
      exact ⟨as, h3⟩
    refine PySem.W.sorted_data (R := fun u d => ∃ x, RV (kw X) G d x ∧ RelV x u) (enc := D.toP) (bs := es) pl.isList (each_of k2 rv) er ?_ ?_ (by rw [hl, ← rv.length]; exact hz) (fun b hb => ?_) fun out ho eo => ?_
    · intro d hd d' hd'
      obtain ⟨b, hb, rfl⟩ := List.mem_map.mp hd
      obtain ⟨b', hb', rfl⟩ := List.mem_map.mp hd'
      exact c1 b hb b' hb'
    · rcases c2 with c2 | c2
      · refine .inl fun d hd => ?_
        obtain ⟨b, hb, rfl⟩ := List.mem_map.mp hd
        have := c2 b hb
        cases b <;> try (cases this; done)
        rename_i ys
        cases ys with
        | nil => cases this
        | cons y ys => exact ⟨_, _, rfl⟩
      · refine .inr fun d hd => ?_
        obtain ⟨b, hb, rfl⟩ := List.mem_map.mp hd
        have := c2 b hb
        cases b <;> first | (cases this; done) | exact ⟨fun z => (nomatch z), fun _ z => (nomatch z)⟩
    · have := c3 b hb
      omega
    · obtain ⟨c, hc⟩ := PyProof.Rows.sortedAll_at s.heap its out.toArray
      obtain ⟨ws, w1, w2⟩ := each_back eo
      have hlen : ws.length ≤ sizeLine := by
        rw [w2.length, ho, hl, ← rv.length]
        exact hz
      exact ⟨.ref (s.heap.objs.size + 1), _, I.laid (a := s.heap.objs.size + 1) (o := .lst ws) (t' := s.toks) (fun _ _ e => PyProof.Rows.sortedAll_old e) (Nat.le_succ _) ⟨hlen, out, c, w2, hc⟩, rfl, q.new _ _ (I.hok.fresh (Nat.le_succ _)) ⟨_, rfl, w1⟩⟩

end
end VL

/-! VL5: readings of the small language; the checker of expressions; what it is worth. -/
namespace VL
open PySem PySem.Spec L2

/-- what stands fast for a body -/
structure Cfg where
  K : KW
  io : List (Nat × Addr)
  W : WX
  P : Prog
  cf : Nat → List D → VL.CR
  C : Nat → Addr
  fld : Nat → Option Str
/-- an exception's fields in its own dict -/
def XR (c : Cfg) (n : Nat) (fs : List D) (dx : Option Addr) (G H : Hp) : Prop :=
  (fs = [] ∧ dx = none) ∨ ∃ (d : D) (x : Addr) (v : V) (f : Str), fs = [d] ∧ dx = some x ∧ c.fld n = some f ∧ H x = some (.xd [(f, v)]) ∧ RV c.K G d v
def Res {α : Type} (c : Cfg) (Fr G : Hp) (σ : L2.St) (x : Out α) (ok : α → Env → Prop) : Prop :=
  match x with
  | .ok a r => ok a r
  | .err n fs r => ∀ (H' G' : Hp) (dx : Option Addr), SR c.K c.io Fr G' σ H' r → Same G G' → XR c n fs dx G' H' → c.W (.ref (c.C n)) dx σ H'
  | .stk => False
abbrev evl (c : Cfg) (m : ME) (r : Env) : Out (List D) := m.ev shownD c.P c.cf r
/-- arguments: a name stands for its slot, any other value is frozen -/
def APs (K : KW) (G : Hp) (σ : L2.St) : ME → List D → List V → Prop
  | .cons (.nm j) m, _ :: ds, v :: vs => σ[j]? = some (some v) ∧ APs K G σ m ds vs
  | .cons _ m, d :: ds, v :: vs => RV K G d v ∧ APs K G σ m ds vs
  | .nil, ds, vs => ds = [] ∧ vs = []
  | _, _, _ => False
def isNm : ME → Bool
  | .nm _ => true
  | _ => false
/-- a value that is nobody else's -/
def FV (K : KW) (Fr G H : Hp) (σ : L2.St) (r : Env) (d : D) (v : V) : Prop :=
  if d.mutb = true then ∃ a, v = .ref a ∧ OV K G H d a ∧ G a = none ∧ Fr a = none ∧ ∀ j, ¬ ownAt σ r j a else RV K G d v
def SV (K : KW) (fr : Bool) (Fr G H : Hp) (σ : L2.St) (r : Env) (d : D) (v : V) : Prop := if fr = true then FV K Fr G H σ r d v else RV K G d v

def tP (c : Cfg) (m : ME) : TE := fun σ H Q => ∃ (Fr G : Hp) (r : Env), SR c.K c.io Fr G σ H r ∧ Res c Fr G σ (evl c m r) fun ds r' => ∃ d, ds = [d] ∧ ∀ (v : V) (H' G' : Hp), SR c.K c.io Fr G' σ H' r' → Same G G' → APs c.K G' σ (.cons m .nil) [d] [v] → Q v H'
def tS (c : Cfg) (fr : Bool) (m : ME) : TE := fun σ H Q => ∃ (Fr G : Hp) (r : Env), SR c.K c.io Fr G σ H r ∧ Res c Fr G σ (evl c m r) fun ds r' => ∃ d, ds = [d] ∧ ∀ (v : V) (H' G' : Hp), SR c.K c.io Fr G' σ H' r' → Same G G' → SV c.K fr Fr G' H' σ r' d v → Q v H'
def tA (c : Cfg) (m : ME) : TA := fun σ H Q => ∃ (Fr G : Hp) (r : Env), SR c.K c.io Fr G σ H r ∧ Res c Fr G σ (evl c m r) fun ds r' => ∀ (vs : List V) (H' G' : Hp), SR c.K c.io Fr G' σ H' r' → Same G G' → APs c.K G' σ m ds vs → Q vs H'
def tT (c : Cfg) (m : ME) : TT := fun σ H Q => ∃ (Fr G : Hp) (r : Env), SR c.K c.io Fr G σ H r ∧ Res c Fr G σ (evC shownD c.P c.cf m r) fun b r' => ∀ (H' G' : Hp), SR c.K c.io Fr G' σ H' r' → Same G G' → Q b H'

section
variable {c : Cfg} {Fr G G' H H' : Hp} {σ : L2.St} {r : Env}
theorem Res.bind {α β : Type} {x : Out α} {f : α → Env → Out β} {ok : β → Env → Prop} (h : Res c Fr G σ (x.bind f) ok) : Res c Fr G σ x fun a r' => Res c Fr G σ (f a r') ok := by
  cases x with
  | ok a r => exact h
  | err n fs r => exact h
  | stk => exact h
theorem Res.mono {α : Type} {x : Out α} {ok ok' : α → Env → Prop} (h : Res c Fr G σ x ok) (k : ∀ a r, ok a r → ok' a r) : Res c Fr G σ x ok' := by
  cases x with
  | ok a r => exact k a r h
  | err n fs r => exact h
  | stk => exact h
theorem Res.grow {α : Type} {x : Out α} {ok : α → Env → Prop} (h : Res c Fr G σ x ok) (g : Same G G') : Res c Fr G' σ x ok := by
  cases x with
  | ok a r => exact h
  | err n fs r => exact fun H' G1 dx s q xr => h H' G1 dx s (g.trans q) xr
  | stk => exact h
theorem SV.frz (S : SR c.K c.io Fr G σ H r) {d : D} {v : V} {fr : Bool} (h : SV c.K fr Fr G H σ r d v) : ∃ G', Same G G' ∧ SR c.K c.io Fr G' σ H r ∧ RV c.K G' d v := by
  unfold SV at h
  split at h
  · unfold FV at h
    split at h
    · obtain ⟨a, rfl, h1, h2, h3, h4⟩ := h
      obtain ⟨o, ho⟩ := h1.there
      exact ⟨_, same_upd h2, S.freeze ho h2 h3 h4, h1.rv ho (same_upd h2) upd_same⟩
    · exact ⟨G, Same.refl _, S, h⟩
  · exact ⟨G, Same.refl _, S, h⟩
theorem peI {X : Cx} {e : Expr} {t t' : TE} (h : PE X e t) (k : ∀ σ H Q, t' σ H Q → t σ H Q) : PE X e t' := ⟨fun pins s σ H Q I q => h.run pins s σ H Q I (k σ H Q q)⟩
theorem ptI {X : Cx} {e : Expr} {t t' : TT} (h : PT X e t) (k : ∀ σ H Q, t' σ H Q → t σ H Q) : PT X e t' := ⟨fun pins s σ H Q I q => h.run pins s σ H Q I (k σ H Q q)⟩
theorem paI {X : Cx} {e : List Expr} {t t' : TA} (h : PA X e t) (k : ∀ σ H Q, t' σ H Q → t σ H Q) : PA X e t' := ⟨fun pos pins s σ H Q I q => h.run pos pins s σ H Q I (k σ H Q q)⟩
theorem psI {X : Cx} {e : Stmt} {t t' : TS} (h : PS X e t) (k : ∀ D σ H, t' D σ H → t D σ H) : PS X e t' := ⟨fun pins s σ H Q I q => h.run pins s σ H Q I (k Q σ H q)⟩
theorem pssI {X : Cx} {e : List Stmt} {t t' : TS} (h : PSs X e t) (k : ∀ D σ H, t' D σ H → t D σ H) : PSs X e t' := ⟨fun pins s σ H Q I q => h.run pins s σ H Q I (k Q σ H q)⟩
theorem APs.one_rv {m : ME} (hm : isNm m = false) {d : D} {v : V} (h : RV c.K G d v) : APs c.K G σ (.cons m .nil) [d] [v] := by
  cases m <;> first | exact ⟨h, rfl, rfl⟩ | exact (Bool.noConfusion hm)
theorem APs.rv {m : ME} (hm : isNm m = false) {d : D} {v : V} (h : APs c.K G σ (.cons m .nil) [d] [v]) : RV c.K G d v := by
  cases m <;> first | exact h.1 | exact (Bool.noConfusion hm)
/-- the strongest reading gives the others -/
theorem pe_weak {X : Cx} {e : Expr} {m : ME} {fr : Bool} (h : PE X e (tS c fr m)) : PE X e (tS c false m) := peI h fun σ H Q q => by
  obtain ⟨Fr, G, r, S, q⟩ := q
  refine ⟨Fr, G, r, S, q.mono fun ds r' ⟨d, e, k⟩ => ⟨d, e, fun v H' G' S' g s => ?_⟩⟩
  obtain ⟨G2, g2, S2, rv⟩ := SV.frz S' s
  exact k v H' G2 S2 (g.trans g2) rv
theorem pe_peek {X : Cx} {e : Expr} {m : ME} {fr : Bool} (hm : isNm m = false) (h : PE X e (tS c fr m)) : PE X e (tP c m) := peI (pe_weak h) fun σ H Q q => by
  obtain ⟨Fr, G, r, S, q⟩ := q
  exact ⟨Fr, G, r, S, q.mono fun ds r' ⟨d, e, k⟩ => ⟨d, e, fun v H' G' S' g s => k v H' G' S' g (APs.one_rv hm s)⟩⟩
theorem APs.mono (g : Same G G') : ∀ {m : ME} {ds : List D} {vs : List V}, APs c.K G σ m ds vs → APs c.K G' σ m ds vs := by
  intro m
  induction m with
  | cons a m _ ih =>
    intro ds vs h
    cases ds with
    | nil => cases a <;> exact h.elim
    | cons d ds =>
      cases vs with
      | nil => cases a <;> exact h.elim
      | cons v vs => cases a <;> first | exact ⟨h.1, ih h.2⟩ | exact ⟨h.1.mono g, ih h.2⟩
  | nil => intro ds vs h; exact h
  | _ => intro ds vs h; cases ds <;> cases vs <;> exact h.elim
theorem peek_vw (S : SR c.K c.io Fr G σ H r) {j : Nat} {d : D} {v : V} (hp : peek r j = some d) (hv : σ[j]? = some (some v)) : VW c.K G H d v := by
  unfold peek at hp
  split at hp
  · rename_i e
    cases hp
    obtain ⟨w, e1, h⟩ := S.s _ _ e
    rw [hv] at e1
    cases e1
    exact .inl h
  · rename_i e
    cases hp
    obtain ⟨w, e1, _, _, h⟩ := S.s _ _ e
    rw [hv] at e1
    cases e1
    exact .inr ⟨_, rfl, h⟩
  · rename_i e
    cases hp
    obtain ⟨w, e1, _, _, h⟩ := S.s _ _ e
    rw [hv] at e1
    cases e1
    exact .inr ⟨_, rfl, h⟩
  · cases hp
theorem APs.fresh (S : SR c.K c.io Fr G σ H r) : ∀ {m : ME} {ds ds' : List D} {vs : List V}, APs c.K G σ m ds vs → m.fresh ds r = some ds' → VWs c.K G H ds' vs := by
  intro m
  induction m with
  | cons a m _ ih =>
    intro ds ds' vs h k
    cases ds with
    | nil => cases a <;> exact h.elim
    | cons d ds =>
      cases vs with
      | nil => cases a <;> exact h.elim
      | cons v vs =>
        by_cases hn : ∃ j, a = .nm j
        · obtain ⟨j, rfl⟩ := hn
          have k : (match peek r j, m.fresh ds r with
            | some d, some l => some (d :: l)
            | _, _ => none) = some ds' := k
          split at k
          · rename_i d1 l e1 e2
            cases k
            exact ⟨v, vs, rfl, peek_vw S e1 h.1, ih h.2 e2⟩
          · cases k
        · have h1 : RV c.K G d v ∧ APs c.K G σ m ds vs := by
            cases a <;> first | exact h | exact absurd ⟨_, rfl⟩ hn
          have k1 : (m.fresh ds r).map (d :: ·) = some ds' := by
            cases a <;> first | exact k | exact absurd ⟨_, rfl⟩ hn
          cases e : m.fresh ds r with
          | none => rw [e] at k1; cases k1
          | some l =>
            rw [e] at k1
            cases k1
            exact ⟨v, vs, rfl, .inl h1.1, ih h1.2 e⟩
  | nil =>
    intro ds ds' vs h k
    obtain ⟨rfl, rfl⟩ := h
    cases k
    rfl
  | _ => intro ds ds' vs h; cases ds <;> cases vs <;> exact h.elim

/-! ### one value each -/
def ME.one : ME → Bool
  | .nil => false
  | .cons _ _ => false
  | .and_ _ b => ME.one b
  | .or_ _ b => ME.one b
  | .ite _ a b => ME.one a && ME.one b
  | _ => true
theorem bind_ok {α β : Type} {x : Out α} {f : α → Env → Out β} {b : β} {r' : Env} (h : x.bind f = .ok b r') : ∃ a r1, x = .ok a r1 ∧ f a r1 = .ok b r' := by
  cases x with
  | ok a r => exact ⟨a, r, rfl, h⟩
  | err n fs r => cases h
  | stk => cases h
theorem ME.one_ev : ∀ {m : ME} {r r' : Env} {xs : List D}, m.one = true → evl c m r = .ok xs r' → ∃ d, xs = [d] := by
  intro m
  induction m with
  | kst d => intro r r' xs _ h; cases h; exact ⟨_, rfl⟩
  | glb i =>
    intro r r' xs _ h
    have h : (match c.P.gt.lookup i with
      | some x => Out.ok [x.2] r
      | none => .stk) = .ok xs r' := h
    split at h <;> cases h
    exact ⟨_, rfl⟩
  | nm j =>
    intro r r' xs _ h
    have h : (match peek r j with
      | some d => Out.ok [d] r
      | none => .stk) = .ok xs r' := h
    split at h <;> cases h
    exact ⟨_, rfl⟩
  | cap j =>
    intro r r' xs _ h
    have h : (match capE r j with
      | some (d, r') => Out.ok [d] r'
      | none => .stk) = .ok xs r' := h
    split at h <;> cases h
    exact ⟨_, rfl⟩
  | nil => intro r r' xs h; cases h
  | cons a m => intro r r' xs h; cases h
  | op o a =>
    intro r r' xs _ h
    obtain ⟨x, r1, _, h⟩ := bind_ok h
    split at h
    · split at h <;> cases h
      exact ⟨_, rfl⟩
    · cases h
  | chain o1 o2 ab k =>
    intro r r' xs _ h
    obtain ⟨x, r1, _, h⟩ := bind_ok h
    split at h
    · split at h
      · obtain ⟨z, r2, _, h⟩ := bind_ok h
        split at h
        · split at h
          · split at h <;> cases h
            exact ⟨_, rfl⟩
          · cases h
        · cases h
      · cases h
        exact ⟨_, rfl⟩
      · cases h
    · cases h
  | and_ a b _ ih =>
    intro r r' xs k h
    obtain ⟨x, r1, _, h⟩ := bind_ok h
    split at h
    · split at h
      · exact ih k h
      · cases h
        exact ⟨_, rfl⟩
      · cases h
    · cases h
  | or_ a b _ ih =>
    intro r r' xs k h
    obtain ⟨x, r1, _, h⟩ := bind_ok h
    split at h
    · split at h
      · cases h
        exact ⟨_, rfl⟩
      · exact ih k h
      · cases h
    · cases h
  | ite cc a b _ iha ihb =>
    intro r r' xs k h
    have k : (a.one && b.one) = true := k
    simp only [Bool.and_eq_true] at k
    obtain ⟨x, r1, _, h⟩ := bind_ok h
    split at h
    · split at h
      · exact iha k.1 h
      · exact ihb k.2 h
      · cases h
    · cases h
  | call f sl a =>
    intro r r' xs _ h
    obtain ⟨x, r1, _, h⟩ := bind_ok h
    split at h
    · split at h
      · split at h <;> cases h
        exact ⟨_, rfl⟩
      · split at h <;> cases h
      · cases h
    · cases h
  | mop o j a =>
    intro r r' xs _ h
    have h : (match r[j]? with
      | some (.ow (.lst _)) => (evl c a r).bind fun x r1 => match a.fresh x r1, owned r1 j with
        | some x, some d => match o.ap d x with
          | some (y, d') => Out.ok [y] (r1.set j (.ow d'))
          | none => .stk
        | _, _ => .stk
      | _ => .stk) = .ok xs r' := h
    split at h
    · obtain ⟨x, r1, _, h⟩ := bind_ok h
      split at h
      · split at h <;> cases h
        exact ⟨_, rfl⟩
      · cases h
    · cases h
  | never => intro r r' xs _ h; cases h
  | rep n a ih =>
    intro r r' xs _ h
    obtain ⟨x, r1, _, h⟩ := bind_ok h
    split at h
    · split at h
      · cases h
        exact ⟨_, rfl⟩
      · cases h
    · cases h
  | cix i a ih =>
    intro r r' xs _ h
    obtain ⟨x, r1, _, h⟩ := bind_ok h
    split at h
    · split at h
      · cases h
        exact ⟨_, rfl⟩
      · cases h
    · cases h
  | comp own tg it cc e =>
    intro r r' xs _ h
    obtain ⟨x, r1, _, h⟩ := bind_ok h
    split at h
    · split at h
      · split at h
        · obtain ⟨ys, r2, _, h⟩ := bind_ok h
          cases h
          exact ⟨_, rfl⟩
        · cases h
      · cases h
    · cases h
/-- the first of the arguments, the others behind it -/
theorem args_step {a m : ME} (h1 : a.one = true) (S : SR c.K c.io Fr G σ H r) {ok : List D → Env → Prop} (h : Res c Fr G σ (evl c (.cons a m) r) ok) :
    tP c a σ H fun x H1 => ∃ (G1 : Hp) (r1 : Env) (d : D), SR c.K c.io Fr G1 σ H1 r1 ∧ Same G G1 ∧ APs c.K G1 σ (.cons a .nil) [d] [x] ∧ Res c Fr G1 σ (evl c m r1) fun ds r2 => ok (d :: ds) r2 := by
  refine ⟨Fr, G, r, S, ?_⟩
  have h : Res c Fr G σ ((evl c a r).bind fun x r1 => (evl c m r1).bind fun y r2 => .ok (x ++ y) r2) ok := h
  have h2 := h.bind
  cases e : evl c a r with
  | ok xs r1 =>
    rw [e] at h2
    obtain ⟨d, rfl⟩ := ME.one_ev h1 e
    exact ⟨d, rfl, fun v H' G' S' g k => ⟨G', r1, d, S', g, k, (Res.bind h2).grow g |>.mono fun ds r2 q => q⟩⟩
  | err n fs r1 => rw [e] at h2; exact h2
  | stk => rw [e] at h2; exact h2.elim
theorem APs.cons {a m : ME} {d : D} {v : V} {ds : List D} {vs : List V} (h1 : APs c.K G σ (.cons a .nil) [d] [v]) (h2 : APs c.K G σ m ds vs) : APs c.K G σ (.cons a m) (d :: ds) (v :: vs) := by
  cases a <;> exact ⟨h1.1, h2⟩
/-- an argument list, from the left -/
def ArgsOk (c : Cfg) (X : Cx) : ME → List Expr → Prop
  | .cons a m, e :: es => a.one = true ∧ PE X e (tP c a) ∧ (∀ env, starEach (e :: es) env = (false, eval e env) :: starEach es env) ∧ ArgsOk c X m es
  | .nil, es => es = []
  | _, _ => False
theorem ArgsOk.pa {X : Cx} : ∀ {m : ME} {es : List Expr}, ArgsOk c X m es → PA X es (tA c m) := by
  intro m
  induction m with
  | cons a m _ ih =>
    intro es h
    cases es with
    | nil => exact h.elim
    | cons e es =>
      obtain ⟨h1, h2, h3, h4⟩ := h
      refine paI (pa_cons h2 (ih h4) (h3 _)) fun σ H Q q => ?_
      obtain ⟨Fr, G, r, S, q⟩ := q
      obtain ⟨Fr1, G1, r1, S1, k⟩ := args_step h1 S q
      refine ⟨Fr1, G1, r1, S1, k.mono fun ds r' ⟨d, e, k⟩ => ⟨d, e, fun v H' G' S' g s => ?_⟩⟩
      obtain ⟨G2, r2, d2, S2, g2, a2, k2⟩ := k v H' G' S' g s
      exact ⟨Fr, G2, r2, S2, k2.mono fun ds r3 q vs H3 G3 S3 g3 a3 => q (v :: vs) H3 G3 S3 (g2.trans g3) (APs.cons (a2.mono g3) a3)⟩
  | nil =>
    intro es h
    cases (show es = [] from h)
    refine paI pa_nil fun σ H Q q => ?_
    obtain ⟨Fr, G, r, S, q⟩ := q
    exact q [] H G S (Same.refl _) ⟨rfl, rfl⟩
  | _ => intro es h; exact h.elim
end
end VL

/-! VL6: the operators' nodes. -/
namespace VL
open PySem PySem.Spec L2

/-- what the checker knows: the slots, the names as they are seen, the block's own, the parameters that the caller owns, the defs, the constants -/
structure CkE where
  N : List Str
  names : List (Str × NameKind)
  raw : List (Str × NameKind)
  io : List Nat
  FN : List Str
  gt : List (Nat × Str × D)
  gp : List Nat
  gd : List Nat
def bnames : List Str := ["isinstance", "str", "tuple", "list", "int", "bool", "dict", "len", "all", "any", "max", "min", "repr", "range", "enumerate", "sorted", "set", "zip", "sum"]
def gl (k : CkE) (x : Str) : Bool := (match k.names.lookup x with | some .globalImplicit => true | _ => false)
def isGl (k : CkE) (x y : Str) : Bool := decide (x = y) && gl k x
def vis (k : CkE) (j : Nat) (x : Str) : Bool := decide (k.N[j]? = some x) && !decide (x = ("__debug__" : Str)) && !decide (x = ("__classdict__" : Str)) && (match k.names.lookup x with
  | some .local => true
  | some .cell => true
  | some .free => true
  | _ => false)
def plainIx : Expr → Bool
  | .Slice .. => false
  | _ => true
def isSet : Expr → Bool
  | .Set .. => true
  | _ => false
def isStar : Expr → Bool
  | .Starred .. => true
  | _ => false
def call1 (k : CkE) (fn : Str) : Expr → Option (Bool × List Expr)
  | .Call (.Name f _) [x] [] _ => if isGl k f fn then some (true, [x]) else none
  | _ => none
def call2 (k : CkE) (fn : Str) : Expr → Option (Bool × List Expr)
  | .Call (.Name f _) [x, y] [] _ => if isGl k f fn then some (true, [x, y]) else none
  | _ => none
/-- which expressions the operation is over; true: names may be read in passing -/
def splitOp (k : CkE) (o : Op) (e : Expr) : Option (Bool × List Expr) :=
  match o with
  | .tup => match e with
    | .Tuple es _ _ => some (false, es)
    | _ => none
  | .lst => match e with
    | .List es _ => some (false, es)
    | _ => none
  | .isi t => match e with
    | .Call (.Name f _) [x, .Name ty _] [] _ => if isGl k f "isinstance" && isGl k ty t.name then some (true, [x]) else none
    | _ => none
  | .len => call1 k "len" e
  | .all => call1 k "all" e
  | .any => call1 k "any" e
  | .repr => call1 k "repr" e
  | .sorted => call1 k "sorted" e
  | .toInt => call1 k "int" e
  | .toList => call1 k "list" e
  | .toTuple => call1 k "tuple" e
  | .max2 => call2 k "max" e
  | .min2 => call2 k "min" e
  | .eq => match e with
    | .Compare a [.Eq] [b] _ => some (true, [a, b])
    | _ => none
  | .ne => match e with
    | .Compare a [.NotEq] [b] _ => some (true, [a, b])
    | _ => none
  | .lt => match e with
    | .Compare a [.Lt] [b] _ => some (true, [a, b])
    | _ => none
  | .le => match e with
    | .Compare a [.LtE] [b] _ => some (true, [a, b])
    | _ => none
  | .gt => match e with
    | .Compare a [.Gt] [b] _ => some (true, [a, b])
    | _ => none
  | .ge => match e with
    | .Compare a [.GtE] [b] _ => some (true, [a, b])
    | _ => none
  | .isin => match e with
    | .Compare a [.In] [b] _ => if isSet b then none else some (true, [a, b])
    | _ => none
  | .notin => match e with
    | .Compare a [.NotIn] [b] _ => if isSet b then none else some (true, [a, b])
    | _ => none
  | .isN => match e with
    | .Compare a [.Is] [.Constant .none _ _] _ => some (true, [a])
    | _ => none
  | .isB c => match e with
    | .Compare a [.Is] [.Constant (.bool b) _ _] _ => if c == b then some (true, [a]) else none
    | _ => none
  | .isntB c => match e with
    | .Compare a [.IsNot] [.Constant (.bool b) _ _] _ => if c == b then some (true, [a]) else none
    | _ => none
  | .notN => match e with
    | .Compare a [.IsNot] [.Constant .none _ _] _ => some (true, [a])
    | _ => none
  | .add => match e with
    | .BinOp a .Add b _ => some (true, [a, b])
    | _ => none
  | .sub => match e with
    | .BinOp a .Sub b _ => some (true, [a, b])
    | _ => none
  | .mul => match e with
    | .BinOp a .Mult b _ => some (true, [a, b])
    | _ => none
  | .mod => match e with
    | .BinOp a .Mod b _ => some (true, [a, b])
    | _ => none
  | .fdiv => match e with
    | .BinOp a .FloorDiv b _ => some (true, [a, b])
    | _ => none
  | .pow => match e with
    | .BinOp a .Pow b _ => some (true, [a, b])
    | _ => none
  | .neg => match e with
    | .UnaryOp .USub a _ => some (true, [a])
    | _ => none
  | .not_ => match e with
    | .UnaryOp .Not a _ => some (true, [a])
    | _ => none
  | .ix => match e with
    | .Subscript a b _ => if plainIx b then some (true, [a, b]) else none
    | _ => none
  | .sl lo hi => match e with
    | .Subscript a (.Slice l h none _) _ => if decide (l.isSome = lo) && decide (h.isSome = hi) && !(lo && hi) then some (true, a :: (l.toList ++ h.toList)) else none
    | _ => none
  | _ => none

/-- what is wanted of a context -/
structure XOk0 (X : Cx) (c : Cfg) (k : CkE) : Prop where
  g : XG X
  K : kw X = c.K
  N : X.N = k.N
  nd : k.N.Nodup
  nm : X.env.scope.names = k.names
  raw : ∀ x, (k.raw.lookup x = some .local ∨ k.raw.lookup x = some .cell) → Loc X.env.scope x ∧ (X.fn x = true ∨ X.env.scope.names.lookup x = some .local)
  io : ∀ p ∈ c.io, p.1 ∈ k.io
  tk : Takes X c.W
  bt : ∀ x ∈ bnames, X.mg x = none
  gtk : k.gt = c.P.gt
  gl : ∀ (i : Nat) (x : Str) (d : D), c.P.gt.lookup i = some (x, d) → i ∈ k.gp → ∃ (u : Value) (v : V), X.mg x = some u ∧ RelV v u ∧ ∀ G, RV c.K G d v
  gd : ∀ (i : Nat) (x : Str) (kvs : List (D × D)), c.P.gt.lookup i = some (x, .dct kvs) → i ∈ k.gd → ∃ a : Addr, X.mg x = some (.ref a) ∧ ∀ s v, findS kvs s = some v → KDct X.K X.w a s (.str v)

theorem kwK {X : Cx} {c : Cfg} (h : kw X = c.K) : X.K = c.K.K := by rw [← h]
theorem XOk0.KF {X : Cx} {c : Cfg} {k : CkE} (O : XOk0 X c k) : X.K = c.K.K := kwK O.K
section
variable {X : Cx} {c : Cfg} {k : CkE} {Fr G G' H H' : Hp} {σ : L2.St} {r : Env}
theorem tP.imp {m : ME} {Q Q' : VK} (h : tP c m σ H Q) (q : ∀ v H', Q v H' → Q' v H') : tP c m σ H Q' := by
  obtain ⟨Fr, G, r, S, h⟩ := h
  exact ⟨Fr, G, r, S, h.mono fun ds r' ⟨d, e, k⟩ => ⟨d, e, fun v H' G' S' g a => q _ _ (k v H' G' S' g a)⟩⟩
theorem args1 {a : ME} (h1 : a.one = true) (S : SR c.K c.io Fr G σ H r) {ok : List D → Env → Prop} (h : Res c Fr G σ (evl c (.cons a .nil) r) ok) :
    tP c a σ H fun x H1 => ∃ (G1 : Hp) (r1 : Env) (ds : List D), SR c.K c.io Fr G1 σ H1 r1 ∧ Same G G1 ∧ APs c.K G1 σ (.cons a .nil) ds [x] ∧ ok ds r1 :=
  (args_step h1 S h).imp fun x H1 ⟨G1, r1, d, S1, g, a1, q⟩ => ⟨G1, r1, [d], S1, g, a1, q⟩
theorem args2 {a b : ME} (h1 : a.one = true) (h2 : b.one = true) (S : SR c.K c.io Fr G σ H r) {ok : List D → Env → Prop} (h : Res c Fr G σ (evl c (.cons a (.cons b .nil)) r) ok) :
    tP c a σ H fun x H1 => tP c b σ H1 fun y H2 => ∃ (G1 : Hp) (r1 : Env) (ds : List D), SR c.K c.io Fr G1 σ H2 r1 ∧ Same G G1 ∧ APs c.K G1 σ (.cons a (.cons b .nil)) ds [x, y] ∧ ok ds r1 :=
  (args_step h1 S h).imp fun x H1 ⟨G1, r1, d, S1, g, a1, q⟩ => (args1 h2 S1 q).imp fun y H2 ⟨G2, r2, ds, S2, g2, a2, q2⟩ => by
    cases ds with
    | nil => exact ⟨G2, r2, _, S2, g.trans g2, (APs.cons (a1.mono g2) a2 : APs c.K G2 σ (.cons a (.cons b .nil)) (d :: []) [x, y]), q2⟩
    | cons e es => exact ⟨G2, r2, _, S2, g.trans g2, APs.cons (a1.mono g2) a2, q2⟩
theorem args3 {a b z : ME} (h1 : a.one = true) (h2 : b.one = true) (h3 : z.one = true) (S : SR c.K c.io Fr G σ H r) {ok : List D → Env → Prop} (h : Res c Fr G σ (evl c (.cons a (.cons b (.cons z .nil))) r) ok) :
    tP c a σ H fun x H1 => tP c b σ H1 fun y H2 => tP c z σ H2 fun w H3 => ∃ (G1 : Hp) (r1 : Env) (ds : List D), SR c.K c.io Fr G1 σ H3 r1 ∧ Same G G1 ∧ APs c.K G1 σ (.cons a (.cons b (.cons z .nil))) ds [x, y, w] ∧ ok ds r1 :=
  (args_step h1 S h).imp fun x H1 ⟨G1, r1, d, S1, g, a1, q⟩ => (args2 h2 h3 S1 q).imp fun y H2 q2 => q2.imp fun w H3 ⟨G2, r2, ds, S2, g2, a2, q2⟩ =>
    ⟨G2, r2, d :: ds, S2, g.trans g2, APs.cons (a1.mono g2) a2, q2⟩
theorem op_res {o : Op} {a : ME} {ok : List D → Env → Prop} (h : Res c Fr G σ (evl c (.op o a) r) ok) : Res c Fr G σ (evl c a r) fun ds r1 => ∃ ds' d, a.fresh ds r1 = some ds' ∧ ap o ds' = some d ∧ ok [d] r1 := by
  have h : Res c Fr G σ ((evl c a r).bind fun x r1 => match a.fresh x r1 with
    | some x => match o.ap shownD x with
      | some d => .ok [d] r1
      | none => .stk
    | none => .stk) ok := h
  refine h.bind.mono fun ds r1 q => ?_
  cases e : a.fresh ds r1 with
  | none => rw [e] at q; exact q.elim
  | some ds' =>
    rw [e] at q
    cases e2 : ap o ds' with
    | none =>
      have q : Res c Fr G σ (match o.ap shownD ds' with
        | some d => Out.ok [d] r1
        | none => .stk) ok := q
      rw [show o.ap shownD ds' = none from e2] at q
      exact q.elim
    | some d =>
      have q : Res c Fr G σ (match o.ap shownD ds' with
        | some d => Out.ok [d] r1
        | none => .stk) ok := q
      rw [show o.ap shownD ds' = some d from e2] at q
      exact ⟨ds', d, rfl, e2, q⟩
theorem post_of {fr : Bool} {d : D} {Q : VK} {G1 H1 : Hp} {r1 : Env} (S : SR c.K c.io Fr G1 σ H1 r1) (g : Same G G1) (h : ∀ (v : V) (H' G' : Hp), SR c.K c.io Fr G' σ H' r1 → Same G G' → SV c.K fr Fr G' H' σ r1 d v → Q v H') : OpPost c.K G1 H1 fr d Q := by
  refine ⟨fun v hm rv => h v H1 G1 S g ?_, fun p o hp hn => ?_⟩
  · unfold SV
    split
    · rename_i hf
      unfold FV
      rw [if_neg (by rw [hm hf]; exact Bool.false_ne_true)]
      exact rv
    · exact rv
  · have gN : Same G1 (upd G1 p o) := same_upd (S.none_g hp)
    cases d with
    | lst ds =>
      obtain ⟨vs, rfl, rv⟩ := hn
      by_cases hf : fr = true
      · refine h _ _ G1 (S.grow hp) g ?_
        unfold SV FV
        rw [if_pos hf, if_pos (show (D.lst ds).mutb = true from rfl)]
        exact ⟨p, rfl, ⟨vs, upd_same, rv⟩, S.none_g hp, S.none_f hp, S.none_own hp⟩
      · refine h _ _ _ (S.new hp) (g.trans gN) ?_
        unfold SV
        rw [if_neg hf]
        exact ⟨p, vs, rfl, SqL.of upd_same, RVs.mono gN rv⟩
    | tup ds =>
      obtain ⟨vs, rfl, rv⟩ := hn
      refine h _ _ _ (S.new hp) (g.trans gN) ?_
      have : RV c.K (upd G1 p (.tup vs)) (.tup ds) (.ref p) := ⟨p, vs, rfl, SqT.of upd_same, RVs.mono gN rv⟩
      unfold SV
      split
      · unfold FV
        rw [if_neg (by exact Bool.false_ne_true)]
        exact this
      · exact this
    | dct ds =>
      obtain ⟨ep, es, rfl, nn, rv⟩ := hn
      by_cases hf : fr = true
      · refine h _ _ G1 (S.grow hp) g ?_
        unfold SV FV
        rw [if_pos hf, if_pos (show (D.dct ds).mutb = true from rfl)]
        exact ⟨p, rfl, ⟨ep, es, upd_same, nn, rv⟩, S.none_g hp, S.none_f hp, S.none_own hp⟩
      · refine h _ _ _ (S.new hp) (g.trans gN) ?_
        unfold SV
        rw [if_neg hf]
        exact ⟨p, ep, es, rfl, upd_same, nn, REs.mono gN rv⟩
    | _ => exact hn.elim
/-- by the values of all arguments -/
theorem by_all {o : Op} {a : ME} {fr : Bool} {Q : VK} (hK : kw X = c.K) (h : tS c fr (.op o a) σ H Q) : tA c a σ H fun vs H1 => rDn (kw X) o fr vs H1 Q := by
  obtain ⟨Fr, G, r, S, h⟩ := h
  refine ⟨Fr, G, r, S, (op_res h).mono fun ds r1 ⟨ds', d, e1, e2, d', e3, q⟩ vs H1 G1 S1 g1 a1 => ?_⟩
  cases e3
  rw [hK]
  exact ⟨G1, ds', d, S1.g, APs.fresh S1 a1 e1, e2, post_of S1 g1 q⟩
theorem by_two {o : Op} {a b : ME} {fr : Bool} {Q : VK} (hK : kw X = c.K) (h1 : a.one = true) (h2 : b.one = true) (h : tS c fr (.op o (.cons a (.cons b .nil))) σ H Q) : tOp (rD2 (kw X) o fr) (tP c a) (tP c b) σ H Q := by
  obtain ⟨Fr, G, r, S, h⟩ := h
  refine (args2 h1 h2 S (op_res h)).imp fun x H1 q => q.imp fun y H2 ⟨G1, r1, ds, S1, g1, a1, ds', d, e1, e2, d', e3, q⟩ => ?_
  cases e3
  have k := APs.fresh S1 a1 e1
  obtain ⟨z, rr, z1, k1, k2⟩ : ∃ (d1 d2 : D), ds' = [d1, d2] ∧ VW c.K G1 H2 d1 x ∧ VW c.K G1 H2 d2 y := by
    match ds', k with
    | [d1, d2], k =>
      obtain ⟨v, w, e, q1, q2⟩ := VWs.two k
      cases e
      exact ⟨d1, d2, rfl, q1, q2⟩
    | [], k => cases (show _ = [] from k)
    | [d1], k => obtain ⟨v, rr, e, _, q⟩ := k; cases e; cases (show _ = [] from q)
    | d1 :: d2 :: d3 :: _, k => obtain ⟨v, rr, e, _, v2, r2, e2, _, v3, r3, e3, _⟩ := k; cases e; cases e2; cases e3
  subst z1
  rw [hK]
  exact ⟨G1, z, rr, d, S1.g, k1, k2, e2, post_of S1 g1 q⟩
theorem by_one {o : Op} {a : ME} {fr : Bool} {Q : VK} (hK : kw X = c.K) (h1 : a.one = true) (h : tS c fr (.op o (.cons a .nil)) σ H Q) : tP c a σ H fun x H1 => rD1 (kw X) o fr x H1 Q := by
  obtain ⟨Fr, G, r, S, h⟩ := h
  refine (args1 h1 S (op_res h)).imp fun x H1 ⟨G1, r1, ds, S1, g1, a1, ds', d, e1, e2, d', e3, q⟩ => ?_
  cases e3
  have k := APs.fresh S1 a1 e1
  obtain ⟨z, z1, k1⟩ : ∃ (d1 : D), ds' = [d1] ∧ VW c.K G1 H1 d1 x := by
    match ds', k with
    | [d1], k =>
      obtain ⟨v, e, q1⟩ := VWs.one k
      cases e
      exact ⟨d1, rfl, q1⟩
    | [], k => cases (show _ = [] from k)
    | d1 :: d2 :: _, k => obtain ⟨v, rr, e, _, v2, r2, e2, _⟩ := k; cases e; cases e2
  subst z1
  rw [hK]
  exact ⟨G1, z, d, S1.g, k1, e2, post_of S1 g1 q⟩
theorem ArgsOk.plain : ∀ {m : ME} {es : List Expr}, ArgsOk c X m es → ∀ (pos : Pos) (env : PySem.Env), (backTo pos (starEach es env)).any (·.1) = false := by
  intro m
  induction m with
  | cons a m _ ih =>
    intro es h pos env
    cases es with
    | nil => exact h.elim
    | cons e es =>
      obtain ⟨_, _, h3, h4⟩ := h
      rw [h3]
      show ((false, _) :: backTo pos (starEach es env)).any _ = false
      rw [List.any_cons, ih h4]
      rfl
  | nil => intro es h; cases (show es = [] from h); intro _ _; rfl
  | _ => intro es h; exact h.elim
theorem isGl_of {x y : Str} (h : isGl k x y = true) : x = y ∧ k.names.lookup x = some .globalImplicit := by
  unfold isGl gl at h
  simp only [Bool.and_eq_true, decide_eq_true_eq] at h
  obtain ⟨h1, h2⟩ := h
  refine ⟨h1, ?_⟩
  split at h2
  · assumption
  · cases h2
theorem XOk0.gl0 (O : XOk0 X c k) {x : Str} (h : k.names.lookup x = some .globalImplicit) : Gl X x := by
  show X.env.scope.names.lookup x = _
  rw [O.nm]
  exact h
/-- a built-in function by its name -/
theorem pe_b (O : XOk0 X c k) {o : Op} {fr : Bool} {x : Str} {id : String} {a : ME} {e : Expr} {es : List Expr} {p pos : Pos} (hc : CallR X (.builtin id) (rDn (kw X) o fr)) (hx : k.names.lookup x = some .globalImplicit) (hb : x ∈ bnames)
    (hv : bootBuiltins x = some (.builtin id)) (ha : ArgsOk c X a (e :: es)) (hn : x ≠ "__name__" := by decide) (hdb : (x == ("__debug__" : Str)) = false := by decide) : PE X (.Call (.Name x p) (e :: es) [] pos) (tS c fr (.op o a)) := by
  cases a <;> try exact ha.elim
  case nil => cases (show e :: es = [] from ha)
  case cons a m =>
    refine peI (pe_callB hc (O.gl0 hx) (O.bt x hb) hv ha.pa hn hdb (ha.2.2.1 _) (ha.2.2.2.plain _ _)) fun σ H Q q => by_all O.K q
theorem pe_ty (O : XOk0 X c k) {o : Op} {fr : Bool} {x : Str} {id : String} {a : ME} {e : Expr} {es : List Expr} {p pos : Pos} (hc : CallR X (.type id) (rDn (kw X) o fr)) (hx : k.names.lookup x = some .globalImplicit) (hb : x ∈ bnames)
    (hv : bootBuiltins x = some (.type id)) (ha : ArgsOk c X a (e :: es)) (hn : x ≠ "__name__" := by decide) (hdb : (x == ("__debug__" : Str)) = false := by decide) : PE X (.Call (.Name x p) (e :: es) [] pos) (tS c fr (.op o a)) := by
  cases a <;> try exact ha.elim
  case nil => cases (show e :: es = [] from ha)
  case cons a m =>
    refine peI (pe_callTy hc (O.gl0 hx) (O.bt x hb) hv ha.pa hn hdb (ha.2.2.1 _) (ha.2.2.2.plain _ _)) fun σ H Q q => by_all O.K q
theorem ArgsOk.two {a : ME} {e1 e2 : Expr} (h : ArgsOk c X a [e1, e2]) : ∃ a1 a2, a = .cons a1 (.cons a2 .nil) ∧ a1.one = true ∧ a2.one = true ∧ PE X e1 (tP c a1) ∧ PE X e2 (tP c a2) := by
  cases a <;> try exact h.elim
  case nil => cases (show [e1, e2] = [] from h)
  case cons a m =>
    obtain ⟨h1, h2, _, h3⟩ := h
    cases m <;> try exact h3.elim
    case nil => cases (show [e2] = [] from h3)
    case cons b m =>
      obtain ⟨k1, k2, _, k3⟩ := h3
      cases m <;> try exact k3.elim
      case nil => exact ⟨a, b, rfl, h1, k1, h2, k2⟩
theorem ArgsOk.single {a : ME} {e1 : Expr} (h : ArgsOk c X a [e1]) : ∃ a1, a = .cons a1 .nil ∧ a1.one = true ∧ PE X e1 (tP c a1) := by
  cases a <;> try exact h.elim
  case nil => cases (show [e1] = [] from h)
  case cons a m =>
    obtain ⟨h1, h2, _, h3⟩ := h
    cases m <;> try exact h3.elim
    case nil => exact ⟨a, rfl, h1, h2⟩
theorem ArgsOk.three {a : ME} {e1 e2 e3 : Expr} (h : ArgsOk c X a [e1, e2, e3]) : ∃ a1 a2 a3, a = .cons a1 (.cons a2 (.cons a3 .nil)) ∧ a1.one = true ∧ a2.one = true ∧ a3.one = true ∧ PE X e1 (tP c a1) ∧ PE X e2 (tP c a2) ∧ PE X e3 (tP c a3) := by
  cases a <;> try exact h.elim
  case nil => cases (show [e1, e2, e3] = [] from h)
  case cons a m =>
    obtain ⟨h1, h2, _, h3⟩ := h
    obtain ⟨b, z, rfl, k1, k2, k3, k4⟩ := ArgsOk.two h3
    exact ⟨a, b, z, rfl, h1, k1, k2, h2, k3, k4⟩
/-- two operands -/
theorem pe_bin (O : XOk0 X c k) {o : Op} {fr : Bool} {op : Operator} {a : ME} {e1 e2 : Expr} {pos : Pos} (hc : OpR X (binaryOp op) (rD2 (kw X) o fr)) (ha : ArgsOk c X a [e1, e2]) : PE X (.BinOp e1 op e2 pos) (tS c fr (.op o a)) := by
  obtain ⟨a1, a2, rfl, h1, h2, p1, p2⟩ := ha.two
  exact peI (pe_op hc p1 p2) fun σ H Q q => by_two O.K h1 h2 q
theorem pe_cm (O : XOk0 X c k) {o : Op} {fr : Bool} {op : CmpOp} {a : ME} {e1 e2 : Expr} {pos : Pos} (hc : OpR X (compareOp op) (rD2 (kw X) o fr)) (hm : behindInMarks op e2 = false) (ha : ArgsOk c X a [e1, e2]) : PE X (.Compare e1 [op] [e2] pos) (tS c fr (.op o a)) := by
  obtain ⟨a1, a2, rfl, h1, h2, p1, p2⟩ := ha.two
  exact peI (pe_cmpR hc p1 p2 hm) fun σ H Q q => by_two O.K h1 h2 q
/-- a comparison's test: its value is a bool -/
theorem tT_tS {m : ME} {Q : Bool → Hp → Prop} (hb : ∀ r ds r', evl c m r = .ok ds r' → ∃ b, ds = [.bl b]) (h : tT c m σ H Q) : tS c true m σ H fun x H' => ∃ k, x = .bl k ∧ Q k H' := by
  obtain ⟨Fr, G, r, S, h⟩ := h
  refine ⟨Fr, G, r, S, ?_⟩
  have h : Res c Fr G σ ((evl c m r).bind fun x r1 => match x with
    | [x] => match x.tru with
      | some b => .ok b r1
      | none => .stk
    | _ => .stk) _ := h
  cases e : evl c m r with
  | stk => rw [e] at h; exact h
  | err n fs r1 => rw [e] at h; exact h
  | ok ds r1 =>
    rw [e] at h
    obtain ⟨b, rfl⟩ := hb r ds r1 e
    refine ⟨.bl b, rfl, fun v H' G' S' g sv => ⟨b, ?_, h H' G' S' g⟩⟩
    unfold SV FV at sv
    rw [if_pos rfl, if_neg (by exact Bool.false_ne_true)] at sv
    exact sv
theorem pt_cm (O : XOk0 X c k) {o : Op} {op : CmpOp} {a : ME} {e1 e2 : Expr} {pos : Pos} (hc : OpR X (compareOp op) (rD2 (kw X) o true)) (hm : behindInMarks op e2 = false) (ha : ArgsOk c X a [e1, e2])
    (hb : ∀ r ds r', evl c (.op o a) r = .ok ds r' → ∃ b, ds = [.bl b]) : PT X (.Compare e1 [op] [e2] pos) (tT c (.op o a)) := by
  obtain ⟨a1, a2, rfl, h1, h2, p1, p2⟩ := ha.two
  exact ptI (pt_cmpR hc p1 p2 hm) fun σ H Q q => by_two O.K h1 h2 (tT_tS hb q)
theorem bl_of_op {o : Op} {a : ME} (ho : ∀ ds d, ap o ds = some d → ∃ b, d = .bl b) : ∀ r ds r', evl c (.op o a) r = .ok ds r' → ∃ b, ds = [.bl b] := by
  intro r ds r' h
  obtain ⟨x, r1, _, h⟩ := bind_ok (show ((evl c a r).bind fun x r1 => match a.fresh x r1 with
    | some x => match o.ap shownD x with
      | some d => .ok [d] r1
      | none => .stk
    | none => .stk) = .ok ds r' from h)
  split at h
  · split at h
    · rename_i d e
      cases h
      obtain ⟨b, rfl⟩ := ho _ _ e
      exact ⟨b, rfl⟩
    · cases h
  · cases h

theorem SV_fr_rv {d : D} {v : V} {fr : Bool} (h : RV c.K G d v) (hd : d.mutb = false) : SV c.K fr Fr G H σ r d v := by
  unfold SV FV
  split
  · rw [if_neg (by rw [hd]; exact Bool.false_ne_true)]
    exact h
  · exact h
/-- all frozen, no name in passing -/
def noNm : ME → Bool
  | .cons a m => !isNm a && noNm m
  | .nil => true
  | _ => false
theorem APs.rvs : ∀ {m : ME} {ds : List D} {vs : List V}, noNm m = true → APs c.K G σ m ds vs → RVs c.K G ds vs := by
  intro m
  induction m with
  | cons a m _ ih =>
    intro ds vs hn h
    have hn : (!isNm a && noNm m) = true := hn
    simp only [Bool.and_eq_true, Bool.not_eq_true'] at hn
    cases ds with
    | nil => cases a <;> exact h.elim
    | cons d ds =>
      cases vs with
      | nil => cases a <;> exact h.elim
      | cons v vs =>
        cases a <;> first | exact RVs.cons h.1 (ih hn.2 h.2) | exact Bool.noConfusion hn.1
  | nil =>
    intro ds vs _ h
    obtain ⟨rfl, rfl⟩ := h
    exact RVs.nil
  | _ => intro ds vs h; cases h
theorem fresh_same : ∀ {m : ME} {ds ds' : List D} {r : Env}, noNm m = true → m.fresh ds r = some ds' → ds' = ds := by
  intro m
  induction m with
  | cons a m _ ih =>
    intro ds ds' r hn h
    have hn : (!isNm a && noNm m) = true := hn
    simp only [Bool.and_eq_true, Bool.not_eq_true'] at hn
    cases ds with
    | nil => cases a <;> cases h
    | cons d ds =>
      have h1 : (m.fresh ds r).map (d :: ·) = some ds' := by
        cases a <;> first | exact h | exact Bool.noConfusion hn.1
      cases e : m.fresh ds r with
      | none => rw [e] at h1; cases h1
      | some l =>
        rw [e] at h1
        cases h1
        rw [ih hn.2 e]
  | nil => intro ds ds' r _ h; cases ds <;> cases h; rfl
  | _ => intro ds ds' r h; cases h
/-- a display: the values, then a new object -/
theorem disp_post {o : Op} {a : ME} {Q : VK} (hn : noNm a = true) (h : tS c true (.op o a) σ H Q) (mk : List V → HO) (ho : ∀ ds d, ap o ds = some d → ds.length ≤ sizeLine ∧ ∀ G p vs, RVs c.K G ds vs → NewO c.K G p d (mk vs)) :
    tA c a σ H fun xs H1 => xs.length ≤ sizeLine ∧ ∀ p, H1 p = none → Q (.ref p) (upd H1 p (mk xs)) := by
  obtain ⟨Fr, G, r, S, h⟩ := h
  refine ⟨Fr, G, r, S, (op_res h).mono fun ds r1 ⟨ds', d, e1, e2, d', e3, q⟩ vs H1 G1 S1 g1 a1 => ?_⟩
  cases e3
  have e4 := fresh_same hn e1
  subst e4
  have rv := APs.rvs hn a1
  obtain ⟨hl, hN⟩ := ho _ _ e2
  exact ⟨by rw [RVs.len rv]; exact hl, fun p hp => (post_of S1 g1 q).new p _ hp (hN G1 p vs rv)⟩
theorem pe_dt (O : XOk0 X c k) {a : ME} {es : List Expr} {kk : Nat} {pos : Pos} (hn : noNm a = true) (ha : PA X es (tA c a)) : PE X (.Tuple es kk pos) (tS c true (.op .tup a)) :=
  peI (pe_tup ha) fun σ H Q q => disp_post hn q .tup fun ds d e => by
    have e : (if ds.length ≤ line then some (D.tup ds) else none) = some d := e
    split at e
    · rename_i hl
      cases e
      exact ⟨by rw [← line_eq]; exact hl, fun G p vs rv => ⟨vs, rfl, rv⟩⟩
    · cases e
theorem pe_dl (O : XOk0 X c k) {a : ME} {es : List Expr} {pos : Pos} (hn : noNm a = true) (ha : PA X es (tA c a)) : PE X (.List es pos) (tS c true (.op .lst a)) :=
  peI (pe_lst ha) fun σ H Q q => disp_post hn q .lst fun ds d e => by
    have e : (if ds.length ≤ line then some (D.lst ds) else none) = some d := e
    split at e
    · rename_i hl
      cases e
      exact ⟨by rw [← line_eq]; exact hl, fun G p vs rv => ⟨vs, rfl, rv⟩⟩
    · cases e
theorem nomark' (b : Expr) {op : CmpOp} (h : isSet b = false) : behindInMarks op b = false := by
  cases b <;> first | rfl | exact Bool.noConfusion h
theorem pix {b : Expr} (h : plainIx b = true) : PlainIx b := by
  cases b <;> first | exact fun _ _ => rfl | exact Bool.noConfusion h
theorem pe_sl (O : XOk0 X c k) {lo hi : Bool} {a : ME} {e : Expr} {l h : Option Expr} {p2 pos : Pos} (hl : l.isSome = lo) (hh : h.isSome = hi) (hb : (lo && hi) = false) (ha : ArgsOk c X a (e :: (l.toList ++ h.toList))) : PE X (.Subscript e (.Slice l h none p2) pos) (tS c true (.op (.sl lo hi) a)) := by
  have post : ∀ {σ : L2.St} {H2 : Hp} {xs : List V} {G r1 ds} {Q : VK} {Fr : Hp}, (∃ (G1 : Hp) (r2 : Env) (ds : List D), SR c.K c.io Fr G1 σ H2 r2 ∧ Same G G1 ∧ APs c.K G1 σ a ds xs ∧ ∃ ds' d, a.fresh ds r2 = some ds' ∧ ap (.sl lo hi) ds' = some d ∧ ∃ d', [d] = [d'] ∧ ∀ (v : V) (H' G' : Hp), SR c.K c.io Fr G' σ H' r2 → Same G G' → SV c.K true Fr G' H' σ r2 d' v → Q v H') → (r1 : Env) = r1 → (ds : List D) = ds →
      ∃ (G1 : Hp) (ds' : List D) (d : D), Same G1 H2 ∧ VWs c.K G1 H2 ds' xs ∧ ap (.sl lo hi) ds' = some d ∧ OpPost c.K G1 H2 true d Q := by
    intro σ H2 xs G r1 ds Q Fr ⟨G1, r2, ds, S1, g1, a1, ds', d, e1, e2, d', e3, q⟩ _ _
    cases e3
    exact ⟨G1, ds', d, S1.g, APs.fresh S1 a1 e1, e2, post_of S1 g1 q⟩
  cases l with
  | none =>
    cases h with
    | none =>
      cases hl; cases hh
      obtain ⟨a1, rfl, h1, p1⟩ := ArgsOk.single ha
      refine peI (pe_slice sl_D p1 po_none po_none) fun σ H Q q => ?_
      obtain ⟨Fr, G, r, S, q⟩ := q
      refine (args1 h1 S (op_res q)).imp fun x H1 q => ?_
      obtain ⟨G1, ds', d, g, kv, e2, q⟩ := post q (rfl : r = r) (rfl : ([] : List D) = [])
      match ds', kv, e2 with
      | [d1], kv, e2 =>
        obtain ⟨v, e, q1⟩ := VWs.one kv
        cases e
        rw [← O.K] at q1 q
        exact ⟨G1, d1, d, g, q1, e2, q⟩
      | [], kv, _ => cases (show _ = [] from kv)
      | d1 :: d2 :: _, kv, _ => obtain ⟨v, rr, e, _, v2, r2, e2, _⟩ := kv; cases e; cases e2
    | some y =>
      cases hl; cases hh
      obtain ⟨a1, a2, rfl, h1, h2, p1, p2⟩ := ArgsOk.two ha
      refine peI (pe_slice sl_D p1 po_none (po_some p2)) fun σ H Q q => ?_
      obtain ⟨Fr, G, r, S, q⟩ := q
      refine (args2 h1 h2 S (op_res q)).imp fun x H1 q => q.imp fun y H2 q => ?_
      obtain ⟨G1, ds', d, g, kv, e2, q⟩ := post q (rfl : r = r) (rfl : ([] : List D) = [])
      match ds', kv, e2 with
      | [d1, .int j], kv, e2 =>
        obtain ⟨v, w, e, q1, q2⟩ := VWs.two kv
        cases e
        rw [← O.K] at q1 q
        exact ⟨j, q2.int, G1, d1, d, g, q1, e2, q⟩
      | [], kv, _ => cases (show _ = [] from kv)
      | [d1], kv, _ => obtain ⟨v, rr, e, _, q⟩ := kv; cases e; cases (show _ = [] from q)
      | [_, .non], _, e2 | [_, .bl _], _, e2 | [_, .str _], _, e2 | [_, .tup _], _, e2 | [_, .lst _], _, e2 | [_, .dct _], _, e2 => cases e2
      | d1 :: d2 :: d3 :: _, kv, _ => obtain ⟨v, rr, e, _, v2, r2, e2, _, v3, r3, e3, _⟩ := kv; cases e; cases e2; cases e3
  | some x0 =>
    cases h with
    | none =>
      cases hl; cases hh
      obtain ⟨a1, a2, rfl, h1, h2, p1, p2⟩ := ArgsOk.two ha
      refine peI (pe_slice sl_D p1 (po_some p2) po_none) fun σ H Q q => ?_
      obtain ⟨Fr, G, r, S, q⟩ := q
      refine (args2 h1 h2 S (op_res q)).imp fun x H1 q => q.imp fun y H2 q => ?_
      obtain ⟨G1, ds', d, g, kv, e2, q⟩ := post q (rfl : r = r) (rfl : ([] : List D) = [])
      match ds', kv, e2 with
      | [d1, .int j], kv, e2 =>
        obtain ⟨v, w, e, q1, q2⟩ := VWs.two kv
        cases e
        rw [← O.K] at q1 q
        exact ⟨j, q2.int, G1, d1, d, g, q1, e2, q⟩
      | [], kv, _ => cases (show _ = [] from kv)
      | [d1], kv, _ => obtain ⟨v, rr, e, _, q⟩ := kv; cases e; cases (show _ = [] from q)
      | [_, .non], _, e2 | [_, .bl _], _, e2 | [_, .str _], _, e2 | [_, .tup _], _, e2 | [_, .lst _], _, e2 | [_, .dct _], _, e2 => cases e2
      | d1 :: d2 :: d3 :: _, kv, _ => obtain ⟨v, rr, e, _, v2, r2, e2, _, v3, r3, e3, _⟩ := kv; cases e; cases e2; cases e3
    | some y0 =>
      cases hl
      cases hh
      cases hb
end
end VL

/-! VL7: every operation's node. -/
namespace VL
open PySem PySem.Spec L2
section
variable {X : Cx} {c : Cfg} {k : CkE} {Fr G G' H H' : Hp} {σ : L2.St} {r : Env}
theorem boot_ty (t : Ty) : bootBuiltins (t.name : Str) = some (.type t.name) := by cases t <;> decide +kernel
theorem ty_bn (t : Ty) : (t.name : Str) ∈ bnames := by cases t <;> decide +kernel
theorem ty_dbg (t : Ty) : ((t.name : Str) == ("__debug__" : Str)) = false := by cases t <;> decide +kernel
theorem ty_nn (t : Ty) : (t.name : Str) ≠ "__name__" := by cases t <;> decide +kernel
theorem pe_isi (O : XOk0 X c k) {t : Ty} {a : ME} {e : Expr} {p p2 pos : Pos} (hx : k.names.lookup ("isinstance" : Str) = some .globalImplicit) (ht : k.names.lookup (t.name : Str) = some .globalImplicit) (ha : ArgsOk c X a [e]) :
    PE X (.Call (.Name "isinstance" p) [e, .Name t.name p2] [] pos) (tS c true (.op (.isi t) a)) := by
  cases a <;> try exact ha.elim
  case nil => cases (show [e] = [] from ha)
  case cons a m =>
    obtain ⟨h1, p1, h3, h4⟩ := ha
    cases m <;> try exact h4.elim
    case nil =>
      have p2' : PE X (.Name t.name p2) (tC (.ty t.name)) := pe_bltn (O.gl0 ht) (O.bt _ (ty_bn t)) (boot_ty t) (show RelV (.ty t.name) (.type t.name) from rfl) (ty_nn t) (ty_dbg t)
      have hst : ∀ env, starEach (e :: [Expr.Name t.name p2]) env = (false, eval e env) :: starEach [Expr.Name t.name p2] env := fun env => by
        have := h3 env
        cases e <;> first | rfl | (exfalso; simp [starEach] at this)
      refine peI (pe_callB (cr_isi t) (O.gl0 hx) (O.bt _ (by decide +kernel)) (by decide +kernel) (pa_cons p1 (pa_cons p2' pa_nil) (hst _)) (by decide) (by decide) (hst _) (by rfl)) fun σ H Q q => ?_
      exact (by_one O.K h1 q).imp fun x H1 q => ⟨x, rfl, q⟩
theorem ap_not {d1 d : D} (h : ap .not_ [d1] = some d) : ∃ b, d1.tru = some b ∧ d = .bl (!b) := by
  have h : (d1.tru.map fun b => D.bl (!b)) = some d := h
  cases e : d1.tru with
  | none => rw [e] at h; cases h
  | some b =>
    rw [e] at h
    cases h
    exact ⟨b, rfl, rfl⟩
theorem is_none {X : Cx} {e : Expr} {ta : TE} {kk : Nat} {pos p2 : Pos} {op : CmpOp} {r : V → Hp → VK → Prop} (ho : OpR X (compareOp op) fun x y H Q => y = .non ∧ r x H Q) (hm : behindInMarks op (.Constant .none kk p2) = false) (h : PE X e ta) : PE X (.Compare e [op] [.Constant .none kk p2] pos) (tUn r ta) :=
  peI (pe_cmpR ho h pe_non hm) fun σ H Q q => by
    refine (show ta σ H fun x H1 => (tC .non) σ H1 fun y H2 => y = .non ∧ r x H2 Q from ?_)
    have : (fun x H1 => (tC V.non) σ H1 fun y H2 => y = .non ∧ r x H2 Q) = fun x H1 => r x H1 Q := by
      funext x H1
      show (V.non = V.non ∧ r x H1 Q) = r x H1 Q
      simp
    rw [this]
    exact q
theorem is_blT {X : Cx} {e : Expr} {ta : TE} {kk : Nat} {pos p2 : Pos} {op : CmpOp} {b : Bool} {r : V → Hp → VK → Prop} (ho : OpR X (compareOp op) fun x y H Q => y = .bl b ∧ r x H Q) (hm : behindInMarks op (.Constant (.bool b) kk p2) = false) (h : PE X e ta) :
    PE X (.Compare e [op] [.Constant (.bool b) kk p2] pos) (tUn r ta) ∧ PT X (.Compare e [op] [.Constant (.bool b) kk p2] pos) (tTest (tUn r ta)) := by
  have key : ∀ (R : VK), (fun x H1 => (tC (V.bl b)) ([] : L2.St) H1 fun y H2 => y = .bl b ∧ r x H2 R) = fun x H1 => r x H1 R := fun R => by
    funext x H1
    show (V.bl b = V.bl b ∧ r x H1 R) = r x H1 R
    simp
  refine ⟨peI (pe_cmpR ho h pe_bl hm) fun σ H Q q => ?_, ptI (pt_cmpR ho h pe_bl hm) fun σ H Q q => ?_⟩
  · refine (show ta σ H fun x H1 => (tC (V.bl b)) σ H1 fun y H2 => y = .bl b ∧ r x H2 Q from ?_)
    have e : (fun x H1 => (tC (V.bl b)) σ H1 fun y H2 => y = .bl b ∧ r x H2 Q) = fun x H1 => r x H1 Q := key Q
    rw [e]
    exact q
  · refine (show ta σ H fun x H1 => (tC (V.bl b)) σ H1 fun y H2 => y = .bl b ∧ r x H2 (fun x H' => ∃ k, x = .bl k ∧ Q k H') from ?_)
    have e : (fun x H1 => (tC (V.bl b)) σ H1 fun y H2 => y = .bl b ∧ r x H2 (fun x H' => ∃ k, x = .bl k ∧ Q k H')) = fun x H1 => r x H1 (fun x H' => ∃ k, x = .bl k ∧ Q k H') := key _
    rw [e]
    exact q
theorem op_pe (O : XOk0 X c k) {o : Op} {a : ME} {e : Expr} {pk : Bool} {es : List Expr} (hs : splitOp k o e = some (pk, es)) (ha : ArgsOk c X a es) (hn : pk = false → noNm a = true) : PE X e (tS c ((ME.op o a).fr c.P) (.op o a)) := by
  have c1 : ∀ {fn : Str} {id : String}, call1 k fn e = some (pk, es) → bootBuiltins fn = some (.builtin id) → fn ∈ bnames → fn ≠ "__name__" → (fn == ("__debug__" : Str)) = false → CallR X (.builtin id) (rDn (kw X) o true) → PE X e (tS c true (.op o a)) := by
    intro fn id h hv hb h1 h2 hc
    unfold call1 at h
    split at h
    · split at h
      · rename_i hg
        cases h
        obtain ⟨rfl, hg2⟩ := isGl_of hg
        exact pe_b O hc hg2 hb hv ha h1 h2
      · cases h
    · cases h
  have c1t : ∀ {fn : Str} {id : String}, call1 k fn e = some (pk, es) → bootBuiltins fn = some (.type id) → fn ∈ bnames → fn ≠ "__name__" → (fn == ("__debug__" : Str)) = false → CallR X (.type id) (rDn (kw X) o true) → PE X e (tS c true (.op o a)) := by
    intro fn id h hv hb h1 h2 hc
    unfold call1 at h
    split at h
    · split at h
      · rename_i hg
        cases h
        obtain ⟨rfl, hg2⟩ := isGl_of hg
        exact pe_ty O hc hg2 hb hv ha h1 h2
      · cases h
    · cases h
  have c2 : ∀ {fn : Str} {id : String}, call2 k fn e = some (pk, es) → bootBuiltins fn = some (.builtin id) → fn ∈ bnames → fn ≠ "__name__" → (fn == ("__debug__" : Str)) = false → CallR X (.builtin id) (rDn (kw X) o true) → PE X e (tS c true (.op o a)) := by
    intro fn id h hv hb h1 h2 hc
    unfold call2 at h
    split at h
    · split at h
      · rename_i hg
        cases h
        obtain ⟨rfl, hg2⟩ := isGl_of hg
        exact pe_b O hc hg2 hb hv ha h1 h2
      · cases h
    · cases h
  cases o with
  | tup =>
    unfold splitOp at hs
    dsimp only at hs
    split at hs <;> cases hs
    exact pe_dt O (hn rfl) ha.pa
  | lst =>
    unfold splitOp at hs
    dsimp only at hs
    split at hs <;> cases hs
    exact pe_dl O (hn rfl) ha.pa
  | isi t =>
    unfold splitOp at hs
    dsimp only at hs
    split at hs
    · split at hs
      · rename_i hg
        cases hs
        simp only [Bool.and_eq_true] at hg
        obtain ⟨rfl, g1⟩ := isGl_of hg.1
        obtain ⟨rfl, g2⟩ := isGl_of hg.2
        exact pe_isi O g1 g2 ha
      · cases hs
    · cases hs
  | len => exact c1 hs (by decide +kernel) (by decide +kernel) (by decide) (by decide) cr_len
  | all => exact c1 hs (by decide +kernel) (by decide +kernel) (by decide) (by decide) (cr_all O.g)
  | any => exact c1 hs (by decide +kernel) (by decide +kernel) (by decide) (by decide) (cr_any O.g)
  | repr => exact c1 hs (by decide +kernel) (by decide +kernel) (by decide) (by decide) (cr_repr O.g)
  | sorted => exact c1 hs (by decide +kernel) (by decide +kernel) (by decide) (by decide) (cr_sorted O.g)
  | toInt => exact c1t hs (by decide +kernel) (by decide +kernel) (by decide) (by decide) cr_int
  | toList => exact c1t hs (by decide +kernel) (by decide +kernel) (by decide) (by decide) cr_list
  | toTuple => exact c1t hs (by decide +kernel) (by decide +kernel) (by decide) (by decide) cr_tuple
  | max2 => exact c2 hs (by decide +kernel) (by decide +kernel) (by decide) (by decide) (cr_max2 O.g)
  | min2 => exact c2 hs (by decide +kernel) (by decide +kernel) (by decide) (by decide) (cr_min2 O.g)
  | eq =>
    unfold splitOp at hs
    dsimp only at hs
    split at hs <;> cases hs
    exact pe_cm O (r2_eq O.g.toXG0) (nomark _) ha
  | ne =>
    unfold splitOp at hs
    dsimp only at hs
    split at hs <;> cases hs
    exact pe_cm O (r2_ne O.g.toXG0) (nomark _) ha
  | lt =>
    unfold splitOp at hs
    dsimp only at hs
    split at hs <;> cases hs
    exact pe_cm O r2_lt (nomark _) ha
  | le =>
    unfold splitOp at hs
    dsimp only at hs
    split at hs <;> cases hs
    exact pe_cm O r2_le (nomark _) ha
  | gt =>
    unfold splitOp at hs
    dsimp only at hs
    split at hs <;> cases hs
    exact pe_cm O r2_gt (nomark _) ha
  | ge =>
    unfold splitOp at hs
    dsimp only at hs
    split at hs <;> cases hs
    exact pe_cm O r2_ge (nomark _) ha
  | isin =>
    unfold splitOp at hs
    dsimp only at hs
    split at hs
    · split at hs
      · cases hs
      · rename_i hz
        cases hs
        exact pe_cm O (r2_in O.g.toXG0) (nomark' _ (by simpa using hz)) ha
    · cases hs
  | notin =>
    unfold splitOp at hs
    dsimp only at hs
    split at hs
    · split at hs
      · cases hs
      · rename_i hz
        cases hs
        exact pe_cm O (r2_notin O.g.toXG0) (nomark' _ (by simpa using hz)) ha
    · cases hs
  | isN =>
    unfold splitOp at hs
    dsimp only at hs
    split at hs <;> cases hs
    obtain ⟨a1, rfl, h1, p1⟩ := ha.single
    exact peI (is_none r2_isN (nomark _) p1) fun σ H Q q => by_one O.K h1 q
  | isB b =>
    unfold splitOp at hs
    dsimp only at hs
    split at hs
    · split at hs
      · rename_i hz
        cases hs
        obtain rfl := beq_iff_eq.mp hz
        obtain ⟨a1, rfl, h1, p1⟩ := ha.single
        exact peI (is_blT r2_isB (nomark _) p1).1 fun σ H Q q => by_one O.K h1 q
      · cases hs
    · cases hs
  | isntB b =>
    unfold splitOp at hs
    dsimp only at hs
    split at hs
    · split at hs
      · rename_i hz
        cases hs
        obtain rfl := beq_iff_eq.mp hz
        obtain ⟨a1, rfl, h1, p1⟩ := ha.single
        exact peI (is_blT r2_isntB (nomark _) p1).1 fun σ H Q q => by_one O.K h1 q
      · cases hs
    · cases hs
  | notN =>
    unfold splitOp at hs
    dsimp only at hs
    split at hs <;> cases hs
    obtain ⟨a1, rfl, h1, p1⟩ := ha.single
    exact peI (is_none r2_notN (nomark _) p1) fun σ H Q q => by_one O.K h1 q
  | add =>
    unfold splitOp at hs
    dsimp only at hs
    split at hs <;> cases hs
    exact pe_bin O r2_add ha
  | sub =>
    unfold splitOp at hs
    dsimp only at hs
    split at hs <;> cases hs
    exact pe_bin O r2_sub ha
  | mul =>
    unfold splitOp at hs
    dsimp only at hs
    split at hs <;> cases hs
    exact pe_bin O r2_mul ha
  | mod =>
    unfold splitOp at hs
    dsimp only at hs
    split at hs <;> cases hs
    exact pe_bin O r2_mod ha
  | fdiv =>
    unfold splitOp at hs
    dsimp only at hs
    split at hs <;> cases hs
    exact pe_bin O r2_fdiv ha
  | pow =>
    unfold splitOp at hs
    dsimp only at hs
    split at hs <;> cases hs
    exact pe_bin O r2_pow ha
  | neg =>
    unfold splitOp at hs
    dsimp only at hs
    split at hs <;> cases hs
    obtain ⟨a1, rfl, h1, p1⟩ := ha.single
    exact peI (pe_un r1_neg p1) fun σ H Q q => by_one O.K h1 q
  | not_ =>
    unfold splitOp at hs
    dsimp only at hs
    split at hs <;> cases hs
    obtain ⟨a1, rfl, h1, p1⟩ := ha.single
    refine peI (pe_notT p1) fun σ H Q q => (by_one O.K h1 q).imp fun x H1 ⟨G1, d1, d, g1, kv, e2, q⟩ => ?_
    obtain ⟨b, e3, rfl⟩ := ap_not e2
    exact ⟨b, tru_D g1 kv e3, bl_post q⟩
  | ix =>
    unfold splitOp at hs
    dsimp only at hs
    split at hs
    · split at hs
      · rename_i hz
        cases hs
        obtain ⟨a1, a2, rfl, h1, h2, p1, p2⟩ := ha.two
        exact peI (pe_ix (ix_D O.g.toXG0) p1 p2 (pix hz)) fun σ H Q q => by_two O.K h1 h2 q
      · cases hs
    · cases hs
  | sl lo hi =>
    unfold splitOp at hs
    dsimp only at hs
    split at hs
    · split at hs
      · rename_i hz
        cases hs
        simp only [Bool.and_eq_true, decide_eq_true_eq, Bool.not_eq_true'] at hz
        exact pe_sl O hz.1.1 hz.1.2 hz.2 ha
      · cases hs
    · cases hs
  | range1 => cases hs
  | range2 => cases hs
  | enum => cases hs
  | slrev => cases hs
/-- comparisons as tests -/
def isCmp : Op → Bool
  | .eq | .ne | .lt | .le | .gt | .ge | .isin | .notin | .isN | .notN => true
  | .isB _ | .isntB _ => true
  | _ => false
theorem ap_in {a b d : D} (h : ap .isin [a, b] = some d) : ∃ b, d = .bl b := by
  cases b with
  | str t =>
    cases a with
    | str s =>
      have h : (match s.cps.toList with
        | [c] => some (D.bl (decide (c ∈ t.cps.toList)))
        | _ => none) = some d := h
      split at h <;> cases h
      exact ⟨_, rfl⟩
    | _ => cases h
  | lst xs => obtain ⟨_, h⟩ := ite_some h; exact ⟨_, h.symm⟩
  | tup xs => obtain ⟨_, h⟩ := ite_some h; exact ⟨_, h.symm⟩
  | dct xs => obtain ⟨_, h⟩ := ite_some h; exact ⟨_, h.symm⟩
  | _ => cases h
theorem ap_notin {a b d : D} (h : ap .notin [a, b] = some d) : ∃ b, d = .bl b := by
  cases b with
  | str t =>
    cases a with
    | str s =>
      have h : (match s.cps.toList with
        | [c] => some (D.bl (!decide (c ∈ t.cps.toList)))
        | _ => none) = some d := h
      split at h <;> cases h
      exact ⟨_, rfl⟩
    | _ => cases h
  | lst xs => obtain ⟨_, h⟩ := ite_some h; exact ⟨_, h.symm⟩
  | tup xs => obtain ⟨_, h⟩ := ite_some h; exact ⟨_, h.symm⟩
  | dct xs => obtain ⟨_, h⟩ := ite_some h; exact ⟨_, h.symm⟩
  | _ => cases h
theorem ap_bl {o : Op} (ho : isCmp o = true) : ∀ ds d, ap o ds = some d → ∃ b, d = .bl b := by
  intro ds d h
  cases o <;> try (exact Bool.noConfusion ho)
  all_goals
    match ds, h with
    | [], h => cases h
    | _ :: _ :: _ :: _, h => cases h
    | [a], h => first | (cases h; done) | (cases h; exact ⟨_, rfl⟩)
    | [a, b], h => first
      | (exact ap_in h)
      | (exact ap_notin h)
      | (cases h; done)
      | (obtain ⟨_, h⟩ := ite_some h; exact ⟨_, h.symm⟩)
      | (cases a <;> first | (cases h; done) | (cases b <;> first | (cases h; done) | (cases h; exact ⟨_, rfl⟩)))
theorem is_noneT {X : Cx} {e : Expr} {ta : TE} {kk : Nat} {pos p2 : Pos} {op : CmpOp} {r : V → Hp → VK → Prop} (ho : OpR X (compareOp op) fun x y H Q => y = .non ∧ r x H Q) (hm : behindInMarks op (.Constant .none kk p2) = false) (h : PE X e ta) : PT X (.Compare e [op] [.Constant .none kk p2] pos) (tTest (tUn r ta)) :=
  ptI (pt_cmpR ho h pe_non hm) fun σ H Q q => by
    refine (show ta σ H fun x H1 => (tC .non) σ H1 fun y H2 => y = .non ∧ r x H2 (fun x H' => ∃ k, x = .bl k ∧ Q k H') from ?_)
    have : (fun x H1 => (tC V.non) σ H1 fun y H2 => y = .non ∧ r x H2 (fun x H' => ∃ k, x = .bl k ∧ Q k H')) = fun x H1 => r x H1 (fun x H' => ∃ k, x = .bl k ∧ Q k H') := by
      funext x H1
      show (V.non = V.non ∧ r x H1 _) = r x H1 _
      simp
    rw [this]
    exact q
theorem op_pt (O : XOk0 X c k) {o : Op} {a : ME} {e : Expr} {pk : Bool} {es : List Expr} (ho : isCmp o = true) (hs : splitOp k o e = some (pk, es)) (ha : ArgsOk c X a es) : PT X e (tT c (.op o a)) := by
  have hb := bl_of_op (c := c) (a := a) (ap_bl ho)
  cases o <;> try (exact Bool.noConfusion ho)
  case isin =>
    unfold splitOp at hs
    dsimp only at hs
    split at hs
    · split at hs
      · cases hs
      · rename_i hz
        cases hs
        exact pt_cm O (r2_in O.g.toXG0) (nomark' _ (by simpa using hz)) ha hb
    · cases hs
  case notin =>
    unfold splitOp at hs
    dsimp only at hs
    split at hs
    · split at hs
      · cases hs
      · rename_i hz
        cases hs
        exact pt_cm O (r2_notin O.g.toXG0) (nomark' _ (by simpa using hz)) ha hb
    · cases hs
  case isN =>
    unfold splitOp at hs
    dsimp only at hs
    split at hs <;> cases hs
    obtain ⟨a1, rfl, h1, p1⟩ := ha.single
    exact ptI (is_noneT r2_isN (nomark _) p1) fun σ H Q q => by_one O.K h1 (tT_tS hb q)
  case isB b =>
    unfold splitOp at hs
    dsimp only at hs
    split at hs
    · split at hs
      · rename_i hz
        cases hs
        obtain rfl := beq_iff_eq.mp hz
        obtain ⟨a1, rfl, h1, p1⟩ := ha.single
        exact ptI (is_blT r2_isB (nomark _) p1).2 fun σ H Q q => by_one O.K h1 (tT_tS hb q)
      · cases hs
    · cases hs
  case isntB b =>
    unfold splitOp at hs
    dsimp only at hs
    split at hs
    · split at hs
      · rename_i hz
        cases hs
        obtain rfl := beq_iff_eq.mp hz
        obtain ⟨a1, rfl, h1, p1⟩ := ha.single
        exact ptI (is_blT r2_isntB (nomark _) p1).2 fun σ H Q q => by_one O.K h1 (tT_tS hb q)
      · cases hs
    · cases hs
  case notN =>
    unfold splitOp at hs
    dsimp only at hs
    split at hs <;> cases hs
    obtain ⟨a1, rfl, h1, p1⟩ := ha.single
    exact ptI (is_noneT r2_notN (nomark _) p1) fun σ H Q q => by_one O.K h1 (tT_tS hb q)
  case eq =>
    unfold splitOp at hs
    dsimp only at hs
    split at hs <;> cases hs
    exact pt_cm O (r2_eq O.g.toXG0) (nomark _) ha hb
  case ne =>
    unfold splitOp at hs
    dsimp only at hs
    split at hs <;> cases hs
    exact pt_cm O (r2_ne O.g.toXG0) (nomark _) ha hb
  case lt =>
    unfold splitOp at hs
    dsimp only at hs
    split at hs <;> cases hs
    exact pt_cm O r2_lt (nomark _) ha hb
  case le =>
    unfold splitOp at hs
    dsimp only at hs
    split at hs <;> cases hs
    exact pt_cm O r2_le (nomark _) ha hb
  case gt =>
    unfold splitOp at hs
    dsimp only at hs
    split at hs <;> cases hs
    exact pt_cm O r2_gt (nomark _) ha hb
  case ge =>
    unfold splitOp at hs
    dsimp only at hs
    split at hs <;> cases hs
    exact pt_cm O r2_ge (nomark _) ha hb
end
end VL

/-! VL8: targets; what is walked. -/
namespace VL
open PySem PySem.Spec L2

/-! ### wiped slots -/
theorem wipe_get {σ : L2.St} {i : Nat} : ∀ {vs : List Nat}, (i ∉ vs → (wipe σ vs)[i]? = σ[i]?) ∧ (i ∈ vs → (wipe σ vs)[i]? = if i < σ.length then some none else none)
  | [] => ⟨fun _ => rfl, fun h => absurd h (by simp)⟩
  | v :: vs => by
    obtain ⟨h1, h2⟩ := @wipe_get σ i vs
    refine ⟨fun h => ?_, fun h => ?_⟩
    · rw [List.mem_cons, not_or] at h
      show ((wipe σ vs).set v none)[i]? = _
      rw [List.getElem?_set_ne (Ne.symm h.1)]
      exact h1 h.2
    · show ((wipe σ vs).set v none)[i]? = _
      by_cases z : v = i
      · subst z
        by_cases hl : v < σ.length
        · rw [List.getElem?_set_self (by rw [wipe_length]; exact hl), if_pos hl]
        · rw [List.getElem?_eq_none (by rw [List.length_set, wipe_length]; omega), if_neg hl]
      · rw [List.getElem?_set_ne z]
        rcases List.mem_cons.mp h with e | e
        · exact absurd e.symm z
        · exact h2 e
theorem wipe_set {σ : L2.St} {j : Nat} {x : Option V} {vs : List Nat} (h : j ∈ vs) : wipe (σ.set j x) vs = wipe σ vs := by
  refine List.ext_getElem? fun i => ?_
  by_cases hi : i ∈ vs
  · rw [wipe_get.2 hi, wipe_get.2 hi, List.length_set]
  · rw [wipe_get.1 hi, wipe_get.1 hi, List.getElem?_set_ne]
    rintro rfl
    exact hi h
theorem wipeE_set (r : Env) (v : Nat) : ∀ vs : List Nat, wipeE (r.set v .un) vs = (wipeE r vs).set v .un
  | [] => rfl
  | w :: vs => by
    show wipeE ((r.set v .un).set w .un) vs = (wipeE (r.set w .un) vs).set v .un
    rw [← wipeE_set (r.set w .un) v vs]
    congr 1
    by_cases z : v = w
    · subst z; rfl
    · exact List.set_comm _ _ z
theorem wipeE_out (r : Env) {i : Nat} : ∀ vs : List Nat, i ∉ vs → (wipeE r vs)[i]? = r[i]?
  | [], _ => rfl
  | w :: vs, h => by
    rw [List.mem_cons, not_or] at h
    show (wipeE (r.set w .un) vs)[i]? = _
    rw [wipeE_out _ vs h.2, List.getElem?_set_ne (Ne.symm h.1)]
theorem wipeE_len (r : Env) : ∀ vs : List Nat, (wipeE r vs).length = r.length
  | [] => rfl
  | w :: vs => by
    show (wipeE (r.set w .un) vs).length = _
    rw [wipeE_len _ vs, List.length_set]
theorem backE_get (r0 : Env) {i : Nat} : ∀ (vs : List Nat) (r : Env), r.length = r0.length → (backE r0 r vs).length = r.length ∧ (i ∉ vs → (backE r0 r vs)[i]? = r[i]?) ∧ (i ∈ vs → (backE r0 r vs)[i]? = r0[i]?)
  | [], r, _ => ⟨rfl, fun _ => rfl, fun h => absurd h (by simp)⟩
  | w :: vs, r, hl => by
    show (backE r0 (match r0[w]? with | some x => r.set w x | none => r) vs).length = _ ∧ _
    cases e : r0[w]? with
    | none =>
      obtain ⟨h1, h2, h3⟩ := @backE_get r0 i vs r hl
      refine ⟨h1, fun h => ?_, fun h => ?_⟩
      · rw [List.mem_cons, not_or] at h
        show (backE r0 (match r0[w]? with | some x => r.set w x | none => r) vs)[i]? = _
        rw [e]
        exact h2 h.2
      · show (backE r0 (match r0[w]? with | some x => r.set w x | none => r) vs)[i]? = _
        rw [e]
        by_cases z : i ∈ vs
        · exact h3 z
        · rcases List.mem_cons.mp h with z2 | z2
          · subst z2
            show (backE r0 r vs)[i]? = _
            rw [h2 z, e, List.getElem?_eq_none]
            rw [List.getElem?_eq_none_iff] at e
            omega
          · exact absurd z2 z
    | some x =>
      obtain ⟨h1, h2, h3⟩ := @backE_get r0 i vs (r.set w x) (by rw [List.length_set]; exact hl)
      refine ⟨by rw [h1, List.length_set], fun h => ?_, fun h => ?_⟩
      · rw [List.mem_cons, not_or] at h
        show (backE r0 (match r0[w]? with | some x => r.set w x | none => r) vs)[i]? = _
        rw [e]
        exact (h2 h.2).trans (List.getElem?_set_ne (Ne.symm h.1))
      · show (backE r0 (match r0[w]? with | some x => r.set w x | none => r) vs)[i]? = _
        rw [e]
        by_cases z : i ∈ vs
        · exact h3 z
        · rcases List.mem_cons.mp h with z2 | z2
          · subst z2
            show (backE r0 (r.set i x) vs)[i]? = _
            rw [h2 z, e, List.getElem?_set_self]
            have := (List.getElem?_eq_some_iff.mp e).1
            omega
          · exact absurd z2 z

section
variable {K : KW} {io : List (Nat × Addr)} {Fr G G' H H' : Hp} {σ : L2.St} {r r1 r2 : Env}
theorem SR.wipe : ∀ {vs : List Nat}, (∀ j ∈ vs, ∀ p ∈ io, p.1 ≠ j) → SR K io Fr G σ H r → SR K io Fr G (wipe σ vs) H (wipeE r vs)
  | [], _, S => S
  | v :: vs, h, S => by
    have S1 := SR.wipe (vs := vs) (fun j hj => h j (List.mem_cons_of_mem _ hj)) S
    show SR K io Fr G ((L2.wipe σ vs).set v none) H (wipeE (r.set v .un) vs)
    rw [wipeE_set]
    exact S1.setUn (h v List.mem_cons_self)
/-- a slot is no longer told of -/
theorem SR.forget {j : Nat} (S : SR K io Fr G σ H r) (hj : ∀ p ∈ io, p.1 ≠ j) : SR K io Fr G σ H (r.set j .un) := by
  have at_ : ∀ {i : Nat} {x : Slot}, (r.set j .un)[i]? = some x → x = .un ∨ r[i]? = some x := fun {i x} e => by
    by_cases z : j = i
    · subst z
      have hlt : j < r.length := by
        have := (List.getElem?_eq_some_iff.mp e).1
        rwa [List.length_set] at this
      rw [List.getElem?_set_self hlt] at e
      cases e
      exact .inl rfl
    · rw [List.getElem?_set_ne z] at e
      exact .inr e
  have own : ∀ {i : Nat} {a : Addr}, ownAt σ (r.set j .un) i a → ownAt σ r i a := fun {i a} ⟨h1, d, h2⟩ => by
    refine ⟨h1, d, ?_⟩
    rcases h2 with h2 | h2
    · rcases at_ h2 with z | z
      · cases z
      · exact .inl z
    · rcases at_ h2 with z | z
      · cases z
      · exact .inr z
  refine ⟨by rw [List.length_set, S.len], S.g, S.f, fun i x e => ?_, fun i i' a q q' => S.d i i' a (own q) (own q'), fun p hp => ?_⟩
  · rcases at_ e with z | z
    · subst z
      trivial
    · exact S.s i x z
  · obtain ⟨h1, d, h2⟩ := S.i p hp
    rw [List.getElem?_set_ne (Ne.symm (hj p hp))]
    exact ⟨h1, d, h2⟩
theorem SR.forgets : ∀ {js : List Nat} {r : Env}, (∀ j ∈ js, ∀ p ∈ io, p.1 ≠ j) → SR K io Fr G σ H r → SR K io Fr G σ H (wipeE r js)
  | [], _, _, S => S
  | j :: js, r, h, S => SR.forgets (js := js) (r := r.set j .un) (fun i hi => h i (List.mem_cons_of_mem _ hi)) (S.forget (h j List.mem_cons_self))
theorem ownFree_at {own : List Nat} (h : ownFree r own = true) {j : Nat} (hj : j ∈ own) : r[j]? = some .un ∨ ∃ d, r[j]? = some (.fz d) := by
  unfold ownFree at h
  have := List.all_eq_true.mp h j hj
  split at this
  · exact .inl (by assumption)
  · exact .inr ⟨_, by assumption⟩
  · cases this
/-- behind a block -/
theorem SR.back {own : List Nat} (S : SR K io Fr G σ H r1) (S' : SR K io Fr G' (L2.wipe σ own) H' (wipeE r2 own)) (g : Same G G') (hio : ∀ j ∈ own, ∀ p ∈ io, p.1 ≠ j) (hf : ownFree r1 own = true) : SR K io Fr G' σ H' (backE r1 r2 own) ∧ ∀ i a, ownAt σ (backE r1 r2 own) i a → ownAt (L2.wipe σ own) (wipeE r2 own) i a := by
  have hl : r2.length = r1.length := by
    have e1 := S'.len
    rw [wipe_length, wipeE_len] at e1
    rw [e1, S.len]
  have hb := fun i => @backE_get r1 i own r2 hl
  have out : ∀ {i a}, ownAt σ (backE r1 r2 own) i a → ownAt (L2.wipe σ own) (wipeE r2 own) i a := fun {i a} q => by
    obtain ⟨h1, d, h2⟩ := q
    by_cases z : i ∈ own
    · rw [(hb i).2.2 z] at h2
      rcases ownFree_at hf z with e | ⟨d', e⟩ <;> rw [e] at h2 <;> rcases h2 with h2 | h2 <;> cases h2
    · rw [(hb i).2.1 z] at h2
      exact ⟨by rw [wipe_get.1 z]; exact h1, d, by rw [wipeE_out _ _ z]; exact h2⟩
  refine ⟨⟨by rw [(hb 0).1, hl, S.len], S'.g, S'.f, fun i x e => ?_, fun i j a q1 q2 => S'.d i j a (out q1) (out q2), fun p hp => ?_⟩, fun i a => out⟩
  · by_cases z : i ∈ own
    · rw [(hb i).2.2 z] at e
      have q := S.s i x e
      rcases ownFree_at hf z with e2 | ⟨d', e2⟩ <;> rw [e2] at e <;> cases e
      · trivial
      · obtain ⟨v, e3, h3⟩ := q
        exact ⟨v, e3, h3.mono g⟩
    · rw [(hb i).2.1 z] at e
      have q := S'.s i x (by rw [wipeE_out _ _ z]; exact e)
      rw [wipe_get.1 z] at q
      exact q
  · obtain ⟨h1, d, h2⟩ := S'.i p hp
    have z : p.1 ∉ own := fun z => hio _ z p hp rfl
    rw [wipe_get.1 z] at h1
    rw [wipeE_out _ _ z] at h2
    rw [(hb p.1).2.1 z]
    exact ⟨h1, d, h2⟩
/-- an object of somebody else's -/
theorem SR.addFr {p : Addr} {o : HO} (S : SR K io Fr G σ H r) (h : H p = some o) (hG : G p = none) (hn : ∀ j, ¬ ownAt σ r j p) : SR K io (upd Fr p o) G σ H r := by
  refine ⟨S.len, S.g, fun a u e => ?_, fun j x e => ?_, S.d, S.i⟩
  · by_cases z : a = p
    · subst z
      rw [upd_same] at e
      cases e
      exact ⟨h, hG⟩
    · rw [upd_ne z] at e
      exact S.f a u e
  · have q := S.s j x e
    cases x with
    | un => trivial
    | fz d => exact q
    | ow d =>
      obtain ⟨a, e1, h1, h2, h3⟩ := q
      have z : a ≠ p := fun z => hn j (by subst z; exact ⟨e1, d, .inl e⟩)
      exact ⟨a, e1, h1, by rw [upd_ne z]; exact h2, h3⟩
    | lk d =>
      obtain ⟨a, e1, h1, h2, h3⟩ := q
      have z : a ≠ p := fun z => hn j (by subst z; exact ⟨e1, d, .inr e⟩)
      exact ⟨a, e1, h1, by rw [upd_ne z]; exact h2, h3⟩
theorem SR.putFr {p : Addr} {o o' : HO} (S : SR K io (upd Fr p o) G σ H r) : SR K io (upd Fr p o') G σ (upd H p o') r := by
  have hp := S.f p o upd_same
  have fr : ∀ {a}, upd Fr p o a = none → a ≠ p ∧ upd Fr p o' a = none := fun {a} e => by
    have z : a ≠ p := fun z => by subst z; rw [upd_same] at e; cases e
    rw [upd_ne z] at e ⊢
    exact ⟨z, e⟩
  refine ⟨S.len, fun a u e => ?_, fun a u e => ?_, fun j x e => ?_, S.d, S.i⟩
  · have z : a ≠ p := fun z => by subst z; rw [hp.2] at e; cases e
    rw [upd_ne z]
    exact S.g a u e
  · by_cases z : a = p
    · subst z
      rw [upd_same] at e
      cases e
      exact ⟨upd_same, hp.2⟩
    · rw [upd_ne z] at e ⊢
      exact S.f a u (by rw [upd_ne z]; exact e)
  · have q := S.s j x e
    cases x with
    | un => trivial
    | fz d => exact q
    | ow d =>
      obtain ⟨a, e1, h1, h2, h3⟩ := q
      obtain ⟨z, h4⟩ := fr h2
      exact ⟨a, e1, h1, h4, h3.heap (upd_ne z)⟩
    | lk d =>
      obtain ⟨a, e1, h1, h2, h3⟩ := q
      obtain ⟨z, h4⟩ := fr h2
      exact ⟨a, e1, h1, h4, h3.heap (upd_ne z)⟩
theorem SR.offFr {p : Addr} {o : HO} (S : SR K io (upd Fr p o) G σ H r) (h : Fr p = none) : SR K io Fr G σ H r ∧ ∀ j, ¬ ownAt σ r j p := by
  have fr : ∀ {a}, upd Fr p o a = none → a ≠ p ∧ Fr a = none := fun {a} e => by
    have z : a ≠ p := fun z => by subst z; rw [upd_same] at e; cases e
    rw [upd_ne z] at e
    exact ⟨z, e⟩
  refine ⟨⟨S.len, S.g, fun a u e => S.f a u ?_, fun j x e => ?_, S.d, S.i⟩, fun j q => (fr (S.ownSlot q).2.1).1 rfl⟩
  · rw [upd_ne (fun z => by subst z; rw [h] at e; cases e)]
    exact e
  · have q := S.s j x e
    cases x with
    | un => trivial
    | fz d => exact q
    | ow d => obtain ⟨a, e1, h1, h2, h3⟩ := q; exact ⟨a, e1, h1, (fr h2).2, h3⟩
    | lk d => obtain ⟨a, e1, h1, h2, h3⟩ := q; exact ⟨a, e1, h1, (fr h2).2, h3⟩
end

/-! ### targets -/
def MG.slots : MG → List Nat
  | .sl j => [j]
  | .nil => []
  | .cons a g => slots a ++ slots g
  | .tup g => slots g
def MG.isL : MG → Bool
  | .nil => true
  | .cons _ _ => true
  | _ => false
def rawOk (k : CkE) (x : Str) : Bool := (match k.raw.lookup x with
  | some .local => true
  | some .cell => true
  | _ => false)
def chkG (k : CkE) : MG → List Expr → Bool
  | .sl j, [.Name x _] => decide (k.N[j]? = some x) && rawOk k x && !k.io.contains j
  | .tup g, [.Tuple es _ _] => g.isL && chkG k g es
  | .nil, [] => true
  | .cons a g, e :: es => !isStar e && !a.isL && g.isL && chkG k a [e] && chkG k g es
  | _, _ => false
theorem rawOk_of {k : CkE} {x : Str} (h : rawOk k x = true) : k.raw.lookup x = some .local ∨ k.raw.lookup x = some .cell := by
  unfold rawOk at h
  split at h
  · exact .inl (by assumption)
  · exact .inr (by assumption)
  · cases h
section
variable {X : Cx} {c : Cfg} {k : CkE}
def TgLaw (c : Cfg) (g : MG) (t : TG) : Prop := ∀ (v : V) (σ : L2.St) (H : Hp) (Q : L2.St → Hp → Prop) (d : D) (r r' : Env) (Fr G : Hp), SR c.K c.io Fr G σ H r → RV c.K G d v → g.bind d r = some r' →
  (∀ σ', SR c.K c.io Fr G σ' H r' → (∀ vs : List Nat, (∀ j ∈ g.slots, j ∈ vs) → wipe σ' vs = wipe σ vs) → Q σ' H) → t v σ H Q
def TgsLaw (c : Cfg) (g : MG) (t : TGs) : Prop := ∀ (vs : List V) (σ : L2.St) (H : Hp) (Q : L2.St → Hp → Prop) (ds : List D) (r r' : Env) (Fr G : Hp), SR c.K c.io Fr G σ H r → RVs c.K G ds vs → MG.bind.binds g ds r = some r' →
  (∀ σ', SR c.K c.io Fr G σ' H r' → (∀ vs : List Nat, (∀ j ∈ g.slots, j ∈ vs) → wipe σ' vs = wipe σ vs) → Q σ' H) → t vs σ H Q
theorem tg_assign : ∀ {g : MG} {es : List Expr} (env : PySem.Env), g.isL = true → chkG k g es = true → (assignEach es env).findIdx? (·.1) = none ∧ (assignEach es env).length = es.length
  | .nil, [], _, _, _ => ⟨rfl, rfl⟩
  | .cons a g, e :: es, env, _, h => by
    unfold chkG at h
    simp only [Bool.and_eq_true, Bool.not_eq_true'] at h
    obtain ⟨⟨⟨⟨h1, h2⟩, h3⟩, h4⟩, h5⟩ := h
    obtain ⟨i1, i2⟩ := tg_assign env h3 h5
    have : assignEach (e :: es) env = (false, assign e env) :: assignEach es env := by
      cases e <;> first | rfl | (exact absurd h1 (by simp [isStar]))
    rw [this]
    refine ⟨?_, by rw [List.length_cons, List.length_cons, i2]⟩
    rw [List.findIdx?_cons, i1]
    rfl
  | .nil, _ :: _, _, _, h => by unfold chkG at h; cases h
  | .cons _ _, [], _, _, h => by unfold chkG at h; cases h
  | .sl _, _, _, h, _ => by cases h
  | .tup _, _, _, h, _ => by cases h
theorem binds_len : ∀ {g : MG} {es : List Expr} {ds : List D} {r r' : Env}, chkG k g es = true → MG.bind.binds g ds r = some r' → ds.length = es.length
  | .nil, [], [], _, _, _, _ => rfl
  | .nil, [], _ :: _, _, _, _, h => by cases h
  | .nil, _ :: _, _, _, _, h, _ => by unfold chkG at h; cases h
  | .cons a g, e :: es, d :: ds, r, r', h, hb => by
    unfold chkG at h
    simp only [Bool.and_eq_true] at h
    have hb : (match MG.bind a d r with
      | some r' => MG.bind.binds g ds r'
      | none => none) = some r' := hb
    split at hb
    · rw [List.length_cons, List.length_cons, binds_len h.2 hb]
    · cases hb
  | .cons _ _, [], _, _, _, h, _ => by unfold chkG at h; cases h
  | .cons _ _, _ :: _, [], _, _, _, h => by cases h
  | .sl _, _, _, _, _, _, h => by cases h
  | .tup _, _, _, _, _, _, h => by cases h
mutual
theorem tg_ok (O : XOk0 X c k) (hio : ∀ p ∈ c.io, p.1 ∈ k.io) : ∀ {g : MG} {e : Expr}, g.isL = false → chkG k g [e] = true → ∃ t, PG X e t ∧ TgLaw c g t
  | .sl j, e, _, h => by
    cases e <;> try (exact absurd h (by unfold chkG; exact Bool.false_ne_true))
    case Name x pos =>
      unfold chkG at h
      simp only [Bool.and_eq_true, decide_eq_true_eq, Bool.not_eq_true'] at h
      obtain ⟨⟨h1, h2⟩, h3⟩ := h
      obtain ⟨q1, q2⟩ := O.raw x (rawOk_of h2)
      refine ⟨_, pg_name (by rw [O.N]; exact O.nd) (by rw [O.N]; exact h1) q1 q2, fun v σ H Q d r r' Fr G S hv hb q => ?_⟩
      cases hb
      refine q _ (S.setFz (fun p hp z => ?_) hv) fun vs hvs => wipe_set (hvs j (by simp [MG.slots]))
      have := hio p hp
      rw [z] at this
      have : k.io.contains j = true := by simpa using this
      rw [h3] at this
      cases this
  | .tup g, e, _, h => by
    cases e <;> try (exact absurd h (by unfold chkG; exact Bool.false_ne_true))
    case Tuple es kk pos =>
      unfold chkG at h
      simp only [Bool.and_eq_true] at h
      obtain ⟨t, p, l⟩ := tgs_ok O hio h.1 h.2
      obtain ⟨a1, a2⟩ := tg_assign X.env h.1 h.2
      refine ⟨_, pg_tup O.g.calm p a2 a1, fun v σ H Q d r r' Fr G S hv hb q => ?_⟩
      cases d <;> try (exact absurd hb (by unfold MG.bind; simp))
      case tup ds =>
        obtain ⟨a, vs, rfl, hq, hr⟩ := hv
        have hb : MG.bind.binds g ds r = some r' := hb
        have hlen := binds_len h.2 hb
        exact ⟨a, vs, rfl, by rw [O.KF]; exact SqT.mono S.g hq, by rw [RVs.len hr, hlen], l vs σ H Q ds r r' Fr G S hr hb q⟩
theorem tgs_ok (O : XOk0 X c k) (hio : ∀ p ∈ c.io, p.1 ∈ k.io) : ∀ {g : MG} {es : List Expr}, g.isL = true → chkG k g es = true → ∃ t, PGs X es t ∧ TgsLaw c g t
  | .nil, [], _, _ => ⟨_, pgs_nil, fun vs σ H Q ds r r' Fr G S hv hb q => by
      cases ds with
      | nil =>
        cases hb
        cases (show vs = [] from hv)
        exact ⟨rfl, q σ S fun _ _ => rfl⟩
      | cons _ _ => cases hb⟩
  | .cons a g, e :: es, _, h => by
    unfold chkG at h
    simp only [Bool.and_eq_true, Bool.not_eq_true'] at h
    obtain ⟨⟨⟨⟨h1, h2⟩, h3⟩, h4⟩, h5⟩ := h
    obtain ⟨t1, p1, l1⟩ := tg_ok O hio h2 h4
    obtain ⟨t2, p2, l2⟩ := tgs_ok O hio h3 h5
    refine ⟨_, pgs_cons p1 p2 (by cases e <;> first | rfl | (exact absurd h1 (by simp [isStar]))), fun vs σ H Q ds r r' Fr G S hv hb q => ?_⟩
    cases ds with
    | nil => cases hb
    | cons d ds =>
      obtain ⟨v, vr, rfl, hv1, hv2⟩ := hv
      have hb : (match MG.bind a d r with
        | some r' => MG.bind.binds g ds r'
        | none => none) = some r' := hb
      cases e1 : MG.bind a d r with
      | none => rw [e1] at hb; cases hb
      | some rr =>
        rw [e1] at hb
        refine ⟨v, vr, rfl, l1 v σ H _ d r rr Fr G S hv1 e1 fun σ' S' w' => l2 vr σ' H Q ds rr r' Fr G S' hv2 hb fun σ2 S2 w2 => q σ2 S2 fun vs hvs => ?_⟩
        rw [w2 vs fun j hj => hvs j (by simp [MG.slots, hj]), w' vs fun j hj => hvs j (by simp [MG.slots, hj])]
  | .nil, _ :: _, _, h => by unfold chkG at h; cases h
  | .cons _ _, [], _, h => by unfold chkG at h; cases h
  | .sl _, _, h, _ => by cases h
  | .tup _, _, h, _ => by cases h
end
/-- a target's reading, whatever the context -/
def tgT (c : Cfg) (g : MG) : TG := fun v σ H Q => ∃ (d : D) (r r' : Env) (Fr G : Hp), SR c.K c.io Fr G σ H r ∧ RV c.K G d v ∧ g.bind d r = some r' ∧
  ∀ σ', SR c.K c.io Fr G σ' H r' → (∀ vs : List Nat, (∀ j ∈ g.slots, j ∈ vs) → wipe σ' vs = wipe σ vs) → Q σ' H
theorem pg_T (O : XOk0 X c k) {g : MG} {e : Expr} (h1 : g.isL = false) (h2 : chkG k g [e] = true) : PG X e (tgT c g) := by
  obtain ⟨t, p, l⟩ := tg_ok O O.io h1 h2
  exact ⟨fun pins s σ H v u Q I rv ⟨d, r, r', Fr, G, S, hv, hb, q⟩ => p.run pins s σ H v u Q I rv (l v σ H Q d r r' Fr G S hv hb q)⟩
end
end VL

/-! VL9: what a loop walks. -/
namespace VL
open PySem PySem.Spec L2
/-- at turn i it gives the i-th of xs, all of it in G, or a new pair of what lies in G -/
def YD (K : KW) (G : Hp) (xs : List D) : Nat → Hp → V → Hp → Prop := fun i H v H' => ∃ d, xs[i]? = some d ∧
  ((H' = H ∧ RV K G d v) ∨ ∃ (T : Addr) (x y : V) (d1 d2 : D), v = .ref T ∧ H T = none ∧ H' = upd H T (.tup [x, y]) ∧ d = .tup [d1, d2] ∧ RV K G d1 x ∧ RV K G d2 y)
def WalkD (K : KW) (G : Hp) (J : It) (xs : List D) : Prop := Walk J xs.length (Same G) (YD K G xs)
def tI (c : Cfg) (it : ME) : TI := fun σ H R => ∃ (Fr G : Hp) (r : Env), SR c.K c.io Fr G σ H r ∧ Res c Fr G σ (evl c it r) fun ds r1 => ∃ x xs, ds = [x] ∧ itemsD x = some xs ∧
  ∀ (J : It) (G1 H1 : Hp), SR c.K c.io Fr G1 σ H1 r1 → Same G G1 → WalkD c.K G1 J xs → R J H1
/-- something walkable -/
def Src (c : Cfg) (X : Cx) (tg e : Expr) (it : ME) : Prop := ∃ wi, PI X tg e wi ∧ ∀ σ H R, tI c it σ H R → wi σ H R
section
variable {X : Cx} {c : Cfg} {k : CkE} {Fr G G' H H' : Hp} {σ : L2.St} {r : Env}
theorem SR.yield {io : List (Nat × Addr)} {K : KW} {G1 : Hp} {xs : List D} {i : Nat} {v : V} (S : SR K io Fr G σ H r) (g : Same G1 G) (y : YD K G1 xs i H v H') : ∃ G' d, xs[i]? = some d ∧ Same G G' ∧ SR K io Fr G' σ H' r ∧ RV K G' d v := by
  obtain ⟨d, e, h | h⟩ := y
  · obtain ⟨rfl, h⟩ := h
    exact ⟨G, d, e, Same.refl _, S, h.mono g⟩
  · obtain ⟨T, x, z, d1, d2, rfl, hT, rfl, rfl, h1, h2⟩ := h
    have gN : Same G (upd G T (.tup [x, z])) := same_upd (S.none_g hT)
    exact ⟨_, _, e, gN, S.new hT, T, _, rfl, SqT.of upd_same, RVs.cons ((h1.mono g).mono gN) (RVs.one ((h2.mono g).mono gN))⟩
theorem yd_at {K : KW} {xs : List D} {vs : List V} (h : RVs K G xs vs) {i : Nat} {x : V} (y : H' = H ∧ vs[i]? = some x) : YD K G xs i H x H' := by
  obtain ⟨d, e, q⟩ := RVs.getV h y.2
  exact ⟨d, e, .inl ⟨y.1, q⟩⟩
/-- a list, a tuple, a text: whichever it is -/
def iAny (K : PySem.W.Frag) (te : TE) : TI := fun σ H R => te σ H fun x H1 => (∃ a, x = .ref a ∧ (∃ xs, SqL K H1 a xs) ∧ R (Itl K a) H1) ∨ (∃ a, x = .ref a ∧ (∃ xs, SqT K H1 a xs) ∧ R (Itt K a) H1) ∨ ∃ z, x = .str z ∧ R (Its z) H1
theorem pi_any {tg e : Expr} {te : TE} (he : PE X e te) : PI X tg e (iAny X.K te) := by
  constructor
  intro pins s σ H R I h
  refine thn (he.run pins s σ H _ I h) ?_
  rintro v s1 ⟨x, H1, I1, r1, q1⟩
  have fin : ∀ {o : Obj} {J : It} {tn : Nat → Heap → Prop}, Turn X.prog X.w X.K tg J [s1.heap.objs.size] s1.heap.objs.size tn → tn 0 (s1.heap.push o) → R J H1 → PIE X pins σ tg R (.ref s1.heap.objs.size) { s1 with heap := s1.heap.push o } := fun {o J tn} T ht q =>
    ⟨s1.heap.objs.size, [s1.heap.objs.size], tn, J, H1, rfl, I1.kept (t' := s1.toks) (fun b o e => Heap.get?_push_of_some _ e), T, ht, fun b hb => by
      obtain rfl : b = s1.heap.objs.size := by simpa using hb
      exact I1.fpOk (Nat.le_refl _) I1.fresh, q⟩
  rcases q1 with ⟨a, rfl, ⟨xs, hq⟩, q⟩ | ⟨a, rfl, ⟨xs, hq⟩, q⟩ | ⟨z, rfl, q⟩
  · cases r1
    obtain ⟨its, rv, p, hz⟩ := I1.list hq
    exact wpAny_pyIter_list p.isList (fin (turn_list a _) ⟨_, Heap.get?_push_size _ rfl, rfl, rfl⟩ q)
  · cases r1
    obtain ⟨its, rv, p, hz⟩ := I1.tuple hq
    exact wpAny_pyIter_tuple (show s1.heap.IsTuple a its.toArray from p) (fin (turn_tuple a _) ⟨_, Heap.get?_push_size _ rfl, rfl, rfl⟩ q)
  · obtain ⟨t, rfl⟩ := r1
    cases ha : z.cps.all (· < 128)
    · exact wpAny_pyIter_wide ha (fin (turn_str _ z t "str_iterator" (.inr rfl)) ⟨_, Heap.get?_push_size _ rfl, rfl, rfl⟩ q)
    · exact wpAny_pyIter_ascii ha (fin (turn_str _ z t "str_ascii_iterator" (.inl rfl)) ⟨_, Heap.get?_push_size _ rfl, rfl, rfl⟩ q)
theorem SqL.mono {K : PySem.W.Frag} {a : Addr} {xs : List V} (g : Same G G') (h : SqL K G a xs) : SqL K G' a xs := g.seq h
theorem src_any (O : XOk0 X c k) {tg e : Expr} {it : ME} (h : PE X e (tS c false it)) : Src c X tg e it := by
  refine ⟨_, pi_any h, fun σ H R q => ?_⟩
  obtain ⟨Fr, G, r, S, q⟩ := q
  refine ⟨Fr, G, r, S, q.mono fun ds r1 ⟨x, xs, e, e2, q⟩ => ⟨x, e, fun v H' G' S' g s => ?_⟩⟩
  have rv : RV c.K G' x v := s
  have hs := S'.g
  cases x <;> try (cases e2; done)
  case str z =>
    cases (show v = .str z from rv)
    cases e2
    refine .inr (.inr ⟨z, rfl, q _ _ _ S' g ?_⟩)
    have hl : (z.cps.toList.map chr1).length = z.cps.size := by simp
    unfold WalkD
    rw [hl]
    exact (walk_str (z := z)).mono (fun _ _ => trivial) fun i H x H' hi _ ⟨y1, ch, y2, y3⟩ => ⟨chr1 ch, by rw [List.getElem?_map, Array.getElem?_toList, y2]; rfl, .inl ⟨y1, by rw [y3]; rfl⟩⟩
  case tup ds =>
    obtain ⟨a, vs, rfl, hq, hr⟩ := rv
    cases e2
    refine .inr (.inl ⟨a, rfl, ⟨vs, by rw [O.KF]; exact SqT.mono hs hq⟩, q _ _ _ S' g ?_⟩)
    unfold WalkD
    rw [← RVs.len hr]
    exact (walk_tup (K := X.K) (a := a) (xs := vs)).mono (fun H gH => by rw [O.KF]; exact SqT.mono gH hq) fun i H x H' hi _ y => yd_at hr y
  case lst ds =>
    obtain ⟨a, vs, rfl, hq, hr⟩ := rv
    cases e2
    refine .inl ⟨a, rfl, ⟨vs, by rw [O.KF]; exact SqL.mono hs hq⟩, q _ _ _ S' g ?_⟩
    unfold WalkD
    rw [← RVs.len hr]
    exact (walk_list (K := X.K) (a := a) (xs := vs)).mono (fun H gH => by rw [O.KF]; exact SqL.mono gH hq) fun i H x H' hi _ y => yd_at hr y
theorem iota_len : ∀ (n : Nat) (lo : Int), (iota lo n).length = n
  | 0, _ => rfl
  | n + 1, lo => by show (iota (lo + 1) n).length + 1 = _; rw [iota_len n]
theorem iota_get : ∀ (n : Nat) (lo : Int) (i : Nat), i < n → (iota lo n)[i]? = some (.int (lo + i))
  | n + 1, lo, 0, _ => by show some (D.int lo) = _; simp
  | n + 1, lo, i + 1, h => by
    show (iota (lo + 1) n)[i]? = _
    rw [iota_get n (lo + 1) i (by omega)]
    congr 2
    push_cast
    omega
theorem walk_iota {K : KW} {lo : Int} {n : Nat} : WalkD K G (Itr lo n) (iota lo n) := by
  unfold WalkD
  rw [iota_len]
  exact walk_range.mono (fun _ _ => trivial) fun i H x H' hi _ ⟨y1, y2⟩ => ⟨_, iota_get n lo i hi, .inl ⟨y1, y2⟩⟩
theorem enumD_get : ∀ (xs : List D) (m i : Nat), (enumD m xs)[i]? = (xs[i]?).map fun d => .tup [.int ((m + i : Nat) : Int), d]
  | [], _, _ => by simp [enumD]
  | x :: xs, m, 0 => by simp [enumD]
  | x :: xs, m, i + 1 => by
    show (enumD (m + 1) xs)[i]? = _
    rw [enumD_get xs (m + 1) i, List.getElem?_cons_succ, show m + 1 + i = m + (i + 1) by omega]
theorem enumD_len : ∀ (xs : List D) (m : Nat), (enumD m xs).length = xs.length
  | [], _ => rfl
  | x :: xs, m => by show (enumD (m + 1) xs).length + 1 = _; rw [enumD_len xs, List.length_cons]
theorem src_range1 (O : XOk0 X c k) {tg e : Expr} {a : ME} {p pos : Pos} (hg : k.names.lookup ("range" : Str) = some .globalImplicit) (ha : ArgsOk c X a [e]) : Src c X tg (.Call (.Name "range" p) [e] [] pos) (.op .range1 a) := by
  obtain ⟨a1, rfl, h1, p1⟩ := ha.single
  refine ⟨_, pi_range1 (O.gl0 hg) (O.bt _ (by decide +kernel)) ha.pa (ha.2.2.1 _), fun σ H R q => ?_⟩
  obtain ⟨Fr, G, r, S, q⟩ := q
  refine ⟨Fr, G, r, S, (op_res q).mono fun ds r1 ⟨ds', d, e1, e2, x, xs, e3, e4, q⟩ vs H1 G1 S1 g1 av => ?_⟩
  cases e3
  have kv := APs.fresh S1 av e1
  match ds', kv, e2 with
  | [.int n], kv, e2 =>
    obtain ⟨v, ev, q1⟩ := VWs.one kv
    cases ev
    have e2 : (if rngOk n then some (D.lst (iota 0 n.toNat)) else none) = some d := e2
    obtain ⟨hr, rfl⟩ := ite_some e2
    cases e4
    unfold rngOk at hr
    simp only [Bool.and_eq_true, decide_eq_true_eq] at hr
    exact ⟨n, by rw [q1.int], hr.1, hr.2, q _ _ _ S1 g1 walk_iota⟩
  | [.non], _, e2 | [.bl _], _, e2 | [.str _], _, e2 | [.tup _], _, e2 | [.lst _], _, e2 | [.dct _], _, e2 => cases e2
  | [], kv, e2 => cases e2
  | [a, b], kv, e2 => cases e2
  | a :: b :: z :: _, kv, e2 => cases e2
theorem src_range2 (O : XOk0 X c k) {tg e f : Expr} {a : ME} {p pos : Pos} (hg : k.names.lookup ("range" : Str) = some .globalImplicit) (ha : ArgsOk c X a [e, f]) : Src c X tg (.Call (.Name "range" p) [e, f] [] pos) (.op .range2 a) := by
  have hs2 : starEach [f] X.env = [(false, eval f X.env)] := by
    obtain ⟨a1, a2, rfl, h1, h2, p1, p2⟩ := ha.two
    exact ha.2.2.2.2.2.1 _
  have hs1 : starEach [e, f] X.env = [(false, eval e X.env), (false, eval f X.env)] := by
    obtain ⟨a1, a2, rfl, h1, h2, p1, p2⟩ := ha.two
    rw [ha.2.2.1, hs2]
  refine ⟨_, pi_range2 (O.gl0 hg) (O.bt _ (by decide +kernel)) ha.pa hs1 hs2, fun σ H R q => ?_⟩
  obtain ⟨Fr, G, r, S, q⟩ := q
  refine ⟨Fr, G, r, S, (op_res q).mono fun ds r1 ⟨ds', d, e1, e2, x, xs, e3, e4, q⟩ vs H1 G1 S1 g1 av => ?_⟩
  cases e3
  have kv := APs.fresh S1 av e1
  match ds', kv, e2 with
  | [.int m, .int n], kv, e2 =>
    obtain ⟨v, w, ev, q1, q2⟩ := VWs.two kv
    cases ev
    have e2 : (if rngOk m && rngOk n then some (D.lst (iota m (n - m).toNat)) else none) = some d := e2
    obtain ⟨hr, rfl⟩ := ite_some e2
    cases e4
    unfold rngOk at hr
    simp only [Bool.and_eq_true, decide_eq_true_eq] at hr
    exact ⟨m, n, by rw [q1.int, q2.int], ⟨hr.1.1, hr.1.2, hr.2.1, hr.2.2⟩, q _ _ _ S1 g1 walk_iota⟩
  | [], kv, e2 => cases e2
  | [_], kv, e2 => cases e2
  | a :: b :: z :: _, kv, e2 => cases e2
  | [.non, _], _, e2 | [.bl _, _], _, e2 | [.str _, _], _, e2 | [.tup _, _], _, e2 | [.lst _, _], _, e2 | [.dct _, _], _, e2 => cases e2
  | [.int _, .non], _, e2 | [.int _, .bl _], _, e2 | [.int _, .str _], _, e2 | [.int _, .tup _], _, e2 | [.int _, .lst _], _, e2 | [.int _, .dct _], _, e2 => cases e2
end
end VL

/-! VLE: enumerate(tuple). -/
namespace VL
open PySem PySem.Spec PyProof.Rows L2
open AutoSeq1 (wpAny_loadPart')
theorem new_enumT (a : Addr) (its : Array Value) (m : Nat) (dk : Option Addr) (so : Array (Option Value)) :
    Meets (Builtin.«enumerate.__new__» ⟨[.type "enumerate", .ref a], []⟩) (fun _ R s => s.heap.get? a = some { cls := .type "tuple", dict := dk, data := .seq its m, slots := so } ∧
      R (.ok (.ret (.ref (s.heap.push { cls := .type "tuple_iterator", data := .fields #[.ref a, .int 0 0] }).objs.size)))
        { s with heap := (s.heap.push { cls := .type "tuple_iterator", data := .fields #[.ref a, .int 0 0] }).push { cls := .type "enumerate", data := .fields #[.none, .bool false, .ref s.heap.objs.size, rawInt 0, .none, .none] } }) :=
  .of_wp fun p0 w0 A0 R0 s0 q0 => by
    obtain ⟨h0, g0, d0, t0, o0⟩ := s0
    obtain ⟨ha, q0⟩ := q0
    have hs := sub_enumerate
    have hT : Heap.IsTuple (Shared.heap ⟨h0, g0, d0, t0, o0⟩) a its := ⟨_, ha, rfl, m, rfl⟩
    wp_walk using wpAny_loadPart' ha
    refine wpAny_stack_any fun z => wpAny_pure ?_
    split
    · rename_i cc _ _ _ _ _
      cases (cc == Value.type "enumerate") <;> (wp_walk using wpAny_loadPart' ha, wpAny_pyIter_tuple hT; exact ⟨_, rfl, q0⟩)
    · wp_walk using wpAny_loadPart' ha, wpAny_pyIter_tuple hT
      exact ⟨_, rfl, q0⟩
section
variable {prog : Program} {w : World} {A : Around} {E : Value → Shared → Prop} {s : Shared}
theorem call_enumT {a : Addr} {its : Array Value} {Q : Value → Shared → Prop} (hT : s.heap.IsTuple a its)
    (h : ∀ h', IsEnum h' (s.heap.objs.size + 1) s.heap.objs.size 0 .none → h'.IsTupleIter s.heap.objs.size a 0 → h'.objs.size = s.heap.objs.size + 2 → (∀ b o, s.heap.get? b = some o → h'.get? b = some o) → Q (.ref (s.heap.objs.size + 1)) { s with heap := h' }) :
    wpAny (model prog w) A (call (.type "enumerate") [.ref a]) Q E s := by
  obtain ⟨⟨cx, dx, dt, sx⟩, hx, hc, m, hd⟩ := hT
  have hc' : cx = .type "tuple" := hc
  have hd' : dt = .seq its m := hd
  subst hc' hd'
  refine callType_new F.called_enumerate (by decide) (F.typeCall_enumerate_1 _) (F.newCall_enumerate_1 _) (fun ob => F.args_object_init_2 ob _) F.entry_enumerate_new (new_enumT a its m dx sx) ⟨hx, ?_⟩
  have z1 : (s.heap.push { cls := .type "tuple_iterator", data := .fields #[.ref a, .int 0 0] }).objs.size = s.heap.objs.size + 1 := Heap.size_push ..
  show _ ∧ _
  rw [z1]
  have e1 : IsEnum ((s.heap.push { cls := .type "tuple_iterator", data := .fields #[.ref a, .int 0 0] }).push { cls := .type "enumerate", data := .fields #[.none, .bool false, .ref s.heap.objs.size, rawInt 0, .none, .none] }) (s.heap.objs.size + 1) s.heap.objs.size 0 .none := by
    have t := Heap.get?_push_size (s.heap.push { cls := .type "tuple_iterator", data := .fields #[.ref a, .int 0 0] }) (o := { cls := .type "enumerate", data := .fields #[.none, .bool false, .ref s.heap.objs.size, rawInt 0, .none, .none] }) rfl
    rwa [z1] at t
  exact ⟨⟨_, e1, rfl⟩, h _ e1 ⟨_, Heap.get?_push_of_some _ (Heap.get?_push_size _ rfl), rfl, rfl⟩ (by rw [Heap.size_push, z1]) fun _ _ x => Heap.get?_push_of_some _ (Heap.get?_push_of_some _ x)⟩
end
/-- the tuple at a, each item in a new pair -/
def Iet (K : PySem.W.Frag) (a : Addr) : It :=
  ⟨fun i H => ∃ (xs : List V) (x : V), SqT K H a xs ∧ xs[i]? = some x, fun i H v H' => ∃ T x, v = .ref T ∧ H T = none ∧ H' = upd H T (.tup [.int (i : Nat), x]) ∧ ∀ xs, SqT K H a xs → xs[i]? = some x, fun i H => ∃ xs : List V, SqT K H a xs ∧ xs.length ≤ i⟩
theorem turn_enumT {P : Program} {w : World} {K : PySem.W.Frag} {elts : List Expr} {kk : Nat} {tpos : Pos} (a e it : Addr) :
    Turn P w K (.Tuple elts kk tpos) (Iet K a) [e, it] e (fun i h => (∃ old, IsEnum h e it ((i : Nat) : Int) old) ∧ h.IsTupleIter it a i ∧ e ≠ it ∧ e ≠ a ∧ it ≠ a) where
  mem := by simp
  obj := fun i h ⟨⟨old, he⟩, ⟨o, ho, hc, hd⟩, _⟩ b hb => by
    rcases (show b = e ∨ b = it by simpa using hb) with z | z
    · subst z; exact ⟨_, he, fun v q => nomatch q⟩
    · subst z; exact ⟨o, ho, fun v q => by rw [hd] at q; cases q⟩
  keep := fun i h h' ⟨⟨old, he⟩, hi, hne⟩ k => ⟨⟨old, k e (by simp) _ he⟩, hi.at fun o q => k it (by simp) o q, hne⟩
  item := by
    intro X hP hw hK hc i pins s σ H E I hf ⟨⟨old, he⟩, hit, hne, hea, hia⟩ ⟨xs, x, hq, hx⟩
    subst hP hw hK
    obtain ⟨its, rv, p, hz⟩ := I.tuple hq
    obtain ⟨u, hu, ru⟩ := rv.get hx
    have hT : s.heap.IsTuple a its.toArray := p
    have hel : e < s.heap.objs.size := Heap.lt_size he
    have hil : it < s.heap.objs.size := by obtain ⟨_, q, _⟩ := hit; exact Heap.lt_size q
    have hh : X.A.in1.handled = none := I.ok.hd hc
    refine wpAny_pyNext_enum_itemD (Draws.tuple hh it a (Ne.symm hia) its.toArray) he ⟨hit, hT⟩ (show i < its.toArray.size by simpa using (List.getElem?_eq_some_iff.mp hu).1) hne (by simp [hne, hea]) fun x' h' tk hx' ho st' hTn hsz hk => ?_
    have hxu : x' = u := by
      have : its.toArray[i]? = some x' := hx'
      rw [List.getElem?_toArray, hu] at this
      exact (Option.some.inj this).symm
    subst hxu
    refine ⟨_, rfl, wpAny_letOwnedTupleGo_enum (s := { s with heap := h', toks := tk + 1 }) ho fun h2 he2 sb => ?_⟩
    have hT2 : h2.get? s.heap.objs.size = some { cls := .type "tuple", data := .seq #[.int i tk, x'] } := (sb.2 _ (Nat.ne_of_gt hel)).trans hTn
    have nw : ObjOk X.prog X.w (upd H s.heap.objs.size (.tup [.int (i : Nat), x])) h2 s.heap.objs.size (.tup [.int (i : Nat), x]) :=
      ⟨by show 2 ≤ sizeLine; decide, [.int i tk, x'], .cons ⟨_, rfl⟩ (.cons ru .nil), ⟨_, hT2, rfl, _, rfl⟩⟩
    have I1 : Inv X pins σ (upd H s.heap.objs.size (.tup [.int (i : Nat), x])) { s with heap := h2, toks := tk + 1 } :=
      I.turnedNew (ch := [e, it]) (fun b ob hb q => (sb.2 b (fun z => hb (by simp [z]))).trans (hk b ob (fun z => hb (by simp [z])) (fun z => hb (by simp [z])) q)) hf (Nat.le_refl _) nw
    refine ⟨.ref s.heap.objs.size, _, I1, rfl, ⟨_, x, rfl, I.hok.fresh (Nat.le_refl _), rfl, fun l hl => by rw [I.tuple_inj hl hq]; exact hx⟩, ⟨⟨x', ?_⟩, st'.1.at fun o q => (sb.2 it (Ne.symm hne)).trans q, hne, hea, hia⟩, fun b hb => ?_⟩
    · rw [show ((i + 1 : Nat) : Int) = (i : Int) + 1 by omega]; exact he2
    · have : b < s.heap.objs.size := by
        rcases (show b = e ∨ b = it by simpa using hb) with z | z
        · rw [z]; exact hel
        · rw [z]; exact hil
      rw [upd_ne (Nat.ne_of_lt this)]
      exact (hf b hb).1
  done := by
    intro X hP hw hK hc i pins s σ H E I hf ⟨⟨old, he⟩, hit, hne, hea, hia⟩ ⟨xs, hq, hx⟩
    subst hP hw hK
    obtain ⟨its, rv, p, hz⟩ := I.tuple hq
    have hT : s.heap.IsTuple a its.toArray := p
    obtain ⟨f0, f1, f2, f3, f4, f5⟩ := hf it (by simp)
    have hl := rv.length
    have hh : X.A.in1.handled = none := I.ok.hd hc
    exact wpAny_pyNext_enum_endD (n := i) (P := fun _ _ => True) (fp := [it, a]) (St := fun j h => j = i ∧ h.IsTupleIter it a i ∧ h.IsTuple a its.toArray)
      ⟨fun _ _ st => let ⟨o, ho, _⟩ := st.2.1; ⟨o, ho⟩, fun _ _ _ st hk => ⟨st.1, st.2.1.at fun o e => hk it (by simp) o e, st.2.2.at fun o e => hk a (by simp) o e⟩, fun j _ _ _ hj st _ => absurd st.1 (Nat.ne_of_lt hj),
        fun _ _ _ st hE => wpAny_nextOf_tuple_end hh st.2.1 st.2.2 (by simp; omega) hE⟩ he ⟨rfl, hit, hT⟩ fun h' eb => ⟨rfl, I.turned (t' := s.toks) (fun b o hb q => eb b o hb q) f0 f1 f3 f4 f5⟩
  self := fun A i s Q E st h => let ⟨⟨_, he⟩, _⟩ := st; wpAny_pyIter_enum he h
theorem walk_enumT {K : PySem.W.Frag} {a : Addr} {xs : List V} : Walk (Iet K a) xs.length (fun H => SqT K H a xs) (YPair (fun i => some (.int (i : Nat))) (fun i => xs[i]?)) := by
  refine ⟨fun i _ hi q => ⟨xs, xs[i], q, List.getElem?_eq_getElem hi⟩, fun _ q => ⟨xs, q, Nat.le_refl _⟩, fun i H v H' _ q ⟨T, x, h1, h2, h3, h4⟩ => ?_⟩
  exact ⟨T, .int (i : Nat), x, h1, h2, h3, rfl, h4 xs q⟩
def iEnumA (K : PySem.W.Frag) (ta : TA) : TI := fun σ H R => ta σ H fun vs H1 => ∃ a xs, vs = [.ref a] ∧ ((SqL K H1 a xs ∧ R (Ite K a) H1) ∨ (SqT K H1 a xs ∧ R (Iet K a) H1))
theorem pi_enumA {X : Cx} {e : Expr} {ta : TA} {p pos tpos : Pos} {elts : List Expr} {kk : Nat} (hg : Gl X "enumerate") (hm : X.mg "enumerate" = none) (ha : PA X [e] ta) (hs : starEach [e] X.env = [(false, eval e X.env)]) :
    PI X (.Tuple elts kk tpos) (.Call (.Name "enumerate" p) [e] [] pos) (iEnumA X.K ta) := by
  refine ⟨fun pins s σ H _ I h => Call_ (ld_blt I hg hm boot_enumerate (PyProof.Rows.callWith_type1 (thn (ha.run pos pins s σ H _ I h) fun us s1 ⟨vs, H1, I1, r1, a, xs, ex, q1⟩ => ?_) hs rfl))⟩
  subst ex
  cases r1 with
  | cons r rr =>
    cases rr
    cases r
    have fpk : ∀ b ∈ [s1.heap.objs.size + 1, s1.heap.objs.size], s1.heap.objs.size ≤ b := by
      intro b hb
      rcases (show b = s1.heap.objs.size + 1 ∨ b = s1.heap.objs.size by simpa using hb) with z | z
      · rw [z]; exact Nat.le_add_right _ _
      · rw [z]; exact Nat.le_refl _
    rcases q1 with ⟨hq, q⟩ | ⟨hq, q⟩
    · obtain ⟨its, rv, p', hz⟩ := I1.list hq
      refine call_enumerate_list p'.isList fun h' he hit hsz hk => wpAny_pyIter_enum he ?_
      have I2 : Inv X pins σ H1 { s1 with heap := h' } := I1.kept (t' := s1.toks) hk
      exact ⟨s1.heap.objs.size + 1, [s1.heap.objs.size + 1, s1.heap.objs.size], _, _, H1, rfl, I2, turn_enum a (s1.heap.objs.size + 1) s1.heap.objs.size, ⟨⟨.none, he⟩, hit, Nat.succ_ne_self _⟩, fun b hb => I1.fpOk (fpk b hb) (I1.hok.fresh (fpk b hb)), q⟩
    · obtain ⟨its, rv, p', hz⟩ := I1.tuple hq
      have hT : s1.heap.IsTuple a its.toArray := p'
      have hal : a < s1.heap.objs.size := by obtain ⟨o, ho, _⟩ := hT; exact Heap.lt_size ho
      refine call_enumT hT fun h' he hit hsz hk => wpAny_pyIter_enum he ?_
      have I2 : Inv X pins σ H1 { s1 with heap := h' } := I1.kept (t' := s1.toks) hk
      exact ⟨s1.heap.objs.size + 1, [s1.heap.objs.size + 1, s1.heap.objs.size], _, _, H1, rfl, I2, turn_enumT a (s1.heap.objs.size + 1) s1.heap.objs.size,
        ⟨⟨.none, he⟩, hit, Nat.succ_ne_self _, Nat.ne_of_gt (Nat.lt_succ_of_lt hal), Nat.ne_of_gt hal⟩, fun b hb => I1.fpOk (fpk b hb) (I1.hok.fresh (fpk b hb)), q⟩
theorem src_enumA {X : Cx} {c : Cfg} {k : CkE} (O : XOk0 X c k) {e : Expr} {a : ME} {p pos tpos : Pos} {elts : List Expr} {kk : Nat} (hg : k.names.lookup ("enumerate" : Str) = some .globalImplicit) (hn : noNm a = true) (ha : ArgsOk c X a [e]) : Src c X (.Tuple elts kk tpos) (.Call (.Name "enumerate" p) [e] [] pos) (.op .enum a) := by
  refine ⟨_, pi_enumA (O.gl0 hg) (O.bt _ (by decide +kernel)) ha.pa (by obtain ⟨a1, rfl, h1, p1⟩ := ha.single; exact ha.2.2.1 _), fun σ H R ⟨Fr, G, r, S, q⟩ => ?_⟩
  refine ⟨Fr, G, r, S, (op_res q).mono fun ds r1 ⟨ds', d, e1, e2, x, xs, e3, e4, q⟩ vs H1 G1 S1 g1 av => ?_⟩
  cases e3
  have q1 := APs.rvs hn av
  have e5 : ds' = ds := fresh_same hn e1
  subst e5
  match ds', q1, e2 with
  | [.lst zs], q1, e2 =>
    obtain ⟨v, vr, rfl, hv, hvr⟩ := q1
    cases (show vr = [] from hvr)
    obtain ⟨b, ws, rfl, hq, hr⟩ := hv
    cases e2
    cases e4
    refine ⟨b, ws, rfl, .inl ⟨by rw [O.KF]; exact SqL.mono S1.g hq, q _ _ _ S1 g1 ?_⟩⟩
    unfold WalkD
    rw [enumD_len, ← RVs.len hr]
    refine (walk_enum (K := X.K) (a := b) (xs := ws)).mono (fun H gH => by rw [O.KF]; exact SqL.mono gH hq) fun i H x H' hi gH ⟨T, y, z, y1, y2, y3, y4, y5⟩ => ?_
    cases y4
    obtain ⟨d, ed, rd⟩ := RVs.getV hr y5
    exact ⟨.tup [.int ((0 + i : Nat) : Int), d], by rw [enumD_get, ed]; rfl, .inr ⟨T, _, z, _, _, y1, y2, y3, rfl, by rw [Nat.zero_add]; rfl, rd⟩⟩
  | [.tup zs], q1, e2 =>
    obtain ⟨v, vr, rfl, hv, hvr⟩ := q1
    cases (show vr = [] from hvr)
    obtain ⟨b, ws, rfl, hq, hr⟩ := hv
    cases e2
    cases e4
    refine ⟨b, ws, rfl, .inr ⟨by rw [O.KF]; exact SqT.mono S1.g hq, q _ _ _ S1 g1 ?_⟩⟩
    unfold WalkD
    rw [enumD_len, ← RVs.len hr]
    refine (walk_enumT (K := X.K) (a := b) (xs := ws)).mono (fun H gH => by rw [O.KF]; exact SqT.mono gH hq) fun i H x H' hi gH ⟨T, y, z, y1, y2, y3, y4, y5⟩ => ?_
    cases y4
    obtain ⟨d, ed, rd⟩ := RVs.getV hr y5
    exact ⟨.tup [.int ((0 + i : Nat) : Int), d], by rw [enumD_get, ed]; rfl, .inr ⟨T, _, z, _, _, y1, y2, y3, rfl, by rw [Nat.zero_add]; rfl, rd⟩⟩
  | [], _, e2 => cases e2
  | [.non], _, e2 | [.bl _], _, e2 | [.str _], _, e2 | [.int _], _, e2 | [.dct _], _, e2 => cases e2
  | [a, b], kv, e2 => cases e2
  | a :: b :: z :: _, kv, e2 => cases e2
end VL

/-! VL10: what a def promises; its call. -/
namespace VL
open PySem PySem.Spec L2

/-- as FnOk, where no repr is under way -/
structure FnG (P : Program) (w : World) (K : PySem.W.Frag) (mg : Str → Option Value) (base : Heap) (cx : CXT) (k : Nat) (f : Addr) (fd : FuncData) (ps : List Str) (sp : Sp) : Prop where
  len : ∀ vs H Q E, sp vs H Q E → vs.length = ps.length
  run : ∀ (A : Around) (outer : List PySem.Env) (s : Shared) (H : Hp) (args : Args) (us : List Value) (vs : List V) (Q : VK) (E : XK), Room k A → A.guards = some [] → Env0 P w K mg base A outer s H →
    BindsTo s fd args (ps.zip us) → Vals vs us → sp vs H Q E → codeAny (model P w) A (.call (.ref f) args) (L2.CR cx outer P w H s Q E) s

def ArgR (K : KW) (Fr G H : Hp) : List Bool → List D → List V → Prop
  | [], ds, vs => ds = [] ∧ vs = []
  | true :: bs, ds, vs => ∃ d dr a vr, ds = d :: dr ∧ vs = .ref a :: vr ∧ OV K G H d a ∧ G a = none ∧ Fr a = none ∧ ArgR K Fr G H bs dr vr
  | false :: bs, ds, vs => ∃ d dr v vr, ds = d :: dr ∧ vs = v :: vr ∧ RV K G d v ∧ ArgR K Fr G H bs dr vr
def ioA : List Bool → List V → List Addr
  | true :: bs, .ref a :: vs => a :: ioA bs vs
  | false :: bs, _ :: vs => ioA bs vs
  | _, _ => []
def OutR (K : KW) (G H : Hp) : List Addr → List D → Prop
  | [], ds => ds = []
  | a :: as, ds => ∃ d dr, ds = d :: dr ∧ OV K G H d a ∧ G a = none ∧ OutR K G H as dr
def ResV (K : KW) (rf : Bool) (Fr G H : Hp) (as : List Addr) (d : D) (v : V) : Prop :=
  if (rf && d.mutb) = true then ∃ a, v = .ref a ∧ OV K G H d a ∧ G a = none ∧ Fr a = none ∧ a ∉ as else RV K G d v
structure Kept (Fr G G' H' : Hp) : Prop where
  g : Same G G'
  h : Same G' H'
  f : ∀ a o, Fr a = some o → H' a = some o ∧ G' a = none
def spG (c : Cfg) (io : List Bool) (rf : Bool) (run : List D → VL.CR) : Sp := fun vs H Q E => ∃ (Fr G : Hp) (ds : List D), Same G H ∧ (∀ a o, Fr a = some o → H a = some o ∧ G a = none) ∧ ArgR c.K Fr G H io ds vs ∧ (ioA io vs).Nodup ∧
  match run ds with
  | .ok d outs => ∀ (v : V) (H' G' : Hp), Kept Fr G G' H' → OutR c.K G' H' (ioA io vs) outs → ResV c.K rf Fr G' H' (ioA io vs) d v → Q v H'
  | .err n fs outs => ∀ (H' G' : Hp) (dx : Option Addr), Kept Fr G G' H' → OutR c.K G' H' (ioA io vs) outs → XR c n fs dx G' H' → E (.ref (c.C n)) dx H'
  | .stk => False
theorem ArgR.lens {K : KW} {Fr G H : Hp} : ∀ {io : List Bool} {ds : List D} {vs : List V}, ArgR K Fr G H io ds vs → vs.length = io.length ∧ ds.length = io.length
  | [], _, _, ⟨h1, h2⟩ => by subst h1 h2; exact ⟨rfl, rfl⟩
  | true :: bs, _, _, ⟨d, dr, a, vr, e1, e2, _, _, _, h⟩ => by
    subst e1 e2
    obtain ⟨h1, h2⟩ := ArgR.lens h
    exact ⟨by simp [h1], by simp [h2]⟩
  | false :: bs, _, _, ⟨d, dr, v, vr, e1, e2, _, h⟩ => by
    subst e1 e2
    obtain ⟨h1, h2⟩ := ArgR.lens h
    exact ⟨by simp [h1], by simp [h2]⟩

/-- the slots handed to a callee as its own -/
def ioSl : List Bool → ME → Option (List Nat)
  | [], .nil => some []
  | true :: bs, .cons (.nm j) m => (ioSl bs m).map (j :: ·)
  | false :: bs, .cons a m => if isNm a then none else ioSl bs m
  | _, _ => none
def SlA (σ : L2.St) : List Nat → List Addr → Prop
  | [], as => as = []
  | j :: js, as => ∃ a r, as = a :: r ∧ σ[j]? = some (some (.ref a)) ∧ SlA σ js r
open Classical in
noncomputable def frOf (Fr : Hp) (σ : L2.St) (r : Env) (sl : List Nat) (H : Hp) : Hp := fun a => if (Fr a).isSome = true then Fr a else if ∃ j, ownAt σ r j a ∧ j ∉ sl then H a else none
section
variable {c : Cfg} {Fr G G' H H' : Hp} {σ : L2.St} {r r2 : Env} {sl : List Nat}
theorem frOf_fr {a : Addr} {o : HO} (h : Fr a = some o) : frOf Fr σ r sl H a = some o := by
  unfold frOf
  rw [if_pos (by rw [h]; rfl), h]
theorem frOf_own {a : Addr} {j : Nat} (h : Fr a = none) (q : ownAt σ r j a) (hj : j ∉ sl) : frOf Fr σ r sl H a = H a := by
  unfold frOf
  rw [if_neg (by rw [h]; exact Bool.false_ne_true), if_pos ⟨j, q, hj⟩]
theorem frOf_inv {a : Addr} {o : HO} (h : frOf Fr σ r sl H a = some o) : Fr a = some o ∨ (H a = some o ∧ ∃ j, ownAt σ r j a ∧ j ∉ sl) := by
  unfold frOf at h
  split at h
  · exact .inl h
  · split at h
    · exact .inr ⟨h, by assumption⟩
    · cases h
theorem frOf_in (S : SR c.K c.io Fr G σ H r) {a : Addr} {j : Nat} (q : ownAt σ r j a) (hj : j ∈ sl) : frOf Fr σ r sl H a = none := by
  cases e : frOf Fr σ r sl H a with
  | none => rfl
  | some o =>
    rcases frOf_inv e with h | ⟨_, i, q', hi⟩
    · rw [(S.ownSlot q).2.1] at h; cases h
    · exact absurd hj (by rw [S.d j i a q q']; exact hi)
theorem setOw_spec : ∀ {js : List Nat} {ds : List D} {r r2 : Env}, setOw r js ds = some r2 → js.Nodup → r2.length = r.length ∧ (∀ i, i ∉ js → r2[i]? = r[i]?) ∧ (∀ i ∈ js, ∃ d, r[i]? = some (.ow d)) ∧ (∀ p ∈ js.zip ds, r2[p.1]? = some (.ow p.2)) ∧ js.length = ds.length
  | [], [], r, r2, h, _ => by cases h; exact ⟨rfl, fun _ _ => rfl, fun _ h => absurd h (by simp), fun _ h => absurd h (by simp), rfl⟩
  | [], _ :: _, _, _, h, _ => by cases h
  | _ :: _, [], _, _, h, _ => by cases h
  | j :: js, d :: ds, r, r2, h, nd => by
    have h : (match r[j]? with
      | some (.ow _) => setOw (r.set j (.ow d)) js ds
      | _ => none) = some r2 := h
    split at h
    · rename_i d0 e0
      obtain ⟨n1, n2⟩ := List.nodup_cons.mp nd
      obtain ⟨h1, h2, h3, h4, h5⟩ := setOw_spec h n2
      have lj := (List.getElem?_eq_some_iff.mp e0).1
      refine ⟨by rw [h1, List.length_set], fun i hi => ?_, fun i hi => ?_, fun p hp => ?_, by simp [h5]⟩
      · rw [List.mem_cons, not_or] at hi
        rw [h2 i hi.2, List.getElem?_set_ne (Ne.symm hi.1)]
      · rcases List.mem_cons.mp hi with rfl | hi
        · exact ⟨_, e0⟩
        · obtain ⟨d1, e1⟩ := h3 i hi
          rw [List.getElem?_set_ne (fun z => n1 (by rw [z]; exact hi))] at e1
          exact ⟨d1, e1⟩
      · rw [List.zip_cons_cons] at hp
        rcases List.mem_cons.mp hp with rfl | hp
        · show r2[j]? = _
          rw [h2 j n1, List.getElem?_set_self lj]
        · exact h4 p hp
    · cases h
theorem outs_at {K : KW} : ∀ {sl : List Nat} {as : List Addr} {outs : List D}, SlA σ sl as → OutR K G H as outs → (∀ p ∈ sl.zip outs, r2[p.1]? = some (.ow p.2)) → ∀ j ∈ sl, ∃ a d, σ[j]? = some (some (.ref a)) ∧ a ∈ as ∧ r2[j]? = some (.ow d) ∧ OV K G H d a ∧ G a = none
  | [], _, _, _, _, _ => fun _ h => absurd h (by simp)
  | j :: js, _, _, ⟨a, ar, e1, h1, h2⟩, q, z => by
    subst e1
    obtain ⟨d, dr, rfl, q1, q2, q3⟩ := q
    intro i hi
    rcases List.mem_cons.mp hi with rfl | hi
    · exact ⟨a, d, h1, List.mem_cons_self, z (i, d) (by rw [List.zip_cons_cons]; exact List.mem_cons_self), q1, q2⟩
    · obtain ⟨b, e, k1, k2, k3⟩ := outs_at h2 q3 (fun p hp => z p (by rw [List.zip_cons_cons]; exact List.mem_cons_of_mem _ hp)) i hi
      exact ⟨b, e, k1, List.mem_cons_of_mem _ k2, k3⟩
theorem SlA.mem : ∀ {sl : List Nat} {as : List Addr}, SlA σ sl as → ∀ a ∈ as, ∃ j ∈ sl, σ[j]? = some (some (.ref a))
  | [], _, h => fun a ha => by rw [show _ = [] from h] at ha; exact absurd ha (by simp)
  | j :: js, _, ⟨b, ar, e1, h1, h2⟩ => fun a ha => by
    subst e1
    rcases List.mem_cons.mp ha with rfl | ha
    · exact ⟨j, List.mem_cons_self, h1⟩
    · obtain ⟨i, hi, e⟩ := SlA.mem h2 a ha
      exact ⟨i, List.mem_cons_of_mem _ hi, e⟩
theorem SlA.nodup (S : SR c.K c.io Fr G σ H r) : ∀ {sl : List Nat} {as : List Addr}, SlA σ sl as → sl.Nodup → (∀ i ∈ sl, ∃ d, r[i]? = some (.ow d)) → as.Nodup
  | [], _, h, _, _ => by rw [show _ = [] from h]; exact List.nodup_nil
  | j :: js, _, ⟨b, ar, e1, h1, h2⟩, nd, ho => by
    subst e1
    obtain ⟨n1, n2⟩ := List.nodup_cons.mp nd
    refine List.nodup_cons.mpr ⟨fun hb => ?_, SlA.nodup S h2 n2 fun i hi => ho i (List.mem_cons_of_mem _ hi)⟩
    obtain ⟨i, hi, e⟩ := SlA.mem h2 b hb
    obtain ⟨d1, e1⟩ := ho j List.mem_cons_self
    obtain ⟨d2, e2⟩ := ho i (List.mem_cons_of_mem _ hi)
    have : j = i := S.d j i b ⟨h1, d1, .inl e1⟩ ⟨e, d2, .inl e2⟩
    exact n1 (by rw [this]; exact hi)
theorem call_args (S : SR c.K c.io Fr G σ H r) (hsl : ∀ i ∈ sl, ∃ d, r[i]? = some (.ow d)) : ∀ {io : List Bool} {a : ME} {sl' : List Nat} {ds ds' : List D} {vs : List V}, ioSl io a = some sl' → (∀ j ∈ sl', j ∈ sl) → APs c.K G σ a ds vs → a.fresh ds r = some ds' →
    ArgR c.K (frOf Fr σ r sl H) G H io ds' vs ∧ SlA σ sl' (ioA io vs)
  | [], a, sl', ds, ds', vs, h, _, q, f => by
    cases a <;> try (cases h; done)
    cases h
    obtain ⟨rfl, rfl⟩ := q
    cases f
    exact ⟨⟨rfl, rfl⟩, rfl⟩
  | true :: bs, a, sl', ds, ds', vs, h, hm, q, f => by
    cases a <;> try (cases h; done)
    rename_i a m
    cases a <;> try (cases h; done)
    rename_i j
    have h : (ioSl bs m).map (j :: ·) = some sl' := h
    cases e : ioSl bs m with
    | none => rw [e] at h; cases h
    | some sr =>
      rw [e] at h
      cases h
      cases ds with
      | nil => exact q.elim
      | cons d0 ds =>
        cases vs with
        | nil => exact q.elim
        | cons v vs =>
          obtain ⟨q1, q2⟩ := q
          obtain ⟨d, hd⟩ := hsl j (hm j List.mem_cons_self)
          have pk : peek r j = some d := by unfold peek; rw [hd]
          have f : (match peek r j, m.fresh ds r with
            | some d, some l => some (d :: l)
            | _, _ => none) = some ds' := f
          rw [pk] at f
          cases e2 : m.fresh ds r with
          | none => rw [e2] at f; cases f
          | some l =>
            rw [e2] at f
            cases f
            obtain ⟨k1, k2⟩ := call_args S hsl e (fun i hi => hm i (List.mem_cons_of_mem _ hi)) q2 e2
            obtain ⟨b, e3, g1, g2, g3⟩ := S.s j _ hd
            rw [q1] at e3
            cases e3
            have hoa : ownAt σ r j b := ⟨q1, d, .inl hd⟩
            exact ⟨⟨d, l, b, vs, rfl, rfl, g3, g1, frOf_in S hoa (hm j List.mem_cons_self), k1⟩, b, _, rfl, q1, k2⟩
  | false :: bs, a, sl', ds, ds', vs, h, hm, q, f => by
    cases a <;> try (cases h; done)
    rename_i a m
    have h : (if isNm a then none else ioSl bs m) = some sl' := h
    split at h
    · cases h
    · rename_i hn
      have hn : isNm a = false := by simpa using hn
      cases ds with
      | nil => cases a <;> exact q.elim
      | cons d ds =>
        cases vs with
        | nil => cases a <;> exact q.elim
        | cons v vs =>
          have q : RV c.K G d v ∧ APs c.K G σ m ds vs := by cases a <;> first | exact q | exact Bool.noConfusion hn
          have f : (m.fresh ds r).map (d :: ·) = some ds' := by cases a <;> first | exact f | exact Bool.noConfusion hn
          cases e2 : m.fresh ds r with
          | none => rw [e2] at f; cases f
          | some l =>
            rw [e2] at f
            cases f
            obtain ⟨k1, k2⟩ := call_args S hsl h hm q.2 e2
            exact ⟨⟨d, l, v, vs, rfl, rfl, q.1, k1⟩, k2⟩
/-- behind a call -/
theorem SR.call {as : List Addr} {outs : List D} (S : SR c.K c.io Fr G σ H r) (k : Kept (frOf Fr σ r sl H) G G' H') (ha : SlA σ sl as) (ho : OutR c.K G' H' as outs) (nd : sl.Nodup) (hs : VL.setOw r sl outs = some r2) :
    SR c.K c.io Fr G' σ H' r2 ∧ ∀ i a, ownAt σ r2 i a → ownAt σ r i a := by
  obtain ⟨h1, h2, h3, h4, h5⟩ := setOw_spec hs nd
  have at_ := outs_at ha ho h4
  have back : ∀ i a, ownAt σ r2 i a → ownAt σ r i a := fun i a ⟨q1, d, q2⟩ => by
    by_cases z : i ∈ sl
    · obtain ⟨d0, e0⟩ := h3 i z
      exact ⟨q1, d0, .inl e0⟩
    · rw [h2 i z] at q2
      exact ⟨q1, d, q2⟩
  refine ⟨⟨by rw [h1, S.len], k.h, fun a o e => k.f a o (frOf_fr e), fun i x e => ?_, fun i j a q1 q2 => S.d i j a (back i a q1) (back j a q2), fun p hp => ?_⟩, back⟩
  · by_cases z : i ∈ sl
    · obtain ⟨a, d, e1, _, e2, e3, e4⟩ := at_ i z
      rw [e2] at e
      cases e
      obtain ⟨d0, e0⟩ := h3 i z
      exact ⟨a, e1, e4, (S.ownSlot ⟨e1, d0, .inl e0⟩).2.1, e3⟩
    · rw [h2 i z] at e
      have q := S.s i x e
      have other : ∀ {a : Addr}, Fr a = none → ownAt σ r i a → (∃ o, H a = some o) → G' a = none ∧ H' a = H a := fun {a} f0 q ⟨o, eo⟩ => by
        have := k.f a o (by rw [frOf_own f0 q z]; exact eo)
        exact ⟨this.2, by rw [this.1, eo]⟩
      cases x with
      | un => trivial
      | fz d => obtain ⟨v, e1, q⟩ := q; exact ⟨v, e1, q.mono k.g⟩
      | ow d =>
        obtain ⟨a, e1, q1, q2, q3⟩ := q
        obtain ⟨t1, t2⟩ := other q2 ⟨e1, d, .inl e⟩ q3.there
        exact ⟨a, e1, t1, q2, (q3.mono k.g).heap t2⟩
      | lk d =>
        obtain ⟨a, e1, q1, q2, q3⟩ := q
        obtain ⟨t1, t2⟩ := other q2 ⟨e1, d, .inr e⟩ q3.there
        exact ⟨a, e1, t1, q2, (q3.mono k.g).heap t2⟩
  · obtain ⟨e1, d, e2⟩ := S.i p hp
    by_cases z : p.1 ∈ sl
    · obtain ⟨a, d', _, _, e3, _⟩ := at_ _ z
      exact ⟨e1, d', .inl e3⟩
    · exact ⟨e1, d, by rw [h2 _ z]; exact e2⟩
end

/-- what a context knows of the defs -/
def CallsOk (X : Cx) (c : Cfg) (k : CkE) : Prop := ∀ (f : Nat) (fd : FDef) (x : Str), c.P.fs[f]? = some fd → k.FN[f]? = some x → x ≠ "" → ∃ (kk : Nat) (a : Addr) (fdata : FuncData) (ps : List Str), X.mg x = some (.ref a) ∧ PySem.W.keepIn X.K (.ref a) = true ∧ Binds X.K fdata ps [] ∧
  Room kk X.A ∧ FnG X.prog X.w X.K X.mg X.base (L2.CX X.prog X.w) kk a fdata ps (spG c fd.io fd.rf (c.cf f))
structure XOk (X : Cx) (c : Cfg) (k : CkE) : Prop extends XOk0 X c k where
  calls : CallsOk X c k
  kind : X.env.scope.kind = .function

section
variable {X : Cx} {c : Cfg} {k : CkE} {cx : CXT} {kk : Nat} {f : Addr} {fd : FuncData} {ps : List Str} {sp : Sp} {E : L2.St → XK}
theorem run_fnG {pins : List (Addr × Obj)} {σ : L2.St} {H : Hp} {s : Shared} {Q : VK} {us : List Value} {vs : List V} (F : FnG X.prog X.w X.K X.mg X.base cx kk f fd ps sp) (room : Room kk X.A) (gu : X.A.guards = some []) (bi : Binds X.K fd ps []) (pa : PassesAt cx X σ (E σ))
    (I : L2.Inv X pins σ H s) (rv : Vals vs us) (q : sp vs H Q (E σ)) : wpAny (model X.prog X.w) X.A (call (.ref f) us) (EP X pins σ Q) X.xe s := by
  have e1 : us.length = ps.length := rv.length.symm.trans (F.len _ _ _ _ q)
  have b1 := bi s us I.kIn (by rw [List.append_nil]; exact e1)
  rw [List.append_nil] at b1
  refine wpAny_call (codeAny_mono (F.run X.A X.stack s H ⟨us, []⟩ us vs Q (E σ) room gu I.env0 b1 rv q) ?_)
  rintro (e | fl) s' h
  · exact pa pins H s e s' I h
  · cases fl <;> first | exact I.after h | exact False.elim h
def tCallG (sp : Sp) (E : L2.St → XK) (t : TA) : TE := fun σ H Q => t σ H fun vs H1 => sp vs H1 Q (E σ)
theorem pe_callG {x : Str} {p pos : Pos} {e : Expr} {l : List Expr} {t : TA} (F : FnG X.prog X.w X.K X.mg X.base cx kk f fd ps sp) (room : Room kk X.A) (gu : X.A.guards = some []) (gl : Gl X x) (hm : X.mg x = some (.ref f)) (kp : PySem.W.keepIn X.K (.ref f) = true)
    (bi : Binds X.K fd ps []) (pa : ∀ σ, PassesAt cx X σ (E σ)) (ha : PA X (e :: l) t) (dbg : (x == ("__debug__" : Str)) = false) (h1 : starEach (e :: l) X.env = (false, eval e X.env) :: starEach l X.env) (h2 : (backTo pos (starEach l X.env)).any (·.1) = false) :
    PE X (.Call (.Name x p) (e :: l) [] pos) (tCallG sp E t) := by
  constructor
  intro pins s σ H Q I h
  refine wpAny_Call_Name_kw (ld_glob I gl hm ?_ dbg)
  exact PySem.W.callWith_K (h₀ := X.base) I.ok.mod.kin kp (thn (ha.run pos pins s σ H _ I h) fun us s1 ⟨vs, H1, I1, r, q⟩ => ⟨I1.kIn, run_fnG F room gu bi (pa σ) I1 r q⟩) h1 h2
theorem pe_callG0 {x : Str} {p pos : Pos} (F : FnG X.prog X.w X.K X.mg X.base cx kk f fd ps sp) (room : Room kk X.A) (gu : X.A.guards = some []) (gl : Gl X x) (hm : X.mg x = some (.ref f)) (kp : PySem.W.keepIn X.K (.ref f) = true)
    (bi : Binds X.K fd ps []) (pa : ∀ σ, PassesAt cx X σ (E σ)) (dbg : (x == ("__debug__" : Str)) = false) :
    PE X (.Call (.Name x p) [] [] pos) (fun σ H Q => sp [] H Q (E σ)) := by
  constructor
  intro pins s σ H Q I h
  refine wpAny_Call_Name_kw (ld_glob I gl hm ?_ dbg)
  exact PySem.W.callWith_K0 I.kIn kp (run_fnG F room gu bi (pa σ) I .nil h)
/-- a call's node -/
theorem call_core (O : XOk X c k) {fi : Nat} {fdf : FDef} {sl : List Nat} {a : ME} {σ : L2.St} {H : Hp} {Q : VK} (hf : c.P.fs[fi]? = some fdf) (hs : ioSl fdf.io a = some sl) (nd : sl.Nodup) (h : tS c fdf.rf (.call fi sl a) σ H Q) :
    tA c a σ H fun vs H1 => spG c fdf.io fdf.rf (c.cf fi) vs H1 Q (WE c.W σ) := by
  obtain ⟨Fr, G, r, S, h⟩ := h
  refine ⟨Fr, G, r, S, (Res.bind h).mono fun ds r1 q vs H1 G1 S1 g1 av => ?_⟩
  cases e1 : a.fresh ds r1 with
  | none => rw [e1] at q; exact q.elim
  | some x =>
    rw [e1] at q
    dsimp only at q
    cases e2 : c.cf fi x with
    | stk => rw [e2] at q; exact q.elim
    | ok d outs =>
      rw [e2] at q
      dsimp only at q
      cases e3 : VL.setOw r1 sl outs with
      | none => rw [e3] at q; exact q.elim
      | some r2 =>
        rw [e3] at q
        obtain ⟨d', e4, q⟩ := q
        cases e4
        obtain ⟨h1, h2, h3, h4, h5⟩ := setOw_spec e3 nd
        obtain ⟨k1, k2⟩ := call_args S1 h3 hs (fun _ h => h) av e1
        refine ⟨frOf Fr σ r1 sl H1, G1, x, S1.g, fun b o e => ?_, k1, SlA.nodup S1 k2 nd h3, ?_⟩
        · rcases frOf_inv e with z | ⟨z, j, zo, _⟩
          · exact S1.f b o z
          · exact ⟨z, (S1.ownSlot zo).1⟩
        · rw [e2]
          intro v H' G' kp ot rv
          obtain ⟨S2, bk⟩ := S1.call kp k2 ot nd e3
          refine q v H' G' S2 (g1.trans kp.g) ?_
          unfold ResV at rv
          unfold SV FV
          cases hrf : fdf.rf with
          | false =>
            rw [hrf] at rv
            exact rv
          | true =>
            rw [hrf] at rv
            rw [if_pos rfl]
            split at rv
            · rename_i hm
              have hm : d.mutb = true := by simpa using hm
              rw [if_pos hm]
              obtain ⟨b, rfl, z1, z2, z3, z4⟩ := rv
              have fb : Fr b = none := by
                cases ef : Fr b with
                | none => rfl
                | some o => rw [frOf_fr ef] at z3; cases z3
              refine ⟨b, rfl, z1, z2, fb, fun j qo => ?_⟩
              have q1 := bk j b qo
              by_cases zz : j ∈ sl
              · obtain ⟨b2, d2, y1, y2, _⟩ := outs_at k2 ot h4 j zz
                have := q1.1
                rw [y1] at this
                cases this
                exact z4 y2
              · obtain ⟨_, _, o, ho⟩ := S1.ownSlot q1
                rw [frOf_own fb q1 zz, ho] at z3
                cases z3
            · rename_i hm
              rw [if_neg (by simpa using hm)]
              exact rv
    | err n fs outs =>
      rw [e2] at q
      dsimp only at q
      cases e3 : VL.setOw r1 sl outs with
      | none => rw [e3] at q; exact q.elim
      | some r2 =>
        rw [e3] at q
        obtain ⟨h1, h2, h3, h4, h5⟩ := setOw_spec e3 nd
        obtain ⟨k1, k2⟩ := call_args S1 h3 hs (fun _ h => h) av e1
        refine ⟨frOf Fr σ r1 sl H1, G1, x, S1.g, fun b o e => ?_, k1, SlA.nodup S1 k2 nd h3, ?_⟩
        · rcases frOf_inv e with z | ⟨z, j, zo, _⟩
          · exact S1.f b o z
          · exact ⟨z, (S1.ownSlot zo).1⟩
        · rw [e2]
          intro H' G' dx kp ot xr
          obtain ⟨S2, bk⟩ := S1.call kp k2 ot nd e3
          exact q H' G' dx S2 (g1.trans kp.g) xr
theorem pe_call (O : XOk X c k) {fi : Nat} {fdf : FDef} {x : Str} {sl : List Nat} {a : ME} {es : List Expr} {p pos : Pos} (hf : c.P.fs[fi]? = some fdf) (hN : k.FN[fi]? = some x) (hx : k.names.lookup x = some .globalImplicit) (hd : (x == ("__debug__" : Str)) = false) (hne : x ≠ "") (hs : ioSl fdf.io a = some sl) (nd : sl.Nodup) (ha : ArgsOk c X a es) :
    PE X (.Call (.Name x p) es [] pos) (tS c fdf.rf (.call fi sl a)) := by
  obtain ⟨kk, f, fdata, ps, h1, h2, h3, h4, h5⟩ := O.calls fi fdf x hf hN hne
  cases es with
  | nil =>
    refine peI (pe_callG0 h5 h4 O.g.guards (O.gl0 hx) h1 h2 h3 (fun σ => passAt O.tk σ) hd) fun σ H Q q => ?_
    have q2 := call_core O hf hs nd q
    cases a <;> try (exact ha.elim)
    obtain ⟨Fr, G, r, S, q2⟩ := q2
    exact q2 [] H G S (Same.refl _) ⟨rfl, rfl⟩
  | cons e l =>
    have ha' := ha
    cases a <;> try (exact ha.elim)
    case nil => cases (show e :: l = [] from ha)
    obtain ⟨_, _, s1, s2⟩ := ha
    exact peI (pe_callG h5 h4 O.g.guards (O.gl0 hx) h1 h2 h3 (fun σ => passAt O.tk σ) ha'.pa hd (s1 _) (s2.plain _ _)) fun σ H Q q => call_core O hf hs nd q
end
end VL

/-! VL11: the expressions' nodes. -/
namespace VL
open PySem PySem.Spec L2
section
variable {X : Cx} {c : Cfg} {k : CkE} {Fr G G' H H' : Hp} {σ : L2.St} {r : Env}
def VOk (c : Cfg) (X : Cx) (m : ME) (e : Expr) : Prop := (isNm m = true → PE X e (tP c m)) ∧ (isNm m = false → PE X e (tS c (m.fr c.P) m))
theorem VOk.p {m : ME} {e : Expr} (h : VOk c X m e) : PE X e (tP c m) := by
  cases hm : isNm m with
  | true => exact h.1 hm
  | false => exact pe_peek hm (h.2 hm)
theorem VOk.of {m : ME} {e : Expr} (hm : isNm m = false) (h : PE X e (tS c (m.fr c.P) m)) : VOk c X m e := ⟨fun z => (by rw [hm] at z; cases z), fun _ => h⟩
theorem SV.vw {fr : Bool} {d : D} {v : V} (h : SV c.K fr Fr G H σ r d v) : VW c.K G H d v := by
  unfold SV at h
  split at h
  · unfold FV at h
    split at h
    · obtain ⟨a, rfl, h1, _⟩ := h
      exact .inr ⟨a, rfl, h1⟩
    · exact .inl h
  · exact .inl h
theorem APs.vw1 {m : ME} {d : D} {v : V} (S : SR c.K c.io Fr G σ H r) {r0 : Env} (h1 : evl c m r0 = .ok [d] r) (h : APs c.K G σ (.cons m .nil) [d] [v]) : VW c.K G H d v := by
  cases hm : isNm m with
  | false => exact .inl (APs.rv hm h)
  | true =>
    cases m <;> try (cases hm; done)
    rename_i j
    have h1 : (match peek r0 j with
      | some d => Out.ok [d] r0
      | none => .stk) = .ok [d] r := h1
    cases e : peek r0 j with
    | none => rw [e] at h1; cases h1
    | some d0 =>
      rw [e] at h1
      cases h1
      exact peek_vw S e h.1

/-! ### constants, names -/
def kstOk : D → Expr → Bool
  | .non, .Constant .none _ _ => true
  | .bl b, .Constant (.bool b') _ _ => b == b'
  | .int i, .Constant (.int j) _ _ => i == j
  | .str s, .Constant (.str z) _ _ => decide (s = z)
  | .dct [], .Dict [] [] _ => true
  | _, _ => false
theorem tS_const {d : D} {v : V} {Q : VK} (hd : d.mutb = false) (hv : ∀ G, RV c.K G d v) (h : tS c true (.kst d) σ H Q) : Q v H := by
  obtain ⟨Fr, G, r, S, h⟩ := h
  obtain ⟨d', e, q⟩ := h
  cases e
  refine q v H G S (Same.refl _) ?_
  unfold SV FV
  rw [if_pos rfl, if_neg (by rw [hd]; exact Bool.false_ne_true)]
  exact hv G
theorem kst_pe {d : D} {e : Expr} (h : kstOk d e = true) : PE X e (tS c true (.kst d)) := by
  unfold kstOk at h
  split at h
  · exact peI pe_non fun σ H Q q => tS_const (c := c) (d := .non) (v := .non) rfl (fun _ => rfl) q
  · rename_i b b' _ _
    obtain rfl : b = b' := by simpa using h
    exact peI pe_bl fun σ H Q q => tS_const (c := c) (d := .bl b) (v := .bl b) rfl (fun _ => rfl) q
  · rename_i b b' _ _
    obtain rfl : b = b' := by simpa using h
    exact peI pe_int fun σ H Q q => tS_const (c := c) (d := .int b) (v := .int b) rfl (fun _ => rfl) q
  · rename_i b b' _ _
    obtain rfl : b = b' := by simpa using h
    exact peI pe_str fun σ H Q q => tS_const (c := c) (d := .str b) (v := .str b) rfl (fun _ => rfl) q
  · refine peI pe_dnew fun σ H Q q p hp => ?_
    obtain ⟨Fr, G, r, S, q⟩ := q
    obtain ⟨d', e, q⟩ := q
    cases e
    exact (post_of S (Same.refl _) q).new p (DctO p 0 []) hp ⟨0, [], rfl, List.nodup_nil, rfl⟩
  · cases h
theorem vis_of {j : Nat} {x : Str} (h : vis k j x = true) : k.N[j]? = some x ∧ (x == ("__debug__" : Str)) = false ∧ (x == ("__classdict__" : Str)) = false ∧ (k.names.lookup x = some .local ∨ k.names.lookup x = some .cell ∨ k.names.lookup x = some .free) := by
  unfold vis at h
  simp only [Bool.and_eq_true, decide_eq_true_eq, Bool.not_eq_true', decide_eq_false_iff_not] at h
  obtain ⟨⟨⟨h1, h2⟩, h3⟩, h4⟩ := h
  refine ⟨h1, by simpa using h2, by simpa using h3, ?_⟩
  split at h4
  · exact .inl (by assumption)
  · exact .inr (.inl (by assumption))
  · exact .inr (.inr (by assumption))
  · cases h4
theorem pe_name (O : XOk0 X c k) {j : Nat} {x : Str} {pos : Pos} (h : vis k j x = true) : PE X (.Name x pos) (tVar j) := by
  obtain ⟨h1, h2, h3, h4⟩ := vis_of h
  exact pe_var (by rw [O.N]; exact h1) (by show X.env.scope.names.lookup x = _ ∨ _; rw [O.nm]; exact h4) h2 h3
theorem pe_nm (O : XOk0 X c k) {j : Nat} {x : Str} {pos : Pos} (h : vis k j x = true) : PE X (.Name x pos) (tP c (.nm j)) := peI (pe_name O h) fun σ H Q q => by
  obtain ⟨Fr, G, r, S, q⟩ := q
  have q : Res c Fr G σ (match peek r j with
    | some d => Out.ok [d] r
    | none => .stk) _ := q
  cases e : peek r j with
  | none => rw [e] at q; exact q.elim
  | some d =>
    rw [e] at q
    obtain ⟨d', e2, q⟩ := q
    cases e2
    obtain ⟨v, hv⟩ : ∃ v, σ[j]? = some (some v) := by
      unfold peek at e
      split at e
      · rename_i e1; obtain ⟨v, e2, _⟩ := S.s _ _ e1; exact ⟨v, e2⟩
      · rename_i e1; obtain ⟨v, e2, _⟩ := S.s _ _ e1; exact ⟨_, e2⟩
      · rename_i e1; obtain ⟨v, e2, _⟩ := S.s _ _ e1; exact ⟨_, e2⟩
      · cases e
    exact ⟨v, hv, q v H G S (Same.refl _) ⟨hv, rfl, rfl⟩⟩
theorem io_out (hio : ∀ p ∈ c.io, p.1 ∈ k.io) {j : Nat} (h : k.io.contains j = false) : ∀ p ∈ c.io, p.1 ≠ j := fun p hp z => by
  have := hio p hp
  rw [z] at this
  have : k.io.contains j = true := by simpa using this
  rw [h] at this
  cases this
theorem pe_cap (O : XOk0 X c k) {j : Nat} {x : Str} {pos : Pos} (h : vis k j x = true) (hj : k.io.contains j = false) : PE X (.Name x pos) (tS c false (.cap j)) := peI (pe_name O h) fun σ H Q q => by
  obtain ⟨Fr, G, r, S, q⟩ := q
  have q : Res c Fr G σ (match capE r j with
    | some (d, r') => Out.ok [d] r'
    | none => .stk) _ := q
  unfold capE at q
  cases e : r[j]? with
  | none => rw [e] at q; exact q.elim
  | some s =>
    rw [e] at q
    cases s with
    | un => exact q.elim
    | lk d => exact q.elim
    | fz d =>
      obtain ⟨d', e2, q⟩ := q
      cases e2
      obtain ⟨v, hv, rv⟩ := S.s _ _ e
      exact ⟨v, hv, q v H G S (Same.refl _) rv⟩
    | ow d =>
      obtain ⟨d', e2, q⟩ := q
      cases e2
      obtain ⟨a, o, h1, h2, h3, S', rv⟩ := S.cap (io_out O.io hj) e
      exact ⟨_, h1, q _ H _ S' (same_upd h2) rv⟩
theorem pe_gt (O : XOk0 X c k) {i : Nat} {x : Str} {d : D} {pos : Pos} (h : k.gt.lookup i = some (x, d)) (hp : i ∈ k.gp) (hx : k.names.lookup x = some .globalImplicit) (hd : (x == ("__debug__" : Str)) = false) : PE X (.Name x pos) (tS c false (.glb i)) := by
  rw [O.gtk] at h
  obtain ⟨u, v, h1, h2, h3⟩ := O.gl i x d h hp
  refine peI (pe_glob (O.gl0 hx) h1 h2 hd) fun σ H Q q => ?_
  obtain ⟨Fr, G, r, S, q⟩ := q
  have q : Res c Fr G σ (match c.P.gt.lookup i with
    | some x => Out.ok [x.2] r
    | none => .stk) _ := q
  rw [h] at q
  obtain ⟨d', e2, q⟩ := q
  cases e2
  exact q v H G S (Same.refl _) (h3 G)

/-! ### a < b < c -/
def cmpOp : Op → Option CmpOp
  | .eq => some .Eq
  | .ne => some .NotEq
  | .lt => some .Lt
  | .le => some .LtE
  | .gt => some .Gt
  | .ge => some .GtE
  | _ => none
theorem cmp_op (O : XOk0 X c k) {o : Op} {p : CmpOp} (h : cmpOp o = some p) : OpR X (compareOp p) (rD2 (kw X) o true) := by
  cases o <;> try (cases h; done)
  case eq => cases h; exact r2_eq O.g.toXG0
  case ne => cases h; exact r2_ne O.g.toXG0
  case lt => cases h; exact r2_lt
  case le => cases h; exact r2_le
  case gt => cases h; exact r2_gt
  case ge => cases h; exact r2_ge
theorem cmp_isCmp {o : Op} {p : CmpOp} (h : cmpOp o = some p) : isCmp o = true ∧ p ≠ .In ∧ p ≠ .NotIn := by
  cases o <;> first | (cases h; done) | (cases h; exact ⟨rfl, by decide, by decide⟩)
theorem post_bl {o : Op} {d : D} {Q : VK} {G1 H1 : Hp} (h : OpPost c.K G1 H1 true d Q) {b : Bool} (e : d = .bl b) : Q (.bl b) H1 := by
  subst e
  exact bl_post h
theorem VWs.two' {K : KW} {ds : List D} {x y : V} (h : VWs K G H ds [x, y]) : ∃ d1 d2, ds = [d1, d2] ∧ VW K G H d1 x ∧ VW K G H d2 y := by
  match ds, h with
  | [], h => cases (show _ = [] from h)
  | [_], h => obtain ⟨v, rr, e, _, q⟩ := h; cases e; cases (show _ = [] from q)
  | [d1, d2], h =>
    obtain ⟨v, w, e, q1, q2⟩ := VWs.two h
    cases e
    exact ⟨d1, d2, rfl, q1, q2⟩
  | _ :: _ :: _ :: _, h => obtain ⟨v, rr, e, _, v2, r2, e2, _, v3, r3, e3, _⟩ := h; cases e; cases e2; cases e3
theorem VWs.one' {K : KW} {ds : List D} {x : V} (h : VWs K G H ds [x]) : ∃ d1, ds = [d1] ∧ VW K G H d1 x := by
  match ds, h with
  | [], h => cases (show _ = [] from h)
  | [d1], h =>
    obtain ⟨v, e, q1⟩ := VWs.one h
    cases e
    exact ⟨d1, rfl, q1⟩
  | _ :: _ :: _, h => obtain ⟨v, rr, e, _, v2, r2, e2, _⟩ := h; cases e; cases e2
theorem APs.refresh : ∀ {m : ME} {ds ds' : List D} {vs : List V}, APs c.K G σ m ds vs → m.fresh ds r = some ds' → APs c.K G σ m ds' vs := by
  intro m
  induction m with
  | cons a m _ ih =>
    intro ds ds' vs h f
    cases ds with
    | nil => cases a <;> exact h.elim
    | cons d ds =>
      cases vs with
      | nil => cases a <;> exact h.elim
      | cons v vs =>
        by_cases hn : ∃ j, a = .nm j
        · obtain ⟨j, rfl⟩ := hn
          have f : (match peek r j, m.fresh ds r with
            | some d, some l => some (d :: l)
            | _, _ => none) = some ds' := f
          split at f
          · rename_i d1 l e1 e2
            cases f
            exact ⟨h.1, ih h.2 e2⟩
          · cases f
        · have f : (m.fresh ds r).map (d :: ·) = some ds' := by cases a <;> first | exact f | exact absurd ⟨_, rfl⟩ hn
          cases e : m.fresh ds r with
          | none => rw [e] at f; cases f
          | some l =>
            rw [e] at f
            cases f
            cases a <;> first | exact absurd ⟨_, rfl⟩ hn | exact ⟨h.1, ih h.2 e⟩
  | nil =>
    intro ds ds' vs h f
    obtain ⟨rfl, rfl⟩ := h
    cases f
    exact ⟨rfl, rfl⟩
  | _ => intro ds ds' vs h; cases ds <;> cases vs <;> exact h.elim
theorem chain_core (hK : kw X = c.K) {o1 o2 : Op} {p1 : CmpOp} {a b z : ME} {Q : VK} (i1 : isCmp o1 = true) (h1 : a.one = true) (h2 : b.one = true) (h3 : z.one = true) (h : tS c true (.chain o1 o2 (.cons a (.cons b .nil)) z) σ H Q) :
    tChain (rD2 (kw X) o1 true) (rD2 (kw X) o2 true) (tP c a) (tP c b) (tP c z) σ H Q := by
  obtain ⟨Fr, G, r, S, h⟩ := h
  refine (args2 h1 h2 S (Res.bind h)).imp fun x H1 q => q.imp fun y H2 ⟨G1, r1, ds, S1, g1, av, q⟩ => ?_
  cases e1 : (ME.cons a (.cons b .nil)).fresh ds r1 with
  | none => rw [e1] at q; exact q.elim
  | some ds' =>
    rw [e1] at q
    dsimp only at q
    obtain ⟨d1, d2, rfl, k1, k2⟩ := VWs.two' (APs.fresh S1 av e1)
    cases e2 : o1.ap shownD [d1, d2] with
    | none => rw [e2] at q; exact q.elim
    | some d =>
      rw [e2] at q
      obtain ⟨t, rfl⟩ := ap_bl i1 _ _ (show ap o1 [d1, d2] = some d from e2)
      rw [hK]
      refine ⟨G1, d1, d2, _, S1.g, k1, k2, e2, post_of S1 (Same.refl _) fun v H3 G3 S3 g3 sv => ?_⟩
      have ev : v = .bl t := sv
      refine ⟨t, ev, ?_⟩
      cases t with
      | false =>
        obtain ⟨d', e3, q⟩ := q
        cases e3
        exact q _ H3 G3 S3 (g1.trans g3) rfl
      | true =>
        rw [if_pos rfl]
        have q := (Res.bind q).grow (g1.trans g3)
        have q : Res c Fr G3 σ (evl c z r1) _ := q
        refine ⟨Fr, G3, r1, S3, ?_⟩
        cases ez : evl c z r1 with
        | err n fs r2 => rw [ez] at q; exact q
        | stk => rw [ez] at q; exact q.elim
        | ok zs r4 =>
          rw [ez] at q
          obtain ⟨dz, rfl⟩ := ME.one_ev h3 ez
          refine ⟨dz, rfl, fun w H4 G4 S4 g4 az => ?_⟩
          have q : Res c Fr G σ _ _ := q
          cases e5 : (ME.cons a (.cons b .nil)).fresh [d1, d2] r4 with
          | none => rw [e5] at q; exact q.elim
          | some ds2 =>
            rw [e5] at q
            obtain ⟨d3, d4, rfl, k3, k4⟩ := VWs.two' (APs.fresh S4 (((av.refresh e1).mono g3).mono g4) e5)
            dsimp only at q
            cases e6 : (ME.cons z .nil).fresh [dz] r4 with
            | none => rw [e6] at q; exact q.elim
            | some zs2 =>
              rw [e6] at q
              obtain ⟨d5, rfl, k5⟩ := VWs.one' (APs.fresh S4 az e6)
              dsimp only at q
              cases e7 : o2.ap shownD [d4, d5] with
              | none => rw [e7] at q; exact q.elim
              | some d6 =>
                rw [e7] at q
                obtain ⟨d7, e8, q⟩ := q
                cases e8
                exact ⟨G4, d4, d5, d6, S4.g, k4, k5, e7, post_of S4 ((g1.trans g3).trans g4) q⟩
end
end VL

/-! VL12: and, or, if else; tests; append; comprehensions. -/
namespace VL
open PySem PySem.Spec L2
section
variable {X : Cx} {c : Cfg} {k : CkE} {Fr G G' H H' : Hp} {σ : L2.St} {r : Env}
theorem pe_cast {e : Expr} {m : ME} {fr fr' : Bool} (h : PE X e (tS c fr m)) (z : fr' = true → fr = true) : PE X e (tS c fr' m) := by
  cases fr' with
  | false => exact pe_weak h
  | true => rw [z rfl] at h; exact h
theorem and_core (hK : kw X = c.K) {fr : Bool} {a b : ME} {Q : VK} (h : tS c fr (.and_ a b) σ H Q) : tAndT X.K (tS c fr a) (tS c fr b) σ H Q := by
  obtain ⟨Fr, G, r, S, h⟩ := h
  refine ⟨Fr, G, r, S, (Res.bind h).mono fun ds r1 q => ?_⟩
  match ds, q with
  | [], q => exact q.elim
  | _ :: _ :: _, q => exact q.elim
  | [d], q =>
    refine ⟨d, rfl, fun v H' G' S' g sv => ?_⟩
    dsimp only at q
    cases e : d.tru with
    | none => rw [e] at q; exact q.elim
    | some t =>
      rw [e] at q
      refine ⟨t, by rw [kwK hK]; exact tru_D S'.g sv.vw e, ?_⟩
      cases t with
      | true =>
        have q : Res c Fr G σ (evl c b r1) _ := q
        exact ⟨Fr, G', r1, S', (q.grow g).mono fun ds2 r2 ⟨d2, e2, q⟩ => ⟨d2, e2, fun v2 H2 G2 S2 g2 sv2 => q v2 H2 G2 S2 (g.trans g2) sv2⟩⟩
      | false =>
        obtain ⟨d2, e2, q⟩ := q
        cases e2
        exact q v H' G' S' g sv
theorem or_core (hK : kw X = c.K) {fr : Bool} {a b : ME} {Q : VK} (h : tS c fr (.or_ a b) σ H Q) : tOrT X.K (tS c fr a) (tS c fr b) σ H Q := by
  obtain ⟨Fr, G, r, S, h⟩ := h
  refine ⟨Fr, G, r, S, (Res.bind h).mono fun ds r1 q => ?_⟩
  match ds, q with
  | [], q => exact q.elim
  | _ :: _ :: _, q => exact q.elim
  | [d], q =>
    refine ⟨d, rfl, fun v H' G' S' g sv => ?_⟩
    dsimp only at q
    cases e : d.tru with
    | none => rw [e] at q; exact q.elim
    | some t =>
      rw [e] at q
      refine ⟨t, by rw [kwK hK]; exact tru_D S'.g sv.vw e, ?_⟩
      cases t with
      | false =>
        have q : Res c Fr G σ (evl c b r1) _ := q
        exact ⟨Fr, G', r1, S', (q.grow g).mono fun ds2 r2 ⟨d2, e2, q⟩ => ⟨d2, e2, fun v2 H2 G2 S2 g2 sv2 => q v2 H2 G2 S2 (g.trans g2) sv2⟩⟩
      | true =>
        obtain ⟨d2, e2, q⟩ := q
        cases e2
        exact q v H' G' S' g sv
theorem ite_core {fr : Bool} {cc a b : ME} {Q : VK} (h : tS c fr (.ite cc a b) σ H Q) : tIf (tT c cc) (tS c fr a) (tS c fr b) σ H Q := by
  obtain ⟨Fr, G, r, S, h⟩ := h
  have h := Res.bind h
  have h : Res c Fr G σ (evl c cc r) _ := h
  refine ⟨Fr, G, r, S, ?_⟩
  have key : Res c Fr G σ ((evl c cc r).bind fun x r1 => match x with
    | [x] => match x.tru with
      | some b => Out.ok b r1
      | none => .stk
    | _ => .stk) fun t r' => ∀ (H' G' : Hp), SR c.K c.io Fr G' σ H' r' → Same G G' → if t = true then tS c fr a σ H' Q else tS c fr b σ H' Q := by
    cases ev : evl c cc r with
    | stk => rw [ev] at h; exact h.elim
    | err n fs r1 => rw [ev] at h; exact h
    | ok ds r1 =>
      rw [ev] at h
      have q : Res c Fr G σ (match ds with
        | [x] => match x.tru with
          | some true => evl c a r1
          | some false => evl c b r1
          | none => .stk
        | _ => .stk) fun ds r' => ∃ d, ds = [d] ∧ ∀ (v : V) (H' G' : Hp), SR c.K c.io Fr G' σ H' r' → Same G G' → SV c.K fr Fr G' H' σ r' d v → Q v H' := h
      match ds, q with
      | [], q => exact q.elim
      | _ :: _ :: _, q => exact q.elim
      | [d], q =>
        show Res c Fr G σ (match d.tru with
          | some b => Out.ok b r1
          | none => .stk) _
        dsimp only at q
        cases e : d.tru with
        | none => rw [e] at q; exact q.elim
        | some t =>
          rw [e] at q
          intro H' G' S' g
          cases t with
          | true => exact ⟨Fr, G', r1, S', (q.grow g).mono fun ds2 r2 ⟨d2, e2, q⟩ => ⟨d2, e2, fun v2 H2 G2 S2 g2 sv2 => q v2 H2 G2 S2 (g.trans g2) sv2⟩⟩
          | false => exact ⟨Fr, G', r1, S', (q.grow g).mono fun ds2 r2 ⟨d2, e2, q⟩ => ⟨d2, e2, fun v2 H2 G2 S2 g2 sv2 => q v2 H2 G2 S2 (g.trans g2) sv2⟩⟩
  exact key

/-! ### tests -/
theorem evC_and (a b : ME) (r : Env) : evC shownD c.P c.cf (.and_ a b) r = (evC shownD c.P c.cf a r).bind fun t r1 => if t then evC shownD c.P c.cf b r1 else .ok false r1 := by
  show (((evl c a r).bind fun x r1 => match x with
    | [x] => match x.tru with
      | some true => evl c b r1
      | some false => .ok [x] r1
      | none => .stk
    | _ => .stk).bind _) = ((evl c a r).bind _).bind _
  cases evl c a r with
  | stk => rfl
  | err n fs r1 => rfl
  | ok ds r1 =>
    match ds with
    | [] => rfl
    | _ :: _ :: _ => rfl
    | [d] =>
      show ((match d.tru with
        | some true => evl c b r1
        | some false => Out.ok [d] r1
        | none => .stk).bind _) = ((match d.tru with
          | some b => Out.ok b r1
          | none => .stk).bind _)
      cases e : d.tru with
      | none => rfl
      | some t =>
        cases t with
        | true => rfl
        | false =>
          show (match d.tru with
            | some b => Out.ok b r1
            | none => .stk) = _
          rw [e]
          rfl
theorem evC_or (a b : ME) (r : Env) : evC shownD c.P c.cf (.or_ a b) r = (evC shownD c.P c.cf a r).bind fun t r1 => if t then .ok true r1 else evC shownD c.P c.cf b r1 := by
  show (((evl c a r).bind fun x r1 => match x with
    | [x] => match x.tru with
      | some true => .ok [x] r1
      | some false => evl c b r1
      | none => .stk
    | _ => .stk).bind _) = ((evl c a r).bind _).bind _
  cases evl c a r with
  | stk => rfl
  | err n fs r1 => rfl
  | ok ds r1 =>
    match ds with
    | [] => rfl
    | _ :: _ :: _ => rfl
    | [d] =>
      show ((match d.tru with
        | some true => Out.ok [d] r1
        | some false => evl c b r1
        | none => .stk).bind _) = ((match d.tru with
          | some b => Out.ok b r1
          | none => .stk).bind _)
      cases e : d.tru with
      | none => rfl
      | some t =>
        cases t with
        | false => rfl
        | true =>
          show (match d.tru with
            | some b => Out.ok b r1
            | none => .stk) = _
          rw [e]
          rfl
theorem tT_and {a b : ME} {Q : Bool → Hp → Prop} (h : tT c (.and_ a b) σ H Q) : tAnd (tT c a) (tT c b) σ H Q := by
  obtain ⟨Fr, G, r, S, h⟩ := h
  rw [evC_and] at h
  refine ⟨Fr, G, r, S, (Res.bind h).mono fun t r1 q H' G' S' g => ?_⟩
  cases t with
  | true =>
    have q : Res c Fr G σ (evC shownD c.P c.cf b r1) _ := q
    exact ⟨Fr, G', r1, S', (q.grow g).mono fun t2 r2 q H2 G2 S2 g2 => q H2 G2 S2 (g.trans g2)⟩
  | false => exact q H' G' S' g
theorem tT_or {a b : ME} {Q : Bool → Hp → Prop} (h : tT c (.or_ a b) σ H Q) : tOr (tT c a) (tT c b) σ H Q := by
  obtain ⟨Fr, G, r, S, h⟩ := h
  rw [evC_or] at h
  refine ⟨Fr, G, r, S, (Res.bind h).mono fun t r1 q H' G' S' g => ?_⟩
  cases t with
  | false =>
    have q : Res c Fr G σ (evC shownD c.P c.cf b r1) _ := q
    exact ⟨Fr, G', r1, S', (q.grow g).mono fun t2 r2 q H2 G2 S2 g2 => q H2 G2 S2 (g.trans g2)⟩
  | true => exact q H' G' S' g
theorem evC_not (a : ME) (r : Env) (ha : ∀ ds r1, evl c a r = .ok ds r1 → ∃ d, ds = [d] ∧ (ME.cons a .nil).fresh [d] r1 = some [d]) : evC shownD c.P c.cf (.op .not_ (.cons a .nil)) r = (evC shownD c.P c.cf a r).bind fun t r1 => .ok (!t) r1 := by
  show ((((evl c a r).bind fun x r1 => (Out.ok [] r1).bind fun y r2 => Out.ok (x ++ y) r2).bind fun x r1 => match (ME.cons a .nil).fresh x r1 with
    | some x => match ap .not_ x with
      | some d => Out.ok [d] r1
      | none => .stk
    | none => .stk).bind _) = ((evl c a r).bind _).bind _
  cases e : evl c a r with
  | stk => rfl
  | err n fs r1 => rfl
  | ok ds r1 =>
    obtain ⟨d, rfl, hf⟩ := ha ds r1 e
    show ((match (ME.cons a .nil).fresh [d] r1 with
      | some x => match ap .not_ x with
        | some d => Out.ok [d] r1
        | none => .stk
      | none => .stk).bind _) = ((match d.tru with
          | some b => Out.ok b r1
          | none => .stk).bind _)
    rw [hf]
    show ((match d.tru.map fun b => D.bl (!b) with
        | some d => Out.ok [d] r1
        | none => .stk).bind _) = _
    cases d.tru <;> rfl
theorem fresh_self {a : ME} (h1 : a.one = true) {r : Env} : ∀ ds r1, evl c a r = .ok ds r1 → ∃ d, ds = [d] ∧ (ME.cons a .nil).fresh [d] r1 = some [d] := fun ds r1 e => by
  obtain ⟨d, rfl⟩ := ME.one_ev h1 e
  refine ⟨d, rfl, ?_⟩
  by_cases hn : ∃ j, a = .nm j
  · obtain ⟨j, rfl⟩ := hn
    have e : (match peek r j with
      | some d => Out.ok [d] r
      | none => .stk) = .ok [d] r1 := e
    cases e2 : peek r j with
    | none => rw [e2] at e; cases e
    | some d0 =>
      rw [e2] at e
      cases e
      show (match peek r j, some [] with
        | some d, some l => some (d :: l)
        | _, _ => none) = _
      rw [e2]
  · cases a <;> first | rfl | exact absurd ⟨_, rfl⟩ hn
theorem tT_not {a : ME} (h1 : a.one = true) {Q : Bool → Hp → Prop} (h : tT c (.op .not_ (.cons a .nil)) σ H Q) : tNot (tT c a) σ H Q := by
  obtain ⟨Fr, G, r, S, h⟩ := h
  rw [evC_not a r (fresh_self h1)] at h
  exact ⟨Fr, G, r, S, (Res.bind h).mono fun t r1 q H' G' S' g => q H' G' S' g⟩
def plainT : Expr → Bool
  | .UnaryOp .. => false
  | .BoolOp .. => false
  | .IfExp .. => false
  | .Compare .. => false
  | _ => true
theorem plain_test {e : Expr} (h : plainT e = true) (env : PySem.Env) : ∀ whole, isTrue e env whole = (do let v ← whole; standAt e.pos; holding [v] (truthy v)) := by
  cases e <;> first | (intro _; rfl) | cases h
theorem pt_of_v (hK : kw X = c.K) {m : ME} {e : Expr} (hp : plainT e = true) (h : VOk c X m e) : PT X e (tT c m) := by
  cases hm : isNm m with
  | true =>
    refine ptI (pt_truth (h.1 hm) (plain_test hp _)) fun σ H Q q => ?_
    obtain ⟨Fr, G, r, S, q⟩ := q
    have q : Res c Fr G σ ((evl c m r).bind _) _ := q
    refine ⟨Fr, G, r, S, ?_⟩
    cases ev : evl c m r with
    | stk => rw [ev] at q; exact q.elim
    | err n fs r1 => rw [ev] at q; exact q
    | ok ds r1 =>
      rw [ev] at q
      have q : Res c Fr G σ (match ds with
        | [x] => match x.tru with
          | some b => Out.ok b r1
          | none => .stk
        | _ => .stk) _ := q
      match ds, q with
      | [], q => exact q.elim
      | _ :: _ :: _, q => exact q.elim
      | [d], q =>
        dsimp only at q
        cases e : d.tru with
        | none => rw [e] at q; exact q.elim
        | some t =>
          rw [e] at q
          exact ⟨d, rfl, fun v H' G' S' g av => ⟨t, by rw [kwK hK]; exact tru_D S'.g (APs.vw1 S' ev av) e, q H' G' S' g⟩⟩
  | false =>
    refine ptI (pt_truth (h.2 hm) (plain_test hp _)) fun σ H Q q => ?_
    obtain ⟨Fr, G, r, S, q⟩ := q
    refine ⟨Fr, G, r, S, (Res.bind q).mono fun ds r1 q => ?_⟩
    match ds, q with
    | [], q => exact q.elim
    | _ :: _ :: _, q => exact q.elim
    | [d], q =>
      dsimp only at q
      cases e : d.tru with
      | none => rw [e] at q; exact q.elim
      | some t =>
        rw [e] at q
        exact ⟨d, rfl, fun v H' G' S' g sv => ⟨t, by rw [kwK hK]; exact tru_D S'.g sv.vw e, q H' G' S' g⟩⟩

/-! ### append -/
theorem pe_append (O : XOk0 X c k) {j : Nat} {x : Str} {a : ME} {e : Expr} {p apos cpos : Pos} (hv : vis k j x = true) (hn : noNm a = true) (hl : (apos.endLine == cpos.line) = true) (ha : ArgsOk c X a [e]) : PE X (.Call (.Attribute (.Name x p) "append" apos) [e] [] cpos) (tS c false (.mop .append j a)) := by
  obtain ⟨a1, rfl, h1, p1⟩ := ha.single
  have hs := ha.2.2.1 X.env
  have hfew : ((backTo cpos (starEach [e] X.env)).all (fun x => !x.1) && (backToKw cpos (keywordEach [] X.env)).all (fun x => x.1.isSome)
      && decide ([e].length + ([] : List Keyword).length + (if ([] : List Keyword).isEmpty then 0 else 1) < 30)) = true := by
    rw [hs]
    rfl
  refine peI (pe_bm PySem.F.plainAttrs_list PySem.F.slot_list_append rfl mt_append (pe_name O hv) ha.pa rfl hfew hl hs rfl) fun σ H Q q => ?_
  obtain ⟨Fr, G, r, S, q⟩ := q
  have q : Res c Fr G σ (match r[j]? with
      | some (.ow (.lst _)) => (evl c (.cons a1 .nil) r).bind fun x r1 => match (ME.cons a1 .nil).fresh x r1, owned r1 j with
        | some x, some d => match MOp.ap .append d x with
          | some (y, d') => Out.ok [y] (r1.set j (.ow d'))
          | none => .stk
        | _, _ => .stk
      | _ => .stk) _ := q
  split at q
  · rename_i z0 e0
    obtain ⟨p0, e1, g0, f0, vs0, e2, rv0⟩ := S.s _ _ e0
    refine ⟨_, e1, .inl ⟨rfl, vs0, .inl (.inl e2)⟩, ?_⟩
    refine ⟨Fr, G, r, S, (Res.bind q).mono fun ds r1 q vs H1 G1 S1 g1 av => ?_⟩
    have rvs := APs.rvs hn av
    cases e3 : (ME.cons a1 .nil).fresh ds r1 with
    | none => rw [e3] at q; exact q.elim
    | some ds' =>
      rw [e3] at q
      cases fresh_same hn e3
      cases e4 : owned r1 j with
      | none => rw [e4] at q; exact q.elim
      | some d =>
        rw [e4] at q
        dsimp only at q
        have hr : r1[j]? = some (.ow d) := by
          unfold owned at e4
          split at e4
          · cases e4; assumption
          · cases e4
        match d, ds, q, rvs with
        | .lst xs, [y], q, rvs =>
          have q : Res c Fr G σ (match (if xs.length < line then some (D.non, D.lst (xs ++ [y])) else none) with
            | some (y, d') => Out.ok [y] (r1.set j (.ow d'))
            | none => .stk) _ := q
          split at q
          · rename_i y' d' ey
            obtain ⟨d2, e5, q⟩ := q
            cases e5
            have hz : xs.length < line := by
              by_cases hz : xs.length < line
              · exact hz
              · rw [if_neg hz] at ey; cases ey
            rw [if_pos hz] at ey
            cases ey
            obtain ⟨v, vr, rfl, hv1, hv2⟩ := rvs
            cases (show vr = [] from hv2)
            obtain ⟨p1', e6, g2, f2, ws, e7, rvw⟩ := S1.s _ _ hr
            rw [e1] at e6
            cases e6
            refine ⟨p0, ws, v, rfl, rfl, e7, ?_, ?_⟩
            · rw [RVs.len rvw, ← line_eq]; exact hz
            · exact q .non _ G1 (S1.put e1 hr ⟨_, upd_same, RVs.snoc rvw hv1⟩) g1 rfl
          · exact q.elim
        | .non, _, q, _ | .bl _, _, q, _ | .int _, _, q, _ | .str _, _, q, _ | .tup _, _, q, _ | .dct _, _, q, _ => exact q.elim
        | .lst _, [], q, _ => exact q.elim
        | .lst _, _ :: _ :: _, q, _ => exact q.elim
  · exact q.elim
theorem pe_insert (O : XOk0 X c k) {j : Nat} {x : Str} {a : ME} {e f : Expr} {p apos cpos : Pos} (hv : vis k j x = true) (hn : noNm a = true) (hl : (apos.endLine == cpos.line) = true) (ha : ArgsOk c X a [e, f]) : PE X (.Call (.Attribute (.Name x p) "insert" apos) [e, f] [] cpos) (tS c false (.mop .insert j a)) := by
  obtain ⟨a1, a2, rfl, h1, h2, p1, p2⟩ := ha.two
  have hs := ha.2.2.1 X.env
  have hs2 : starEach [f] X.env = [(false, eval f X.env)] := ha.2.2.2.2.2.1 X.env
  have hfew : ((backTo cpos (starEach [e, f] X.env)).all (fun x => !x.1) && (backToKw cpos (keywordEach [] X.env)).all (fun x => x.1.isSome)
      && decide ([e, f].length + ([] : List Keyword).length + (if ([] : List Keyword).isEmpty then 0 else 1) < 30)) = true := by
    rw [hs, hs2]
    rfl
  refine peI (pe_bm PySem.F.plainAttrs_list PySem.F.slot_list_insert rfl mt_insert (pe_name O hv) ha.pa rfl hfew hl hs (by rw [hs2]; rfl)) fun σ H Q q => ?_
  obtain ⟨Fr, G, r, S, q⟩ := q
  have q : Res c Fr G σ (match r[j]? with
      | some (.ow (.lst _)) => (evl c (.cons a1 (.cons a2 .nil)) r).bind fun x r1 => match (ME.cons a1 (.cons a2 .nil)).fresh x r1, owned r1 j with
        | some x, some d => match MOp.ap .insert d x with
          | some (y, d') => Out.ok [y] (r1.set j (.ow d'))
          | none => .stk
        | _, _ => .stk
      | _ => .stk) _ := q
  split at q
  · rename_i z0 e0
    obtain ⟨p0, e1, g0, f0, vs0, e2, rv0⟩ := S.s _ _ e0
    refine ⟨_, e1, .inl ⟨rfl, vs0, .inl (.inl e2)⟩, ?_⟩
    refine ⟨Fr, G, r, S, (Res.bind q).mono fun ds r1 q vs H1 G1 S1 g1 av => ?_⟩
    have rvs := APs.rvs hn av
    cases e3 : (ME.cons a1 (.cons a2 .nil)).fresh ds r1 with
    | none => rw [e3] at q; exact q.elim
    | some ds' =>
      rw [e3] at q
      cases fresh_same hn e3
      cases e4 : owned r1 j with
      | none => rw [e4] at q; exact q.elim
      | some d =>
        rw [e4] at q
        dsimp only at q
        have hr : r1[j]? = some (.ow d) := by
          unfold owned at e4
          split at e4
          · cases e4; assumption
          · cases e4
        match d, ds, q, rvs with
        | .lst xs, [.int i, y], q, rvs =>
          have q : Res c Fr G σ (match (if xs.length < line ∧ 0 ≤ i ∧ i < 2 ^ 62 then some (D.non, D.lst (xs.take i.toNat ++ [y] ++ xs.drop i.toNat)) else none) with
            | some (y, d') => Out.ok [y] (r1.set j (.ow d'))
            | none => .stk) _ := q
          by_cases hz : xs.length < line ∧ 0 ≤ i ∧ i < 2 ^ 62
          · rw [if_pos hz] at q
            obtain ⟨d2, e5, q⟩ := q
            cases e5
            obtain ⟨v, vr, rfl, hv1, w, wr, rfl, hw1, hw2⟩ := rvs
            cases (show wr = [] from hw2)
            cases (show v = .int i from hv1)
            obtain ⟨p1', e6, g2, f2, ws, e7, rvw⟩ := S1.s _ _ hr
            rw [e1] at e6
            cases e6
            refine ⟨p0, ws, i, w, rfl, rfl, e7, ?_, hz.2.1, ?_, ?_⟩
            · rw [RVs.len rvw, ← line_eq]; exact hz.1
            · exact Int.lt_trans hz.2.2 (by decide)
            · exact q .non _ G1 (S1.put e1 hr ⟨_, upd_same, RVs.app (RVs.app (RVs.take _ rvw) (RVs.one hw1)) (RVs.drop _ rvw)⟩) g1 rfl
          · rw [if_neg hz] at q
            exact q.elim
        | .non, _, q, _ | .bl _, _, q, _ | .int _, _, q, _ | .str _, _, q, _ | .tup _, _, q, _ | .dct _, _, q, _ => exact q.elim
        | .lst _, [], q, _ => exact q.elim
        | .lst _, [.non], q, _ | .lst _, [.bl _], q, _ | .lst _, [.int _], q, _ | .lst _, [.str _], q, _ | .lst _, [.tup _], q, _ | .lst _, [.lst _], q, _ | .lst _, [.dct _], q, _ => exact q.elim
        | .lst _, .non :: _ :: _, q, _ | .lst _, .bl _ :: _ :: _, q, _ | .lst _, .str _ :: _ :: _, q, _ | .lst _, .tup _ :: _ :: _, q, _ | .lst _, .lst _ :: _ :: _, q, _ | .lst _, .dct _ :: _ :: _, q, _ => exact q.elim
        | .lst _, .int _ :: _ :: _ :: _, q, _ => exact q.elim
  · exact q.elim
end
end VL

/-! VL13: comprehensions. -/
namespace VL
open PySem PySem.Spec L2
def CkE.sc (k : CkE) (scope : Scope) : Scope := { scope with kind := .function, names := k.names }
def CkE.blk (k : CkE) (scope : Scope) : CkE := { k with names := (relS scope (k.sc scope)).names, raw := scope.names }
def Cfg.blk (c : Cfg) : Cfg := { c with W := fun _ _ _ _ => False }
def ownP (k : CkE) (own : List Nat) : List (Str × Nat) := own.filterMap fun j => (k.N[j]?).map fun x => (x, j)
def blkChk (k : CkE) (scope : Scope) (own : List Nat) : Bool := blkC k.N (k.sc scope) scope (ownP k own) && decide ((ownP k own).map (·.2) = own) && own.all (fun j => !k.io.contains j)
section
variable {X : Cx} {c : Cfg} {k : CkE} {Fr G G' H H' : Hp} {σ : L2.St} {r : Env}
theorem blk_names (O : XOk X c k) (scope : Scope) (cl : List (Str × Addr)) (C : Addr) : (compEnvC scope cl C X.env).scope = relS scope (k.sc scope) := by
  have e : (compEnvC scope cl C X.env).scope = relS scope X.env.scope := rfl
  rw [e]
  unfold relS CkE.sc
  rw [O.kind, O.nm]
theorem BlkOk.of (O : XOk X c k) {scope : Scope} {own : List Nat} (h : blkChk k scope own = true) : BlkOk X.N X.env.scope scope (ownP k own) ∧ (ownP k own).map (·.2) = own ∧ ∀ j ∈ own, k.io.contains j = false := by
  unfold blkChk at h
  simp only [Bool.and_eq_true, decide_eq_true_eq, List.all_eq_true, Bool.not_eq_true'] at h
  obtain ⟨⟨h1, h2⟩, h3⟩ := h
  have q := blkOk_by h1
  refine ⟨⟨q.kind, q.uniq, fun p hp => by rw [O.N]; exact q.ix p hp, fun y hy e => ?_, fun y hy e => by rw [O.N]; exact q.own y hy e⟩, h2, h3⟩
  have := q.free y hy e
  rw [O.nm]
  exact this
theorem XOk.blk (O : XOk X c k) {scope : Scope} (hk : scope.kind = .function) (s : Shared) (H : Hp) (C : Addr) (cl : List (Str × Addr)) (fp : List Addr) : XOk (X.blk s H scope (compEnvC scope cl C X.env) fp) c.blk (k.blk scope) where
  g := ⟨⟨O.g.guards, O.g.units, O.g.sys⟩, O.g.calm⟩
  K := O.K
  N := O.N
  nd := O.nd
  nm := by
    show (compEnvC scope cl C X.env).scope.names = _
    rw [blk_names O]
    rfl
  raw := fun x h => by
    have e := blk_names O scope cl C
    refine ⟨?_, ?_⟩
    · show (compEnvC scope cl C X.env).scope.names.lookup x = _ ∨ _
      rw [e]
      rcases h with h | h
      · exact .inl (lookup_relS_keep (sc := k.sc scope) (by decide) h)
      · exact .inr (lookup_relS_keep (sc := k.sc scope) (by decide) h)
    · rcases h with h | h
      · right
        show (compEnvC scope cl C X.env).scope.names.lookup x = _
        rw [e]
        exact lookup_relS_keep (sc := k.sc scope) (by decide) h
      · left
        show (scope.names.lookup x == some .cell) = true
        rw [show scope.names.lookup x = some .cell from h]
        rfl
  io := O.io
  tk := fun u s' ⟨a, B, sI, pins, σ, H, cls, d, e, I, nb, up, sky, na, os, ag, w⟩ => w.elim
  bt := O.bt
  gtk := O.gtk
  gl := O.gl
  gd := O.gd
  calls := fun f fd x h1 h2 h3 => O.calls f fd x h1 h2 h3
  kind := by
    show (compEnvC scope cl C X.env).scope.kind = _
    rw [blk_names O]
    exact hk
theorem drop_get {α : Type} {xs : List α} {i : Nat} {d : α} (h : xs[i]? = some d) : xs.drop i = d :: xs.drop (i + 1) := by
  obtain ⟨hi, e⟩ := List.getElem?_eq_some_iff.mp h
  rw [List.drop_eq_getElem_cons hi, e]
def tIf' (c : Cfg) (ifs : List Expr) (cc : ME) : TT := match ifs with
  | [] => tYes
  | _ => tT c cc
/-- the loop of a block -/
theorem comp_walk {own : List Nat} {tg : MG} {cc e : ME} {ifs : List Expr} {xs ys : List D} {r1 r2 : Env} {J : It} {G1 H1 : Hp} {Dn : Addr} {Q : Hp → Prop} (hcc : ifs = [] → cc = .kst (.bl true)) (hsl : ∀ j ∈ tg.slots, j ∈ own) (hio : ∀ j ∈ own, ∀ p ∈ c.io, p.1 ≠ j)
    (S1 : SR c.K c.io Fr G1 σ H1 r1) (hw : WalkD c.K G1 J xs) (hD : H1 Dn = none) (hl : compLoop own tg (evl c cc) (evl c e) [] xs r1 = .ok ys r2)
    (hQ : ∀ (H : Hp) (G2 : Hp) (accv : List V), SR c.K c.io (upd Fr Dn (.lst accv)) G2 (wipe σ own) H (wipeE r2 own) → Same G1 G2 → RVs c.K G2 ys accv → Q H) :
    ∃ W : Nat → Nat → Hp → Prop, (∃ m, W 0 m (upd H1 Dn (.lst []))) ∧ ∀ i m H, W i m H →
      (J.stop i H ∧ Q H) ∨ (J.go i H ∧ ∃ Nx : Hp → Prop, (∀ H', Nx H' → ∃ m', m' < m ∧ W (i + 1) m' H') ∧ ∀ x H', J.yld i H x H' → tgT c.blk tg x (wipe σ own) H' fun σ2 H2 => wipe σ2 own = wipe σ own ∧ tIf' c.blk ifs cc σ2 H2 fun b H3 =>
        if b = true then tS c.blk false e σ2 H3 fun y H4 => ∃ acc, H4 Dn = some (.lst acc) ∧ acc.length < sizeLine ∧ Nx (upd H4 Dn (.lst (acc ++ [y]))) else Nx H3) := by
  refine lc_it (Qd := Q) hw (fun i H => ∃ (G2 : Hp) (ri : Env) (acc : List D) (accv : List V), Same G1 G2 ∧ SR c.K c.io (upd Fr Dn (.lst accv)) G2 (wipe σ own) H (wipeE ri own) ∧ RVs c.K G2 acc accv ∧ compLoop own tg (evl c cc) (evl c e) acc (xs.drop i) ri = .ok ys r2) ?_ ?_ ?_ ?_
  · refine ⟨G1, r1, [], [], Same.refl _, SR.wipe hio ?_, rfl, hl⟩
    exact ((S1.grow hD).addFr upd_same (S1.none_g hD) fun j q => S1.none_own hD j q)
  · rintro i H _ ⟨G2, ri, acc, accv, g, S, _, _⟩
    exact g.trans S.g
  · rintro i x H H' hi ⟨G2, ri, acc, accv, g, S, ra, hl⟩ y
    obtain ⟨G3, d, e1, g3, S3, rd⟩ := S.yield g y
    rw [drop_get e1] at hl
    have hl : (match tg.bind d (wipeE ri own) with
      | none => Out.stk
      | some r1 => (evl c cc r1).bind fun b r2 => match b with
        | [b] => match b.tru with
          | some true => (evl c e r2).bind fun y r3 => match y with
            | [y] => if acc.length < line then compLoop own tg (evl c cc) (evl c e) (acc ++ [y]) (xs.drop (i + 1)) r3 else .stk
            | _ => .stk
          | some false => compLoop own tg (evl c cc) (evl c e) acc (xs.drop (i + 1)) r2
          | none => .stk
        | _ => .stk) = .ok ys r2 := hl
    cases eb : tg.bind d (wipeE ri own) with
    | none => rw [eb] at hl; cases hl
    | some rb =>
      rw [eb] at hl
      refine ⟨d, _, rb, _, G3, S3, rd, eb, fun σ2 S4 w4 => ?_⟩
      have w2 := w4 own hsl
      have w2 : wipe σ2 own = wipe σ own := by
        rw [w2]
        refine List.ext_getElem? fun i => ?_
        by_cases hi : i ∈ own
        · rw [wipe_get.2 hi, wipe_get.2 hi, wipe_length]
        · rw [wipe_get.1 hi]
      refine ⟨w2, ?_⟩
      obtain ⟨bs, r4, ec, hl⟩ := bind_ok hl
      match bs, hl with
      | [], hl => cases hl
      | _ :: _ :: _, hl => cases hl
      | [b], hl =>
        dsimp only at hl
        -- the test
        have fin : ∀ (t : Bool) (H5 G5 : Hp), b.tru = some t → SR c.K c.io (upd Fr Dn (.lst accv)) G5 σ2 H5 r4 → Same G3 G5 → (fun (b : Bool) (H3 : Hp) => if b = true then tS c.blk false e σ2 H3 fun y H4 => ∃ acc, H4 Dn = some (.lst acc) ∧ acc.length < sizeLine ∧ (∃ (G2 : Hp) (ri : Env) (acc' : List D) (accv : List V), Same G1 G2 ∧ SR c.K c.io (upd Fr Dn (.lst accv)) G2 (wipe σ own) (upd H4 Dn (.lst (acc ++ [y]))) (wipeE ri own) ∧ RVs c.K G2 acc' accv ∧ compLoop own tg (evl c cc) (evl c e) acc' (xs.drop (i + 1)) ri = .ok ys r2)
            else ∃ (G2 : Hp) (ri : Env) (acc : List D) (accv : List V), Same G1 G2 ∧ SR c.K c.io (upd Fr Dn (.lst accv)) G2 (wipe σ own) H3 (wipeE ri own) ∧ RVs c.K G2 acc accv ∧ compLoop own tg (evl c cc) (evl c e) acc (xs.drop (i + 1)) ri = .ok ys r2) t H5 := by
          intro t H5 G5 et S5 g5
          rw [et] at hl
          cases t with
          | false =>
            refine ⟨G5, r4, acc, accv, (g.trans g3).trans g5, ?_, RVs.mono (g3.trans g5) ra, hl⟩
            have := SR.wipe hio S5
            rw [w2] at this
            exact this
          | true =>
            obtain ⟨vs, r5, ee, hl⟩ := bind_ok hl
            match vs, hl with
            | [], hl => cases hl
            | _ :: _ :: _, hl => cases hl
            | [v], hl =>
              dsimp only at hl
              split at hl
              · rename_i hz
                refine ⟨_, G5, r4, S5, ?_⟩
                show Res c.blk _ _ _ (evl c e r4) _
                rw [ee]
                refine ⟨v, rfl, fun y H6 G6 S6 g6 rv => ⟨accv, (S6.f _ _ upd_same).1, ?_, ?_⟩⟩
                · rw [RVs.len ra, ← line_eq]; exact hz
                · refine ⟨G6, r5, acc ++ [v], accv ++ [y], ((g.trans g3).trans g5).trans g6, ?_, RVs.snoc (RVs.mono ((g3.trans g5).trans g6) ra) rv, hl⟩
                  have := SR.wipe hio (S6.putFr (o' := .lst (accv ++ [y])))
                  rw [w2] at this
                  exact this
              · cases hl
        cases ifs with
        | nil =>
          have := hcc rfl
          subst this
          cases ec
          exact fin true _ G3 rfl S4 (Same.refl _)
        | cons i0 is =>
          refine ⟨_, G3, rb, S4, ?_⟩
          show Res c.blk _ _ _ ((evl c cc rb).bind fun x r1 => match x with
            | [x] => match x.tru with
              | some b => Out.ok b r1
              | none => .stk
            | _ => .stk) _
          rw [ec]
          show Res c.blk _ _ _ (match b.tru with
            | some b => Out.ok b r4
            | none => .stk) _
          cases et : b.tru with
          | none => rw [et] at hl; cases hl
          | some t => exact fun H5 G5 S5 g5 => fin t H5 G5 et S5 g5
  · rintro H ⟨G2, ri, acc, accv, g, S, ra, hl⟩
    rw [List.drop_length] at hl
    cases hl
    exact hQ H G2 accv S g ra
theorem comp_tLc (O : XOk X c k) {own : List Nat} {tg : MG} {it cc e : ME} {ifs : List Expr} {scope : Scope} {wi : TI} {Q : VK} (hb : blkChk k scope own = true) (hcc : ifs = [] → cc = .kst (.bl true)) (hsl : ∀ j ∈ tg.slots, j ∈ own)
    (hwi : ∀ σ H R, tI c it σ H R → wi σ H R) (q : tS c true (.comp own tg it cc e) σ H Q) : tLc wi (tgT c.blk tg) (tIf' c.blk ifs cc) (tS c.blk false e) ((ownP k own).map (·.2)) σ H Q := by
  obtain ⟨b1, b2, b3⟩ := BlkOk.of O hb
  have hio : ∀ j ∈ own, ∀ p ∈ c.io, p.1 ≠ j := fun j hj => io_out O.io (b3 j hj)
  rw [b2]
  refine hwi σ H _ ?_
  obtain ⟨Fr, G, r, S, q⟩ := q
  refine ⟨Fr, G, r, S, (Res.bind q).mono fun ds r1 q => ?_⟩
  match ds, q with
  | [], q => exact q.elim
  | _ :: _ :: _, q => exact q.elim
  | [x], q =>
    dsimp only at q
    cases ei : itemsD x with
    | none => rw [ei] at q; exact q.elim
    | some xs =>
      rw [ei] at q
      refine ⟨x, xs, rfl, ei, fun J G1 H1 S1 g1 hw Dn hD => ?_⟩
      dsimp only at q
      split at q
      · rename_i hf
        cases el : compLoop own tg (evl c cc) (evl c e) [] xs r1 with
        | stk => exact absurd q (by show ¬ Res c Fr G σ (((compLoop own tg (evl c cc) (evl c e) [] xs r1).nox).bind _) _; rw [el]; exact id)
        | err n fs r2 => exact absurd q (by show ¬ Res c Fr G σ (((compLoop own tg (evl c cc) (evl c e) [] xs r1).nox).bind _) _; rw [el]; exact id)
        | ok ys r2 =>
          have q : Res c Fr G σ (((compLoop own tg (evl c cc) (evl c e) [] xs r1).nox).bind fun ys r2 => Out.ok [D.lst ys] (backE r1 r2 own)) _ := q
          rw [el] at q
          obtain ⟨d, e1, q⟩ := q
          cases e1
          refine comp_walk hcc hsl hio S1 hw hD el fun H2 G2 accv S2 g2 ra => ?_
          have fD := S1.none_f hD
          obtain ⟨S3, n3⟩ := S2.offFr fD
          obtain ⟨S4, bk⟩ := S1.back S3 g2 hio hf
          refine q (.ref Dn) H2 G2 S4 (g1.trans g2) ?_
          obtain ⟨z1, z2⟩ := S2.f _ _ upd_same
          unfold SV FV
          rw [if_pos rfl, if_pos (show (D.lst ys).mutb = true from rfl)]
          exact ⟨Dn, rfl, ⟨accv, z1, ra⟩, z2, fD, fun j qo => n3 j (bk j Dn qo)⟩
      · exact q.elim
theorem pe_comp (O : XOk X c k) {own : List Nat} {tg : MG} {it cc e : ME} {elt tg' iter : Expr} {ifs : List Expr} {scope : Scope} {pos : Pos} (hb : blkChk k scope own = true) (hcc : ifs = [] → cc = .kst (.bl true)) (hsl : ∀ j ∈ tg.slots, j ∈ own) (hiter : isSet iter = false)
    (hsrc : Src c X tg' iter it) (htg : ∀ X', XOk X' c.blk (k.blk scope) → PG X' tg' (tgT c.blk tg)) (htt : ∀ X', XOk X' c.blk (k.blk scope) → PTs X' ifs (tIf' c.blk ifs cc)) (hee : ∀ X', XOk X' c.blk (k.blk scope) → PE X' elt (tS c.blk false e)) :
    PE X (.ListComp elt [⟨tg', iter, ifs, 0⟩] scope pos) (tS c true (.comp own tg it cc e)) := by
  obtain ⟨wi, hpi, hwi⟩ := hsrc
  obtain ⟨b1, b2, b3⟩ := BlkOk.of O hb
  have hX := fun s H C cl fp => O.blk b1.kind s H C cl fp
  exact peI (pe_lc O.g.calm (by rw [O.N]; exact O.nd) hpi b1 (fun s H C cl fp => htg _ (hX s H C cl fp)) (fun s H C cl fp => htt _ (hX s H C cl fp)) (fun s H C cl fp => hee _ (hX s H C cl fp)) (fun x => by cases iter <;> first | rfl | cases hiter)) fun σ H Q q => comp_tLc O hb hcc hsl hwi q
/-- name = [..] -/
theorem ps_comp (O : XOk X c k) {own : List Nat} {tg : MG} {it cc e : ME} {elt tg' iter : Expr} {ifs : List Expr} {scope : Scope} {pos py spos : Pos} {j : Nat} {y : Str} (hy : k.N[j]? = some y) (hyl : k.names.lookup y = some .local) (hl : (py.line == pos.line) = true)
    (hany : (scope.names.any fun (n, k) => n == y && (k == .local || k == .cell)) = false) (hb : blkChk k scope own = true) (hcc : ifs = [] → cc = .kst (.bl true)) (hsl : ∀ j ∈ tg.slots, j ∈ own) (hiter : isSet iter = false)
    (hsrc : Src c X tg' iter it) (htg : ∀ X', XOk X' c.blk (k.blk scope) → PG X' tg' (tgT c.blk tg)) (htt : ∀ X', XOk X' c.blk (k.blk scope) → PTs X' ifs (tIf' c.blk ifs cc)) (hee : ∀ X', XOk X' c.blk (k.blk scope) → PE X' elt (tS c.blk false e)) :
    PS X (.Assign [.Name y py] (.ListComp elt [⟨tg', iter, ifs, 0⟩] scope pos) spos) (tAsg (tS c true (.comp own tg it cc e)) (gName j)) := by
  obtain ⟨wi, hpi, hwi⟩ := hsrc
  obtain ⟨b1, b2, b3⟩ := BlkOk.of O hb
  have hX := fun s H C cl fp => O.blk b1.kind s H C cl fp
  have hyl' : X.env.scope.names.lookup y = some .local := by rw [O.nm]; exact hyl
  exact psI (ps_setLc O.g.calm (by rw [O.N]; exact O.nd) (by rw [O.N]; exact hy) hyl' (sw_true O.kind hyl' hl hany) hpi b1 (fun s H C cl fp => htg _ (hX s H C cl fp)) (fun s H C cl fp => htt _ (hX s H C cl fp)) (fun s H C cl fp => hee _ (hX s H C cl fp)) (fun x => by cases iter <;> first | rfl | cases hiter)) fun D σ H q => comp_tLc O hb hcc hsl hwi q
end
end VL

/-! VL14: the checker of expressions, and what it is worth. -/
namespace VL
open PySem PySem.Spec L2
inductive Md where
  | v | t | a | n | s (tup : Bool)
def isTup : Expr → Bool
  | .Tuple .. => true
  | _ => false
def isT2 : ME → Bool
  | .cons _ (.cons _ .nil) => true
  | _ => false
def isNil : ME → Bool
  | .nil => true
  | _ => false
def isTt : ME → Bool
  | .kst (.bl b) => b
  | _ => false
abbrev Ck := Md → CkE → List Expr → Bool
/-- a node that is one value: g as a value; a test or a source by it -/
def ckV (pl : Bool) (g : CkE → Expr → Bool) : Ck := fun md k es => match md, es with
  | .v, [e] => g k e
  | .s _, [e] => g k e
  | .t, [e] => pl && plainT e && g k e
  | _, _ => false
def ckOp (o : Op) (a : ME) (f : Ck) (k : CkE) (e : Expr) : Bool := match splitOp k o e with
  | some (pk, es) => f .a k es && (pk || noNm a)
  | none => false
def ckChain (o1 o2 : Op) (ab z : ME) (fab fz : Ck) (k : CkE) (e : Expr) : Bool := match e with
  | .Compare a0 [p1, p2] [b0, z0] _ => decide (cmpOp o1 = some p1) && decide (cmpOp o2 = some p2) && isT2 ab && z.one && fab .a k [a0, b0] && fz .v k [z0]
  | _ => false
def ckAndT (op : BoolOp) (a b : ME) (fa fb : Ck) (k : CkE) (e : Expr) : Bool := match e with
  | .BoolOp op' (x :: y :: rest) pos => decide (op = op') && fa .t k [x] && fb .t k [if rest.isEmpty then y else .BoolOp op' (y :: rest) pos]
  | _ => false
def ckAndV (op : BoolOp) (a b : ME) (fa fb : Ck) (k : CkE) (e : Expr) : Bool := match e with
  | .BoolOp op' (x :: y :: rest) pos => decide (op = op') && !isNm a && !isNm b && fa .v k [x] && fb .v k [if rest.isEmpty then y else .BoolOp op' (y :: rest) pos]
  | _ => false
def ckAnd (op : BoolOp) (a b : ME) (fa fb : Ck) : Ck := fun md k es => match md, es with
  | .t, [e] => ckAndT op a b fa fb k e
  | .v, [e] => ckAndV op a b fa fb k e
  | _, _ => false
def ckIte (a b : ME) (fc fa fb : Ck) (k : CkE) (e : Expr) : Bool := match e with
  | .IfExp ct x y _ => fc .t k [ct] && !isNm a && !isNm b && fa .v k [x] && fb .v k [y]
  | _ => false
def ckCall (P : Prog) (f : Nat) (sl : List Nat) (a : ME) (fa : Ck) (k : CkE) (e : Expr) : Bool := match e with
  | .Call (.Name x _) es [] _ => (match P.fs[f]? with
    | some fd => decide (k.FN[f]? = some x) && gl k x && !(x == ("__debug__" : Str)) && !decide (x = "") && decide (ioSl fd.io a = some sl) && decide sl.Nodup && fa .a k es
    | none => false)
  | _ => false
def ckRep (P : Prog) (n : Nat) (a : ME) (fa : Ck) (k : CkE) (e : Expr) : Bool := match e with
  | .BinOp x .Mult (.Constant (.int j) _ _) _ => decide (j = (n : Int)) && a.fr P && !isNm a && fa .v k [x]
  | _ => false
def ckCix (P : Prog) (i : Nat) (a : ME) (fa : Ck) (k : CkE) (e : Expr) : Bool := match e with
  | .Subscript (.Name x _) b _ => (match k.gt.lookup i with | some (y, .dct _) => decide (y = x) | _ => false) && k.gd.contains i && gl k x && !(x == ("__debug__" : Str)) && plainIx b && !isNm a && fa .v k [b]
  | _ => false
def ckMop (o : MOp) (j : Nat) (a : ME) (fa : Ck) (k : CkE) (e : Expr) : Bool := match e with
  | .Call (.Attribute (.Name x _) m apos) [e] [] cpos => decide (o = .append) && decide (m = "append") && vis k j x && noNm a && (apos.endLine == cpos.line) && fa .a k [e]
  | .Call (.Attribute (.Name x _) m apos) [e, f] [] cpos => decide (o = .insert) && decide (m = "insert") && vis k j x && noNm a && (apos.endLine == cpos.line) && fa .a k [e, f]
  | _ => false
def ckComp (own : List Nat) (tg : MG) (cc e : ME) (fi fc fe : Ck) (k : CkE) (ex : Expr) : Bool := match ex with
  | .ListComp elt [⟨tg', iter, ifs, 0⟩] scope _ => blkChk k scope own && tg.slots.all (fun j => own.contains j) && !isSet iter && !tg.isL && chkG (k.blk scope) tg [tg'] && fi (.s (isTup tg')) k [iter] &&
    (match ifs with
      | [] => isTt cc
      | [t] => fc .t (k.blk scope) [t]
      | _ => false) && !isNm e && fe .v (k.blk scope) [elt]
  | _ => false
def ckSrc (o : Op) (a : ME) (f : Ck) (tup : Bool) (k : CkE) (e : Expr) : Bool := match o with
  | .range1 => (match e with
    | .Call (.Name g _) [x] [] _ => isGl k g "range" && f .a k [x]
    | _ => false)
  | .range2 => (match e with
    | .Call (.Name g _) [x, y] [] _ => isGl k g "range" && f .a k [x, y]
    | _ => false)
  | .enum => (match e with
    | .Call (.Name g _) [x] [] _ => tup && isGl k g "enumerate" && noNm a && f .a k [x]
    | _ => false)
  | o => ckOp o a f k e
def ckOpT (o : Op) (a : ME) (f : Ck) (k : CkE) (e : Expr) : Bool := if isCmp o then (match splitOp k o e with
    | some (_, es) => f .a k es
    | none => false) else (match e with
    | .UnaryOp .Not x _ => decide (o = .not_) && f .n k [x]
    | e => plainT e && ckOp o a f k e)
def chk (P : Prog) : ME → Ck
  | .kst d => ckV false fun _ e => kstOk d e
  | .glb i => ckV true fun k e => (match e with
    | .Name x _ => decide ((k.gt.lookup i).map (·.1) = some x) && k.gp.contains i && gl k x && !(x == ("__debug__" : Str))
    | _ => false)
  | .nm j => fun md k es => (match md, es with
    | .v, [.Name x _] => vis k j x
    | .t, [.Name x _] => vis k j x
    | _, _ => false)
  | .cap j => ckV true fun k e => (match e with
    | .Name x _ => vis k j x && !k.io.contains j
    | _ => false)
  | .nil => fun md k es => (match md, es with
    | .a, [] => true
    | _, _ => false)
  | .cons a m => fun md k es => (match md, es with
    | .a, e :: es => a.one && !isStar e && chk P a .v k [e] && chk P m .a k es
    | .n, [x] => isNil m && a.one && chk P a .t k [x]
    | _, _ => false)
  | .op o a => fun md k es => (match md, es with
    | .v, [e] => ckOp o a (chk P a) k e
    | .t, [e] => ckOpT o a (chk P a) k e
    | .s tup, [e] => ckSrc o a (chk P a) tup k e
    | _, _ => false)
  | .chain o1 o2 ab z => fun md k es => (match md, es with
    | .v, [e] => ckChain o1 o2 ab z (chk P ab) (chk P z) k e
    | .t, [e] => ckChain o1 o2 ab z (chk P ab) (chk P z) k e
    | _, _ => false)
  | .and_ a b => ckAnd .And a b (chk P a) (chk P b)
  | .or_ a b => ckAnd .Or a b (chk P a) (chk P b)
  | .ite c a b => ckV true (ckIte a b (chk P c) (chk P a) (chk P b))
  | .call f sl a => ckV true (ckCall P f sl a (chk P a))
  | .mop o j a => ckV false (ckMop o j a (chk P a))
  | .comp own tg it c e => ckV true (ckComp own tg c e (chk P it) (chk P c) (chk P e))
  | .rep n a => ckV true (ckRep P n a (chk P a))
  | .cix i a => ckV true (ckCix P i a (chk P a))
  | .never => fun md _ es => (match md, es with
    | .v, [_] => true
    | .t, [_] => true
    | _, _ => false)

structure Snd (P : Prog) (m : ME) : Prop where
  v : ∀ {X : Cx} {c : Cfg} {k : CkE} {e : Expr}, XOk X c k → c.P = P → chk P m .v k [e] = true → VOk c X m e
  t : ∀ {X : Cx} {c : Cfg} {k : CkE} {e : Expr}, XOk X c k → c.P = P → chk P m .t k [e] = true → PT X e (tT c m)
  a : ∀ {X : Cx} {c : Cfg} {k : CkE} {es : List Expr}, XOk X c k → c.P = P → chk P m .a k es = true → ArgsOk c X m es
  n : ∀ {X : Cx} {c : Cfg} {k : CkE} {e : Expr}, XOk X c k → c.P = P → chk P m .n k [e] = true → ∃ b, m = .cons b .nil ∧ b.one = true ∧ PT X e (tT c b)
  s : ∀ {X : Cx} {c : Cfg} {k : CkE} {tg e : Expr}, XOk X c k → c.P = P → chk P m (.s (isTup tg)) k [e] = true → Src c X tg e m
section
variable {P : Prog} {X : Cx} {c : Cfg} {k : CkE}
theorem gl_of {x : Str} (h : gl k x = true) : k.names.lookup x = some .globalImplicit := by
  unfold gl at h
  split at h
  · assumption
  · cases h
theorem star_of {e : Expr} (h : isStar e = false) (env : PySem.Env) (es : List Expr) : starEach (e :: es) env = (false, eval e env) :: starEach es env := by
  cases e <;> first | rfl | cases h
theorem op_v (O : XOk X c k) (hP : c.P = P) {o : Op} {a : ME} {e : Expr} (ih : Snd P a) (h : ckOp o a (chk P a) k e = true) : VOk c X (.op o a) e := by
  unfold ckOp at h
  split at h
  · rename_i pk es hs
    simp only [Bool.and_eq_true, Bool.or_eq_true] at h
    refine VOk.of rfl (op_pe O.toXOk0 hs (ih.a O hP h.1) fun z => ?_)
    rcases h.2 with q | q
    · rw [z] at q; cases q
    · exact q
  · cases h
theorem call_v (O : XOk X c k) (hP : c.P = P) {f : Nat} {sl : List Nat} {a : ME} {e : Expr} (ih : Snd P a) (h : ckCall P f sl a (chk P a) k e = true) : VOk c X (.call f sl a) e := by
  unfold ckCall at h
  split at h
  · split at h
    · rename_i fd hf
      simp only [Bool.and_eq_true, decide_eq_true_eq, Bool.not_eq_true', decide_eq_false_iff_not] at h
      obtain ⟨⟨⟨⟨⟨⟨h1, h2⟩, h3⟩, h3'⟩, h4⟩, h5⟩, h6⟩ := h
      refine VOk.of rfl ?_
      have e : (ME.call f sl a).fr c.P = fd.rf := by
        show (match c.P.fs[f]? with
          | some fd => fd.rf
          | none => false) = _
        rw [hP, hf]
      rw [e]
      exact pe_call O (by rw [hP]; exact hf) h1 (gl_of h2) h3 h3' h4 h5 (ih.a O hP h6)
    · cases h
  · cases h
theorem chain_vt (O : XOk X c k) (hP : c.P = P) {ab z : ME} (iab : Snd P ab) (iz : Snd P z) {o1 o2 : Op} {e : Expr} (h : ckChain o1 o2 ab z (chk P ab) (chk P z) k e = true) :
    PE X e (tS c true (.chain o1 o2 ab z)) ∧ PT X e (tT c (.chain o1 o2 ab z)) := by
  unfold ckChain at h
  split at h
  · rename_i a0 p1 p2 b0 z0 pos
    simp only [Bool.and_eq_true, decide_eq_true_eq] at h
    obtain ⟨⟨⟨⟨⟨h1, h2⟩, h3⟩, h4⟩, h5⟩, h6⟩ := h
    obtain ⟨a, b, rfl, g1, g2, q1, q2⟩ := (iab.a O hP h5).two
    obtain ⟨c1, _, _⟩ := cmp_isCmp h1
    obtain ⟨c2, n1, n2⟩ := cmp_isCmp h2
    have hm : lastMarks [p1, p2] [b0, z0] = false := nomark z0 n1 n2
    refine ⟨peI (pe_chain (cmp_op O.toXOk0 h1) (cmp_op O.toXOk0 h2) q1 q2 (iz.v O hP h6).p hm) fun σ H Q q => chain_core (p1 := p1) O.K c1 g1 g2 h4 q, ?_⟩
    refine ptI (pt_chain (cmp_op O.toXOk0 h1) (cmp_op O.toXOk0 h2) q1 q2 (iz.v O hP h6).p hm) fun σ H Q q => chain_core (p1 := p1) O.K c1 g1 g2 h4 (tT_tS ?_ q)
    intro r ds r' e
    obtain ⟨x, r1, _, e⟩ := bind_ok e
    split at e
    · split at e
      · obtain ⟨zz, r2, _, e⟩ := bind_ok e
        split at e
        · split at e
          · split at e
            · rename_i he
              cases e
              obtain ⟨b, rfl⟩ := ap_bl c2 _ _ he
              exact ⟨b, rfl⟩
            · cases e
          · cases e
        · cases e
      · cases e
        exact ⟨_, rfl⟩
      · cases e
    · cases e
  · cases h
theorem pw_rest {op : BoolOp} {y : Expr} {rest : List Expr} {pos : Pos} {t : TT} (h : PT X (if rest.isEmpty then y else .BoolOp op (y :: rest) pos) t) : PW X (.BoolOp op (y :: rest) pos) t := by
  cases rest with
  | nil =>
    cases op with
    | And => exact pw_and1 h
    | Or => exact pw_or1 h
  | cons z rest => exact ⟨fun wh pins s σ H Q I q => h.run pins s σ H Q I q⟩
theorem pe_rest {op : BoolOp} {y : Expr} {rest : List Expr} {pos : Pos} {t : TE} (h : PE X (if rest.isEmpty then y else .BoolOp op (y :: rest) pos) t) : PE X (.BoolOp op (y :: rest) pos) t := by
  cases rest with
  | nil => exact pe_one h
  | cons z rest => exact h
theorem src_of_v (O : XOk X c k) {m : ME} {tg e : Expr} (hm : isNm m = false) (h : VOk c X m e) : Src c X tg e m := src_any O.toXOk0 (pe_weak (h.2 hm))
/-- a node that is one value -/
theorem snd_v {m : ME} {pl : Bool} {g : CkE → Expr → Bool} (hm : isNm m = false) (hc : chk P m = ckV pl g) (h : ∀ {X : Cx} {c : Cfg} {k : CkE} {e : Expr}, XOk X c k → c.P = P → g k e = true → VOk c X m e) : Snd P m := by
  refine ⟨fun {X c k e} O hP q => ?_, fun {X c k e} O hP q => ?_, fun {X c k es} O hP q => ?_, fun {X c k e} O hP q => ?_, fun {X c k tg e} O hP q => ?_⟩
  · rw [hc] at q; exact h O hP q
  · rw [hc] at q
    have q : (pl && plainT e && g k e) = true := q
    simp only [Bool.and_eq_true] at q
    exact pt_of_v O.K q.1.2 (h O hP q.2)
  · rw [hc] at q
    rcases es with _ | ⟨e, _ | ⟨_, _⟩⟩ <;> cases q
  · rw [hc] at q; cases q
  · rw [hc] at q; exact src_of_v O hm (h O hP q)
theorem snd_and (a b : ME) (iha : Snd P a) (ihb : Snd P b) : Snd P (.and_ a b) := by
  have hv : ∀ {X : Cx} {c : Cfg} {k : CkE} {e : Expr}, XOk X c k → c.P = P → chk P (.and_ a b) .v k [e] = true → VOk c X (.and_ a b) e := fun {X c k e} O hP h => by
    have h : ckAndV .And a b (chk P a) (chk P b) k e = true := h
    unfold ckAndV at h
    split at h <;> try (cases h; done)
    simp only [Bool.and_eq_true, decide_eq_true_eq, Bool.not_eq_true'] at h
    obtain ⟨⟨⟨⟨rfl, h1⟩, h2⟩, h3⟩, h4⟩ := h
    refine VOk.of rfl ?_
    refine peI (pe_andT (pe_cast ((iha.v O hP h3).2 h1) fun z => ?_) (pe_cast (pe_rest ((ihb.v O hP h4).2 h2)) fun z => ?_)) fun σ H Q q => and_core O.K q
    · have z : (a.fr c.P && b.fr c.P) = true := z
      simp only [Bool.and_eq_true] at z
      exact z.1
    · have z : (a.fr c.P && b.fr c.P) = true := z
      simp only [Bool.and_eq_true] at z
      exact z.2
  refine ⟨hv, fun {X c k e} O hP h => ?_, fun {X c k es} O hP h => ?_, fun {X c k e} O hP h => ?_, fun {X c k tg e} O hP h => (by cases e <;> cases h)⟩
  · have h : ckAndT .And a b (chk P a) (chk P b) k e = true := h
    unfold ckAndT at h
    split at h <;> try (cases h; done)
    simp only [Bool.and_eq_true, decide_eq_true_eq] at h
    obtain ⟨⟨rfl, h3⟩, h4⟩ := h
    exact ptI (pw_and (iha.t O hP h3) (pw_rest (ihb.t O hP h4))).pt fun σ H Q q => tT_and q
  · rcases es with _ | ⟨e, _ | ⟨_, _⟩⟩ <;> cases h
  · cases h
theorem snd_or (a b : ME) (iha : Snd P a) (ihb : Snd P b) : Snd P (.or_ a b) := by
  have hv : ∀ {X : Cx} {c : Cfg} {k : CkE} {e : Expr}, XOk X c k → c.P = P → chk P (.or_ a b) .v k [e] = true → VOk c X (.or_ a b) e := fun {X c k e} O hP h => by
    have h : ckAndV .Or a b (chk P a) (chk P b) k e = true := h
    unfold ckAndV at h
    split at h <;> try (cases h; done)
    simp only [Bool.and_eq_true, decide_eq_true_eq, Bool.not_eq_true'] at h
    obtain ⟨⟨⟨⟨rfl, h1⟩, h2⟩, h3⟩, h4⟩ := h
    refine VOk.of rfl ?_
    refine peI (pe_orT (pe_cast ((iha.v O hP h3).2 h1) fun z => ?_) (pe_cast (pe_rest ((ihb.v O hP h4).2 h2)) fun z => ?_)) fun σ H Q q => or_core O.K q
    · have z : (a.fr c.P && b.fr c.P) = true := z
      simp only [Bool.and_eq_true] at z
      exact z.1
    · have z : (a.fr c.P && b.fr c.P) = true := z
      simp only [Bool.and_eq_true] at z
      exact z.2
  refine ⟨hv, fun {X c k e} O hP h => ?_, fun {X c k es} O hP h => ?_, fun {X c k e} O hP h => ?_, fun {X c k tg e} O hP h => (by cases e <;> cases h)⟩
  · have h : ckAndT .Or a b (chk P a) (chk P b) k e = true := h
    unfold ckAndT at h
    split at h <;> try (cases h; done)
    simp only [Bool.and_eq_true, decide_eq_true_eq] at h
    obtain ⟨⟨rfl, h3⟩, h4⟩ := h
    exact ptI (pw_or (iha.t O hP h3) (pw_rest (ihb.t O hP h4))).pt fun σ H Q q => tT_or q
  · rcases es with _ | ⟨e, _ | ⟨_, _⟩⟩ <;> cases h
  · cases h
theorem ite_v (O : XOk X c k) (hP : c.P = P) {cc a b : ME} {e : Expr} (ihc : Snd P cc) (iha : Snd P a) (ihb : Snd P b) (h : ckIte a b (chk P cc) (chk P a) (chk P b) k e = true) : VOk c X (.ite cc a b) e := by
  unfold ckIte at h
  split at h
  · simp only [Bool.and_eq_true, Bool.not_eq_true'] at h
    obtain ⟨⟨⟨⟨h1, h2⟩, h3⟩, h4⟩, h5⟩ := h
    refine VOk.of rfl (peI (pe_ifExp (ihc.t O hP h1) (pe_cast ((iha.v O hP h4).2 h2) fun z => ?_) (pe_cast ((ihb.v O hP h5).2 h3) fun z => ?_)) fun σ H Q q => ite_core q)
    · have z : (a.fr c.P && b.fr c.P) = true := z
      simp only [Bool.and_eq_true] at z
      exact z.1
    · have z : (a.fr c.P && b.fr c.P) = true := z
      simp only [Bool.and_eq_true] at z
      exact z.2
  · cases h
theorem mop_v (O : XOk X c k) (hP : c.P = P) {o : MOp} {j : Nat} {a : ME} {e : Expr} (ih : Snd P a) (h : ckMop o j a (chk P a) k e = true) : VOk c X (.mop o j a) e := by
  unfold ckMop at h
  split at h
  · simp only [Bool.and_eq_true, decide_eq_true_eq] at h
    obtain ⟨⟨⟨⟨⟨rfl, rfl⟩, h1⟩, h2⟩, h3⟩, h4⟩ := h
    exact VOk.of rfl (pe_append O.toXOk0 h1 h2 h3 (ih.a O hP h4))
  · simp only [Bool.and_eq_true, decide_eq_true_eq] at h
    obtain ⟨⟨⟨⟨⟨rfl, rfl⟩, h1⟩, h2⟩, h3⟩, h4⟩ := h
    exact VOk.of rfl (pe_insert O.toXOk0 h1 h2 h3 (ih.a O hP h4))
  · cases h
theorem comp_v (O : XOk X c k) (hP : c.P = P) {own : List Nat} {tg : MG} {it cc e : ME} {ex : Expr} (ihi : Snd P it) (ihc : Snd P cc) (ihe : Snd P e) (h : ckComp own tg cc e (chk P it) (chk P cc) (chk P e) k ex = true) : VOk c X (.comp own tg it cc e) ex := by
  unfold ckComp at h
  split at h
  · rename_i elt tg' iter ifs scope pos
    simp only [Bool.and_eq_true, Bool.not_eq_true', List.all_eq_true] at h
    obtain ⟨⟨⟨⟨⟨⟨⟨⟨h1, h2⟩, h3⟩, h4⟩, h5⟩, h6⟩, h7⟩, h8⟩, h9⟩ := h
    refine VOk.of rfl (pe_comp O h1 (fun z => ?_) (fun j hj => by simpa using h2 j hj) h3 (ihi.s O hP h6) (fun X' O' => pg_T O'.toXOk0 h4 h5) (fun X' O' => ?_) fun X' O' => pe_weak ((ihe.v O' hP h9).2 h8))
    · subst z
      have h7 : isTt cc = true := h7
      unfold isTt at h7
      split at h7
      · subst h7; rfl
      · cases h7
    · match ifs, h7 with
      | [], h7 => exact pts_nil
      | [t], h7 => exact pts_one (ihc.t O' hP h7)
      | _ :: _ :: _, h7 => cases h7
  · cases h
theorem cix_v (O : XOk X c k) (hP : c.P = P) {i : Nat} {a : ME} {e : Expr} (ih : Snd P a) (h : ckCix P i a (chk P a) k e = true) : VOk c X (.cix i a) e := by
  unfold ckCix at h
  split at h
  · rename_i x p b pos
    simp only [Bool.and_eq_true, decide_eq_true_eq, Bool.not_eq_true'] at h
    obtain ⟨⟨⟨⟨⟨⟨h1, h2⟩, h3⟩, h4⟩, h5⟩, h6⟩, h7⟩ := h
    split at h1
    · rename_i y kvs hl
      have h1 : y = x := of_decide_eq_true h1
      subst h1
      rw [O.gtk] at hl
      obtain ⟨ad, hm, hk⟩ := O.gd i y kvs hl (by simpa using h2)
      refine VOk.of rfl (peI (pe_ix ix_kdict (pe_glob (v := V.ref ad) (O.gl0 (gl_of h3)) hm rfl h4) (ih.v O hP h7).p (pix h5)) fun σ H Q q => ?_)
      obtain ⟨Fr, G, r, S, q⟩ := q
      refine ⟨Fr, G, r, S, (Res.bind q).mono fun ds r1 q => ?_⟩
      match ds, q with
      | [.str s], q =>
        refine ⟨_, rfl, fun v H1 G1 S1 g1 av => ?_⟩
        have rv := APs.rv h6 av
        cases (show v = V.str s from rv)
        dsimp only at q
        have e : cixD (c.P.gt.lookup i) s = findS kvs s := by rw [hl]; rfl
        rw [e] at q
        split at q
        · rename_i z hz
          obtain ⟨d', e', q⟩ := q
          cases e'
          exact ⟨ad, s, .str z, rfl, rfl, hk s z hz, str_post (post_of (fr := true) S1 g1 q)⟩
        · exact q.elim
      | [], q => exact q.elim
      | [.non], q => exact q.elim
      | [.bl _], q => exact q.elim
      | [.int _], q => exact q.elim
      | [.tup _], q => exact q.elim
      | [.lst _], q => exact q.elim
      | [.dct _], q => exact q.elim
      | d :: _ :: _, q => cases d <;> exact q.elim
    · cases h1
  · cases h
theorem RVs.rep {K : KW} {G : Hp} {ds : List D} {vs : List V} (h : RVs K G ds vs) : ∀ n : Nat, RVs K G (List.replicate n ds).flatten (List.replicate n vs).flatten
  | 0 => RVs.nil
  | n + 1 => by
    rw [List.replicate_succ, List.replicate_succ, List.flatten_cons, List.flatten_cons]
    exact RVs.app h (RVs.rep h n)
theorem rep_v (O : XOk X c k) (hP : c.P = P) {n : Nat} {a : ME} {e : Expr} (ih : Snd P a) (h : ckRep P n a (chk P a) k e = true) : VOk c X (.rep n a) e := by
  unfold ckRep at h
  split at h
  · simp only [Bool.and_eq_true, decide_eq_true_eq, Bool.not_eq_true'] at h
    obtain ⟨⟨⟨rfl, h1⟩, h2⟩, h3⟩ := h
    have pa := (ih.v O hP h3).2 h2
    rw [hP, h1] at pa
    refine VOk.of rfl (peI (pe_op op_rep pa pe_int) fun σ H Q q => ?_)
    obtain ⟨Fr, G, r, S, q⟩ := q
    refine ⟨Fr, G, r, S, (Res.bind q).mono fun ds r1 q => ?_⟩
    match ds, q with
    | [.lst xs], q =>
      refine ⟨_, rfl, fun v H1 G1 S1 g1 sv => ?_⟩
      dsimp only at q
      split at q
      · rename_i hz
        obtain ⟨d', e', q⟩ := q
        cases e'
        have sv : FV c.K Fr G1 H1 σ r1 (.lst xs) v := sv
        unfold FV at sv
        rw [if_pos (show (D.lst xs).mutb = true from rfl)] at sv
        obtain ⟨p, rfl, ⟨vs, hv, rv⟩, n1, n2, n3⟩ := sv
        have hlen := RVs.len rv
        refine ⟨p, (n : Int), vs, rfl, rfl, hv, by omega, by omega, ?_, fun p2 hp2 => ?_⟩
        · rw [hlen, Int.toNat_natCast, ← line_eq]
          exact hz.1
        · rw [Int.toNat_natCast]
          have post := post_of (fr := true) (d := .lst (List.replicate n xs).flatten) (Q := Q) S1 g1 q
          exact post.new p2 _ hp2 ⟨_, rfl, RVs.rep rv n⟩
      · exact q.elim
    | [], q => exact q.elim
    | [.non], q => exact q.elim
    | [.bl _], q => exact q.elim
    | [.int _], q => exact q.elim
    | [.str _], q => exact q.elim
    | [.tup _], q => exact q.elim
    | [.dct _], q => exact q.elim
    | x :: _ :: _, q => cases x <;> exact q.elim
  · cases h
theorem snd (P : Prog) : ∀ m : ME, Snd P m := by
  intro m
  induction m with
  | kst d => exact snd_v rfl rfl fun O hP h => VOk.of rfl (kst_pe h)
  | glb i =>
    refine snd_v rfl rfl fun {X c k e} O hP h => ?_
    cases e <;> try (cases h; done)
    simp only [Bool.and_eq_true, decide_eq_true_eq, Bool.not_eq_true'] at h
    obtain ⟨⟨⟨h1, hp⟩, h2⟩, h3⟩ := h
    cases e1 : k.gt.lookup i with
    | none => rw [e1] at h1; cases h1
    | some xd =>
      obtain ⟨x, d⟩ := xd
      rw [e1] at h1
      cases h1
      exact VOk.of rfl (pe_gt O.toXOk0 e1 (by simpa using hp) (gl_of h2) h3)
  | nm j =>
    have hv : ∀ {X : Cx} {c : Cfg} {k : CkE} {x : Str} {p : Pos}, XOk X c k → vis k j x = true → VOk c X (.nm j) (.Name x p) := fun O h => ⟨fun _ => pe_nm O.toXOk0 h, fun z => by cases z⟩
    refine ⟨fun {X c k e} O hP h => ?_, fun {X c k e} O hP h => ?_, fun {X c k es} O hP h => ?_, fun {X c k e} O hP h => ?_, fun {X c k tg e} O hP h => ?_⟩
    · cases e <;> try (cases h; done)
      exact hv O h
    · cases e <;> try (cases h; done)
      exact pt_of_v O.K rfl (hv O h)
    · rcases es with _ | ⟨e, _ | ⟨_, _⟩⟩ <;> cases h
    · cases e <;> cases h
    · cases e <;> cases h
  | cap j =>
    refine snd_v rfl rfl fun {X c k e} O hP h => ?_
    cases e <;> try (cases h; done)
    simp only [Bool.and_eq_true, Bool.not_eq_true'] at h
    exact VOk.of rfl (pe_cap O.toXOk0 h.1 h.2)
  | nil =>
    refine ⟨fun {X c k e} O hP h => ?_, fun {X c k e} O hP h => ?_, fun {X c k es} O hP h => ?_, fun {X c k e} O hP h => ?_, fun {X c k tg e} O hP h => ?_⟩ <;> try (cases h; done)
    cases es with
    | nil => rfl
    | cons e es => cases h
  | cons a m iha ihm =>
    refine ⟨fun {X c k e} O hP h => ?_, fun {X c k e} O hP h => ?_, fun {X c k es} O hP h => ?_, fun {X c k e} O hP h => ?_, fun {X c k tg e} O hP h => ?_⟩ <;> try (cases h; done)
    · cases es with
      | nil => cases h
      | cons e es =>
        have h : (a.one && !isStar e && chk P a .v k [e] && chk P m .a k es) = true := h
        simp only [Bool.and_eq_true, Bool.not_eq_true'] at h
        obtain ⟨⟨⟨h1, h2⟩, h3⟩, h4⟩ := h
        exact ⟨h1, (iha.v O hP h3).p, fun env => star_of h2 env es, ihm.a O hP h4⟩
    · have h : (isNil m && a.one && chk P a .t k [e]) = true := h
      simp only [Bool.and_eq_true] at h
      obtain ⟨⟨h1, h2⟩, h3⟩ := h
      refine ⟨a, ?_, h2, iha.t O hP h3⟩
      cases m <;> first | rfl | cases h1
  | op o a ih =>
    refine ⟨fun {X c k e} O hP h => op_v O hP ih h, fun {X c k e} O hP h => ?_, fun {X c k es} O hP h => ?_, fun {X c k e} O hP h => ?_, fun {X c k tg e} O hP h => ?_⟩
    · have h : ckOpT o a (chk P a) k e = true := h
      unfold ckOpT at h
      split at h
      · rename_i ho
        split at h
        · rename_i hs
          exact op_pt O.toXOk0 ho hs (ih.a O hP h)
        · cases h
      · split at h
        · simp only [Bool.and_eq_true, decide_eq_true_eq] at h
          obtain ⟨rfl, h⟩ := h
          obtain ⟨b, rfl, h1, p⟩ := ih.n O hP h
          exact ptI (pt_not p) fun σ H Q q => tT_not h1 q
        · simp only [Bool.and_eq_true] at h
          exact pt_of_v O.K h.1 (op_v O hP ih h.2)
    · rcases es with _ | ⟨e, _ | ⟨_, _⟩⟩ <;> cases h
    · cases h
    · have h : ckSrc o a (chk P a) (isTup tg) k e = true := h
      unfold ckSrc at h
      split at h
      · split at h
        · simp only [Bool.and_eq_true] at h
          obtain ⟨rfl, g⟩ := isGl_of h.1
          exact src_range1 O.toXOk0 g (ih.a O hP h.2)
        · cases h
      · split at h
        · simp only [Bool.and_eq_true] at h
          obtain ⟨rfl, g⟩ := isGl_of h.1
          exact src_range2 O.toXOk0 g (ih.a O hP h.2)
        · cases h
      · split at h
        · simp only [Bool.and_eq_true] at h
          obtain ⟨⟨⟨h0, h1⟩, h2⟩, h3⟩ := h
          obtain ⟨rfl, g⟩ := isGl_of h1
          cases tg <;> try (cases h0; done)
          exact src_enumA O.toXOk0 g h2 (ih.a O hP h3)
        · cases h
      · exact src_of_v O rfl (op_v O hP ih h)
  | chain o1 o2 ab z ihab ihz =>
    refine ⟨fun {X c k e} O hP h => VOk.of rfl (chain_vt O hP ihab ihz h).1, fun {X c k e} O hP h => (chain_vt O hP ihab ihz h).2, fun {X c k es} O hP h => ?_, fun {X c k e} O hP h => ?_, fun {X c k tg e} O hP h => ?_⟩
    · rcases es with _ | ⟨e, _ | ⟨_, _⟩⟩ <;> cases h
    · cases h
    · cases h
  | and_ a b iha ihb => exact snd_and a b iha ihb
  | or_ a b iha ihb => exact snd_or a b iha ihb
  | ite cc a b ihc iha ihb => exact snd_v rfl rfl fun O hP h => ite_v O hP ihc iha ihb h
  | call f sl a ih => exact snd_v rfl rfl fun O hP h => call_v O hP ih h
  | mop o j a ih => exact snd_v rfl rfl fun O hP h => mop_v O hP ih h
  | cix i a ih => exact snd_v rfl rfl fun O hP h => cix_v O hP ih h
  | rep n a ih => exact snd_v rfl rfl fun O hP h => rep_v O hP ih h
  | comp own tg it cc e ihi ihc ihe => exact snd_v rfl rfl fun O hP h => comp_v O hP ihi ihc ihe h
  | never =>
    refine ⟨fun {X c k e} O hP h => VOk.of rfl ⟨fun pins s σ H Q I ⟨_, _, _, _, h⟩ => h.elim⟩, fun {X c k e} O hP h => ⟨fun pins s σ H Q I ⟨_, _, _, _, h⟩ => h.elim⟩, fun {X c k es} O hP h => ?_, fun {X c k e} O hP h => ?_, fun {X c k tg e} O hP h => ?_⟩
    · rcases es with _ | ⟨e, _ | ⟨_, _⟩⟩ <;> cases h
    · cases h
    · cases h
end
end VL

/-! VLX: own exceptions, made and caught. -/
namespace VL
open PySem PySem.Spec L2
/-! ### B.__init__(self, ..), B an own class over ValueError -/
structure InitB (K : PySem.W.Frag) (C0 : Addr) : Prop where
  ga : PySem.W.specialIn K (.ref C0) "__getattribute__" = some (some (.builtin "type.__getattribute__"))
  rd : PySem.W.readsIn K C0 (.type "type") = true
  fc : PySem.W.findCls K (.ref C0) (.type "type") "__init__" = some (.val (.builtin "ValueError.__init__"))
theorem pe_baseInit {X : Cx} {C0 : Addr} {x : Str} {e : Expr} {es : List Expr} {ta : TA} {p1 p2 pos : Pos} {pl : Sem Bool} (T : InitB X.K C0) (hg : Gl X x) (hm : X.mg x = some (.ref C0)) (hdb : (x == ("__debug__" : Str)) = false) (ha : PA X (e :: es) ta)
    (hc : eval (.Call (.Attribute (.Name x p1) "__init__" p2) (e :: es) [] pos) X.env = (do
      let ov ← eval (.Name x p1) X.env
      standAt p2.atName
      let (f, first) ← holding [ov] (getMethod ov "__init__" pl)
      callWith pos f first (backTo pos (starEach (e :: es) X.env)) (backToKw pos (keywordEach [] X.env))) := by rfl)
    (he : starEach (e :: es) X.env = (false, eval e X.env) :: starEach es X.env := by rfl) (hpl : (backTo pos (starEach es X.env)).any (·.1) = false := by rfl) :
    PE X (.Call (.Attribute (.Name x p1) "__init__" p2) (e :: es) [] pos) (tVeI X.K ta) := by
  refine ⟨fun pins s σ H Q I h => ?_⟩
  refine PySem.W.methodCall_KW (ld_glob I hg hm ?_ hdb) hc
  refine PySem.W.method_cls I.kIn T.ga (PySem.W.cls_value I.kIn T.rd T.fc (by decide +kernel) ?_)
  show wpAny _ _ (callWith pos (Value.builtin "ValueError.__init__") [] (backTo pos (starEach (e :: es) X.env)) []) _ _ _
  refine PyProof.Rows.callWith_method1 (thn (ha.run pos pins _ σ H _ (I.tok _) h) fun us s1 ⟨vs, H1, I1, r1, q⟩ => ?_) he hpl
  obtain ⟨a, C, ws, ev, hl, TC, ea, q⟩ := q
  subst ev
  cases r1 with
  | @cons _ u0 _ ur ra rw' =>
    cases (show u0 = Value.ref a from ra)
    have hlen : ur.length ≤ sizeLine := by
      have := Paired.length rw'
      rw [sizeLine_eq]
      omega
    exact oinit_ok TC I1 ea hlen fun s' J => ⟨.non, H1, J, rfl, q⟩
/-- what __init__ of a class with one field is -/
def initParams (f : Str) (p1 p2 : Pos) : Arguments := { posonlyargs := [], args := [{ arg := "self", annotation := none, pos := p1 }, { arg := f, annotation := none, pos := p2 }], vararg := none, kwonlyargs := [], kw_defaults := [], kwarg := none, defaults := [] }
def initBody (b f m : Str) (j : Nat) (q1 q2 q3 q4 q5 q6 r1 r2 r3 r4 : Pos) : List Stmt := [.Expr (.Call (.Attribute (.Name b q1) "__init__" q2) [.Name "self" q3, .Constant (.str m) j q4] [] q5) q6, .Assign [.Attribute (.Name "self" r1) f r2] (.Name f r3) r4]
def initScope (b f : Str) : Scope := { kind := .function, names := [("self", .local), (f, .local), (b, .globalImplicit)], isGenerator := false, isCoroutine := false, more := [] }
end VL
namespace VL
open PySem PySem.Spec L2
theorem exo_ne_exd {e C dx : Addr} {d : Option Addr} {H : Hp} {p q : Addr} (h1 : H p = some (exo e C d)) (h2 : H q = none) : p ≠ q := ne_of_none h1 h2
/-- the call is a plain method's call (its place in the text is asked) -/
def PlainInit (b : Str) (q1 q2 q3 q4 q5 : Pos) (m : Str) (j : Nat) : Prop := ∀ env : PySem.Env, ∃ pl : Sem Bool, eval (.Call (.Attribute (.Name b q1) "__init__" q2) [.Name "self" q3, .Constant (.str m) j q4] [] q5) env = (do
      let ov ← eval (.Name b q1) env
      standAt q2.atName
      let (f, first) ← holding [ov] (getMethod ov "__init__" pl)
      callWith q5 f first (backTo q5 (starEach [.Name "self" q3, .Constant (.str m) j q4] env)) (backToKw q5 (keywordEach [] env)))
/-- the promise of such an __init__ -/
def spInit (C : Addr) (f : Str) : Sp := fun vs H Q _ => ∃ (a : Addr) (v : V), vs = [.ref a, v] ∧ H a = some (exo a C none) ∧ ∀ dx, H dx = none → dx ≠ a → Q .non (upd (upd H dx (exd dx [(f, v)])) a (exo a C (some dx)))
theorem init_ok {Pg : Program} {w : World} {K : PySem.W.Frag} {mg : Str → Option Value} {base : Heap} {CX : CXT} {C C0 fI : Addr} {name qual b f m : Str} {j : Nat} {q1 q2 q3 q4 q5 q6 r1 r2 r3 r4 : Pos} {params : Arguments} {scope : Scope} {dV kV doc pm cdv ct oc : Value} {an od : Option Addr}
    {osl : Array (Option Value)} (lk : K.lookup fI = some ⟨oc, od, .func (PySem.W.fnOf name qual params (initBody b f m j q1 q2 q3 q4 q5 q6 r1 r2 r3 r4) scope dV kV doc pm an cdv ct), osl⟩) (hcd : PySem.W.codeIn K cdv qual = true)
    (S : FnScope ["self", f] ["self", f] scope) (hb : scope.names.lookup b = some .globalImplicit) (hs : scope.names.lookup ("self" : Str) = some .local) (hf : scope.names.lookup f = some .local) (hdb : (b == ("__debug__" : Str)) = false) (hdf : (f == ("__debug__" : Str)) = false) (hcf : (f == ("__classdict__" : Str)) = false)
    (hc : PlainInit b q1 q2 q3 q4 q5 m j) (T : InitB K C0) (hm : mg b = some (.ref C0)) (OC : OexC K C) (hno : PySem.W.findIn K (.ref C) f = some none) :
    FnOk Pg w K mg base CX 1 fI (PySem.W.fnOf name qual params (initBody b f m j q1 q2 q3 q4 q5 q6 r1 r2 r3 r4) scope dV kV doc pm an cdv ct) ["self", f] (spInit C f) := by
  refine fn_of lk hcd S (fun vs H Q E h => ?_) fun A outer s H vs Q E hr h => ?_
  · obtain ⟨a, v, rfl, _⟩ := h
    rfl
  · have v0 : PE (cxOf CX Pg w K mg base ["self", f] qual scope fI cdv A outer s H E) (.Name "self" q3) (tVar 0) := pe_var (x := "self") rfl (.inl hs) (by decide) (by decide)
    have v0' : PE (cxOf CX Pg w K mg base ["self", f] qual scope fI cdv A outer s H E) (.Name "self" r1) (tVar 0) := pe_var (x := "self") rfl (.inl hs) (by decide) (by decide)
    have v1 : PE (cxOf CX Pg w K mg base ["self", f] qual scope fI cdv A outer s H E) (.Name f r3) (tVar 1) := pe_var (x := f) rfl (.inl hf) hdf hcf
    obtain ⟨pl, hpl⟩ := hc (cxOf CX Pg w K mg base ["self", f] qual scope fI cdv A outer s H E).env
    refine ⟨_, pss_cons (ps_expr (pe_baseInit (pl := pl) T hb hm hdb (pa_cons v0 (pa_cons pe_str pa_nil)) hpl)) (pss_one (ps_ost v0' v1)), ?_⟩
    obtain ⟨a, v, rfl, e1, q⟩ := h
    refine ⟨_, rfl, a, C, [.str m], rfl, Nat.le_of_ble_eq_true rfl, OC, e1, ?_⟩
    refine ⟨_, rfl, _, rfl, a, C, rfl, OC, hno, .inl ⟨e1, fun dx n1 n2 => ?_⟩⟩
    exact q dx n1 n2
end VL

namespace VL
open PySem PySem.Spec L2
example : PlainInit "OntologyError" ⟨7, 8, 7, 21⟩ ⟨7, 8, 7, 30⟩ ⟨7, 31, 7, 35⟩ ⟨7, 37, 7, 55⟩ ⟨7, 8, 7, 56⟩ "invalid ontology" 0 := fun _ => ⟨_, rfl⟩
end VL
namespace VL
open PySem PySem.Spec L2
/-- what the written part says of an own exception class, at C n -/
structure XcK (K : PySem.W.Frag) (mg : Str → Option Value) (C : Nat → Addr) (xs : List (Nat × XC)) (xp : List Nat) (n : Nat) (xc : XC) : Prop where
  nm : mg xc.name = some (.ref (C n))
  dbg : (xc.name == ("__debug__" : Str)) = false
  keep : PySem.W.keepIn K (.ref (C n)) = true
  exC : PySem.W.subIn K (.ref (C n)) (.type "BaseException") = some true
  tyC : PySem.W.typeIn K (.ref (C n)) = some (.type "type")
  cls : (PySem.W.clsIn K (C n)).isSome = true
  self : PySem.W.subIn K (.ref (C n)) (.ref (C n)) = some true
  sub : ∀ (m : Nat) (xm : XC), xs.lookup m = some xm → m ∈ xp → xm.isa.lookup (.own n) = some false → PySem.W.subIn K (.ref (C m)) (.ref (C n)) = some false
  hd : PySem.W.hasDictIn K (C n) = true
  ga : PySem.W.findIn K (.ref (C n)) "__getattribute__" = some (some (.builtin "BaseException.__getattribute__"))
  gg : PySem.W.findIn K (.ref (C n)) "__getattr__" = some none
  cl : PySem.W.findIn K (.ref (C n)) "__class__" = some (some (.builtin "object.__class__"))
  gs : PySem.W.specialIn K (.builtin "object.__class__") "__get__" = some (some (.builtin "getset_descriptor.__get__"))
  tk : PySem.W.takesIn K (.builtin "object.__class__") = some true
  mro : PySem.W.mroIn K (C n) (.type "object") = some true
  isa : ∀ t b, (t, b) ∈ xc.isa → match t with
    | .own m => m ∈ xp → ∃ xm, xs.lookup m = some xm ∧ mg xm.name = some (.ref (C m)) ∧ (xm.name == ("__debug__" : Str)) = false ∧ PySem.W.kitOne K (.ref (C n)) (.ref (C m)) = some b
    | .ty s => ∃ z : String, mg s = none ∧ bootBuiltins s = some (.type z) ∧ s ≠ "__name__" ∧ (s == ("__debug__" : Str)) = false ∧ PySem.W.kitOne K (.ref (C n)) (.type z) = some b
  zero : xc.fld = none → ∃ (B newId initId : String) (bmB : List Value), ExcBaseFacts B newId initId bmB ∧ PySem.W.excIn K (C n) bmB newId = true
  one : ∀ f, xc.fld = some f → OexC K (C n) ∧ PySem.W.findIn K (.ref (C n)) f = some none ∧ ∃ (fI : Addr) (fd : FuncData), PySem.W.findIn K (.ref (C n)) "__init__" = some (some (.ref fI)) ∧ PySem.W.typeIn K (.ref fI) = some (.type "function") ∧ Binds K fd ["self", f] [] ∧
    ∀ (Pg : Program) (w : World) (base : Heap), FnOk Pg w K mg base (L2.CX Pg w) 1 fI fd ["self", f] (spInit (C n) f)
theorem exm_ok {K : PySem.W.Frag} {cls : Value} {D : Addr} {b : Bool} (hb : PySem.W.subIn K (.ref D) (.type "BaseException") = some true) (hc : (PySem.W.clsIn K D).isSome = true) (ht : PySem.W.typeIn K (.ref D) = some (.type "type")) (h : PySem.W.subIn K cls (.ref D) = some b) : PySem.W.exmOne K cls (.ref D) = some b := by
  unfold PySem.W.exmOne
  rw [hb]
  show PySem.W.kitCls K cls (.ref D) = _
  unfold PySem.W.kitCls
  dsimp only
  rw [if_pos (by rw [hc, ht]; rfl)]
  exact h
/-- one value made into an exception with one field -/
def tMk1 (C : Addr) (f : Str) (ta : TA) : L2.St → Hp → XK → Prop := fun σ H Q => ta σ H fun vs H1 => ∃ v, vs = [v] ∧ ∀ d, H1 d = none → Q (.ref C) (some d) (upd H1 d (.xd [(f, v)]))
section
variable {X : Cx} {C : Nat → Addr} {xs : List (Nat × XC)} {xp : List Nat} {n : Nat} {xc : XC}
theorem tA.imp {c : Cfg} {m : ME} {σ : L2.St} {H : Hp} {Q Q' : List V → Hp → Prop} (h : tA c m σ H Q) (q : ∀ vs H', Q vs H' → Q' vs H') : tA c m σ H Q' := by
  obtain ⟨Fr, G, r, S, h⟩ := h
  exact ⟨Fr, G, r, S, h.mono fun ds r' k vs H' G' S' g a => q _ _ (k vs H' G' S' g a)⟩
theorem pmk_zero (T : XcK X.K X.mg C xs xp n xc) (h0 : xc.fld = none) (hg : Gl X xc.name) {p pos : Pos} : PMk X (.Call (.Name xc.name p) [] [] pos) (fun _ H Q => Q (.ref (C n)) none H) := by
  obtain ⟨B, newId, initId, bmB, F, q⟩ := T.zero h0
  intro pins s σ H Q I h
  refine wpAny_Call_Name_kw (ld_glob I hg T.nm ?_ T.dbg)
  refine PySem.W.callWith_K0 I.kIn T.keep ?_
  obtain ⟨bm, N, nm, qn, bs, hdct, sn, sub, ab, col, dd, k0, k1, k2, k3, k5, mN, hC, hN, hni, TT⟩ := exc_obj I.kIn q
  refine wpAny_call_exc_subT F TT hC hN hni (fun h' e hm => ?_) (Nat.zero_le _)
  exact mk_of I hm (raises_own T.exC T.tyC) h (I.hok.gone hm.new)
theorem pmk_one (T : XcK X.K X.mg C xs xp n xc) {f : Str} (h1 : xc.fld = some f) (hg : Gl X xc.name) (hr : Room 2 X.A) (tk : Passes (L2.CX X.prog X.w) X (fun _ _ _ => False)) {e : Expr} {p pos : Pos} {c : Cfg} {m : ME} (ha : PA X [e] (tA c m)) (he : starEach [e] X.env = (false, eval e X.env) :: starEach [] X.env) :
    PMk X (.Call (.Name xc.name p) [e] [] pos) (tMk1 (C n) f (tA c m)) := by
  obtain ⟨OC, hno, fI, fd, iC, tI, hb, F⟩ := T.one f h1
  have pm := pmk_oex (pos := pos) (p := p) (dvs := []) OC iC tI (F X.prog X.w X.base) hr hb .nil tk hg T.nm ha T.dbg he rfl
  have key : ∀ (σ : L2.St) (H : Hp) (Q : XK), tMk1 (C n) f (tA c m) σ H Q → tMkO (C n) (spInit (C n) f) [] (tA c m) σ H Q := fun σ H Q q => by
    refine tA.imp q fun vs H1 q => ?_
    obtain ⟨v, rfl, q⟩ := q
    refine ⟨Nat.le_of_ble_eq_true rfl, fun a na => ⟨a, v, rfl, upd_same, fun dx n1 n2 => ⟨rfl, dx, [(f, v)], upd_same, ?_, ?_, ?_⟩⟩⟩
    · rw [upd_ne n2, upd_same]
    · rw [upd_ne n2] at n1; exact n1
    · have nd : H1 dx = none := by rw [upd_ne n2] at n1; exact n1
      have e1 : upd (del (upd (upd (upd H1 a (exo a (C n) none)) dx (exd dx [(f, v)])) a (exo a (C n) (some dx))) a) dx (.xd [(f, v)]) = upd H1 dx (.xd [(f, v)]) := by
        funext b
        by_cases hb : b = dx
        · subst hb
          rw [upd_same, upd_same]
        · rw [upd_ne hb, upd_ne hb]
          by_cases ha : b = a
          · subst ha
            rw [del_same, na]
          · rw [del_ne ha, upd_ne ha, upd_ne hb, upd_ne ha]
      rw [e1]
      exact q dx nd
  exact fun pins s σ H Q I h => pm pins s σ H Q I (key σ H Q h)
end
end VL

namespace VL
open PySem PySem.Spec L2
/-! ### except suites -/
/-- the state within a suite: a the exception, dx its dict, x its name's slot -/
def HSt (c : Cfg) (n : Nat) (fs : List D) (x : Option Nat) (a : Addr) (dx : Option Addr) (Fr G : Hp) (σ : L2.St) (H : Hp) (r : Env) : Prop := SR c.K c.io Fr G σ H r ∧ XR c n fs dx G H ∧ ∀ j, x = some j → σ[j]? = some (some (.ref a))
def tHA (c : Cfg) (n : Nat) (xc : XC) (fs : List D) (x : Option Nat) (a : Addr) (dx : Option Addr) (m : HE) : TE := fun σ H Q => ∃ (Fr G : Hp) (r : Env) (d : D), HSt c n fs x a dx Fr G σ H r ∧ m.at xc fs r = some d ∧ ∀ v, RV c.K G d v → Q v H
def tHT (c : Cfg) (n : Nat) (xc : XC) (fs : List D) (x : Option Nat) (a : Addr) (dx : Option Addr) (m : HE) : TT := fun σ H Q => ∃ (Fr G : Hp) (r : Env) (d : D) (b : Bool), HSt c n fs x a dx Fr G σ H r ∧ m.at xc fs r = some d ∧ d.tru = some b ∧ Q b H
def atomOk : D → Expr → Bool
  | .non, .Constant .none _ _ => true
  | .bl b, .Constant (.bool b') _ _ => b == b'
  | .int i, .Constant (.int j) _ _ => i == j
  | .str s, .Constant (.str z) _ _ => decide (s = z)
  | _, _ => false
def nmOf (xs : List (Nat × XC)) (xp : List Nat) : IT → Option Str
  | .own m => if xp.contains m then (xs.lookup m).map (·.name) else none
  | .ty s => some s
def enIs (k : CkE) (ev : Str) : Option (Nat × Str) → Bool
  | some (j, y) => decide (y = ev) && vis k j ev
  | none => false
def isIsi (k : CkE) (xs : List (Nat × XC)) (xp : List Nat) (xc : XC) (en : Option (Nat × Str)) (t : IT) : Expr → Bool
  | .Call (.Name f _) [.Name ev _, .Name ty _] [] _ => isGl k f "isinstance" && decide (nmOf xs xp t = some ty) && gl k ty && enIs k ev en
  | _ => false
def chkHE (k : CkE) (xs : List (Nat × XC)) (xp : List Nat) (xc : XC) (en : Option (Nat × Str)) : HE → Expr → Bool
  | .kst d => fun e => atomOk d e
  | .fld => fun e => (match e with
    | .Attribute (.Name ev _) f _ => decide (xc.fld = some f) && enIs k ev en
    | _ => false)
  | .isi t => isIsi k xs xp xc en t
  | .nm j => fun e => (match e with
    | .Name y _ => vis k j y
    | _ => false)
  | .not_ a => fun e => (match e with
    | .UnaryOp .Not y _ => chkHE k xs xp xc en a y
    | _ => false)
  | .and_ a b => fun e => (match e with
    | .BoolOp .And (y :: z :: rest) pos => chkHE k xs xp xc en a y && chkHE k xs xp xc en b (if rest.isEmpty then z else .BoolOp .And (z :: rest) pos)
    | _ => false)
  | .or_ a b => fun e => (match e with
    | .BoolOp .Or (y :: z :: rest) pos => chkHE k xs xp xc en a y && chkHE k xs xp xc en b (if rest.isEmpty then z else .BoolOp .Or (z :: rest) pos)
    | _ => false)
  | .eq a b => fun e => (match e with
    | .Compare y [.Eq] [z] _ => chkHE k xs xp xc en a y && chkHE k xs xp xc en b z
    | _ => false)
  | _ => fun _ => false
theorem call_isE2 {X : Cx} {a D : Addr} {oe : Obj} {pn : List (Addr × Obj)} {d : Option Addr} (hcl : (PySem.W.clsIn X.K D).isSome = true) (hga : PySem.W.findIn X.K (.ref D) "__getattribute__" = some (some (.builtin "BaseException.__getattribute__"))) (hgt : PySem.W.findIn X.K (.ref D) "__getattr__" = some none)
    (hsub : PySem.W.subIn X.K (.ref D) (.type "BaseException") = some true) (ha : PySem.W.findIn X.K (.ref D) "__class__" = some (some (.builtin "object.__class__"))) (hn : PySem.W.specialIn X.K (.builtin "object.__class__") "__get__" = some (some (.builtin "getset_descriptor.__get__")))
    (htk : PySem.W.takesIn X.K (.builtin "object.__class__") = some true) (hm : PySem.W.mroIn X.K D (.type "object") = some true) (hz : Zc (.ref D) d oe) (hf : ∃ vs, oe.data = .fields vs) :
    CallR (X.suite a ((a, oe) :: pn)) (.builtin "isinstance") (fun xs H Q => (∀ x, d = some x → ∃ fs, H x = some (.xd fs)) ∧ ∃ (c : V) (cv : Value) (b : Bool), xs = [.ref a, c] ∧ (∀ u, RelV c u → u = cv) ∧ PySem.W.kitOne X.K (.ref D) cv = some b ∧ Q (.bl b) H) := by
  intro pins s σ H xs us Q I r h
  obtain ⟨hd, c, cv, b, rfl, hcv, e, q⟩ := h
  cases r with
  | cons rx rr =>
    cases rr with
    | cons rt rr =>
      cases rr
      cases rx
      have ec := hcv _ rt
      subst ec
      obtain ⟨hget, _⟩ := I.pin (a, oe) (List.mem_append.mpr (.inl List.mem_cons_self))
      obtain ⟨vs, hv⟩ := hf
      have J : ∃ od, PySem.W.InstAt s.heap a oe D od := by
        cases hdd : d with
        | none =>
          refine ⟨none, hget, hz.1, by unfold PySem.W.notCls; rw [hv] <;> rfl, ?_⟩
          rw [hz.2, hdd]
          trivial
        | some x =>
          obtain ⟨fs, hx⟩ := hd x hdd
          obtain ⟨mA, ⟨od, es, ep, ho, _⟩, _⟩ := (show ObjOk X.prog X.w H s.heap x (.xd fs) from I.hok x _ hx)
          refine ⟨some od, hget, hz.1, by unfold PySem.W.notCls; rw [hv] <;> rfl, ?_⟩
          rw [hz.2, hdd]
          exact ho
      obtain ⟨od, J⟩ := J
      exact PySem.W.kia_one (PySem.W.kitx_exc hcl hga hgt hsub ha hn htk hm) I.kIn J e (fun z => nomatch z) fun tk => ⟨.bl b, H, I.kept (t' := tk) fun _ _ z => z, rfl, q⟩
end VL
namespace VL
open PySem PySem.Spec L2
section
variable {X : Cx} {c : Cfg} {k : CkE} {n : Nat} {xc : XC} {fs : List D} {x : Option Nat} {a : Addr} {dx : Option Addr} {oe : Obj} {pn : List (Addr × Obj)} {en : Option (Nat × Str)}
/-- what is wanted around a suite -/
structure SuOk (X : Cx) (c : Cfg) (k : CkE) (n : Nat) (xc : XC) (x : Option Nat) (dx : Option Addr) (oe : Obj) (en : Option (Nat × Str)) : Prop where
  O : XOk0 X c k
  T : XcK X.K X.mg c.C c.P.xs c.P.xp n xc
  fl : c.fld n = xc.fld
  z : Zc (.ref (c.C n)) dx oe
  f : ∃ vs, oe.data = .fields vs
  en : x = en.map (·.1)
theorem XR.grow {G H : Hp} {p : Addr} {o : HO} (h : XR c n fs dx G H) (hp : H p = none) : XR c n fs dx G (upd H p o) := by
  rcases h with h | ⟨d, y, v, f, e1, e2, e3, e4, e5⟩
  · exact .inl h
  · exact .inr ⟨d, y, v, f, e1, e2, e3, by rw [upd_ne (ne_of_none e4 hp)]; exact e4, e5⟩
theorem XR.there {G H : Hp} (h : XR c n fs dx G H) : ∀ y, dx = some y → ∃ l, H y = some (.xd l) := fun y e => by
  rcases h with ⟨_, h⟩ | ⟨d, y', v, f, e1, e2, e3, e4, e5⟩
  · rw [h] at e; cases e
  · rw [e2] at e; cases e; exact ⟨_, e4⟩
theorem en_vis {ev : Str} (h : enIs k ev en = true) : ∃ j, en = some (j, ev) ∧ vis k j ev = true := by
  cases en with
  | none => cases h
  | some p =>
    obtain ⟨j, y⟩ := p
    have h : (decide (y = ev) && vis k j ev) = true := h
    simp only [Bool.and_eq_true, decide_eq_true_eq] at h
    obtain ⟨rfl, h⟩ := h
    exact ⟨j, rfl, h⟩
theorem su_name (U : SuOk X c k n xc x dx oe en) {j : Nat} {y : Str} {pos : Pos} (h : vis k j y = true) : PE (X.suite a ((a, oe) :: pn)) (.Name y pos) (tVar j) := by
  obtain ⟨h1, h2, h3, h4⟩ := vis_of h
  exact pe_var (X := X.suite a ((a, oe) :: pn)) (by show X.N[j]? = _; rw [U.O.N]; exact h1) (by show X.env.scope.names.lookup y = _ ∨ _; rw [U.O.nm]; exact h4) h2 h3
theorem su_g (O : XOk0 X c k) : XG0 (X.suite a pn) := ⟨O.g.guards, O.g.units, O.g.sys⟩
theorem he_atom {d : D} {e : Expr} (h : atomOk d e = true) : PE (X.suite a ((a, oe) :: pn)) e (tHA c n xc fs x a dx (.kst d)) := by
  have key : ∀ {d : D} {v : V} {σ : L2.St} {H : Hp} {Q : VK}, (∀ G, RV c.K G d v) → tHA c n xc fs x a dx (.kst d) σ H Q → Q v H := fun {d v σ H Q} hv q => by
    obtain ⟨Fr, G, r, d', S, e, q⟩ := q
    cases e
    exact q v (hv G)
  unfold atomOk at h
  split at h
  · exact peI pe_non fun σ H Q q => key (d := .non) (v := .non) (fun _ => rfl) q
  · rename_i b b' _ _
    obtain rfl : b = b' := by simpa using h
    exact peI pe_bl fun σ H Q q => key (d := .bl b) (v := .bl b) (fun _ => rfl) q
  · rename_i b b' _ _
    obtain rfl : b = b' := by simpa using h
    exact peI pe_int fun σ H Q q => key (d := .int b) (v := .int b) (fun _ => rfl) q
  · rename_i b b' _ _
    obtain rfl : b = b' := by simpa using h
    exact peI pe_str fun σ H Q q => key (d := .str b) (v := .str b) (fun _ => rfl) q
  · cases h
theorem he_isi (U : SuOk X c k n xc x dx oe en) {t : IT} {e : Expr} (h : isIsi k c.P.xs c.P.xp xc en t e = true) : PE (X.suite a ((a, oe) :: pn)) e (tHA c n xc fs x a dx (.isi t)) := by
  unfold isIsi at h
  split at h
  · rename_i f p1 ev p2 ty p3 pos
    simp only [Bool.and_eq_true, decide_eq_true_eq] at h
    obtain ⟨⟨⟨h1, h2⟩, h3⟩, h4⟩ := h
    obtain ⟨rfl, h1⟩ := isGl_of h1
    obtain ⟨j, he, hv⟩ := en_vis h4
    have T := U.T
    have pn1 : PE (X.suite a ((a, oe) :: pn)) (.Name ev p2) (tVar j) := su_name U hv
    have glt : Gl (X.suite a ((a, oe) :: pn)) ty := U.O.gl0 (gl_of h3)
    have call := call_isE2 (X := X) (a := a) (pn := pn) T.cls T.ga T.gg T.exC T.cl T.gs T.tk T.mro U.z U.f
    have fin : ∀ (cv : Value) (w : V) (pt : PE (X.suite a ((a, oe) :: pn)) (.Name ty p3) (tC w)), (∀ u, RelV w u → u = cv) → (∀ b, xc.isa.lookup t = some b → PySem.W.kitOne X.K (.ref (c.C n)) cv = some b) → PE (X.suite a ((a, oe) :: pn)) (.Call (.Name "isinstance" p1) [.Name ev p2, .Name ty p3] [] pos) (tHA c n xc fs x a dx (.isi t)) := fun cv w pt hw hk => by
      refine peI (pe_callB call (U.O.gl0 h1) (U.O.bt _ (by decide +kernel)) (by decide +kernel) (pa_cons pn1 (pa_cons pt pa_nil)) (by decide) (by decide)) fun σ H Q q => ?_
      obtain ⟨Fr, G, r, d, S, e1, q⟩ := q
      have e1 : (xc.isa.lookup t).map D.bl = some d := e1
      cases eb : xc.isa.lookup t with
      | none => rw [eb] at e1; cases e1
      | some b =>
        rw [eb] at e1
        cases e1
        refine ⟨_, S.2.2 j (by rw [U.en, he]; rfl), ?_⟩
        exact ⟨S.2.1.there, w, cv, b, rfl, hw, hk b eb, q (.bl b) rfl⟩
    have mem : ∀ b, xc.isa.lookup t = some b → (t, b) ∈ xc.isa := fun b e => by
      have : ∀ l : List (IT × Bool), l.lookup t = some b → (t, b) ∈ l := by
        intro l
        induction l with
        | nil => intro h; cases h
        | cons p l ih =>
          obtain ⟨t', b'⟩ := p
          intro h
          rw [List.lookup_cons] at h
          split at h
          · rename_i z
            obtain rfl : t = t' := by simpa using z
            cases h
            exact List.mem_cons_self
          · exact List.mem_cons_of_mem _ (ih h)
      exact this _ e
    cases eb : xc.isa.lookup t with
    | none => exact ⟨fun pins s σ H Q I ⟨_, _, _, _, _, e1, _⟩ => by
        have e1 : (xc.isa.lookup t).map D.bl = some _ := e1
        rw [eb] at e1
        cases e1⟩
    | some b =>
      have q := T.isa t b (mem b eb)
      cases t with
      | own m =>
        have h2 : (if c.P.xp.contains m then (c.P.xs.lookup m).map (·.name) else none) = some ty := h2
        by_cases hm : c.P.xp.contains m = true
        case neg => rw [if_neg hm] at h2; cases h2
        rw [if_pos hm] at h2
        obtain ⟨xm, q1, q2, q3, q4⟩ := q (by simpa using hm)
        rw [q1] at h2
        cases h2
        exact fin _ (.ref (c.C m)) (pe_glob glt q2 rfl q3) (fun u r => r) fun b' e => by rw [eb] at e; cases e; exact q4
      | ty s =>
        obtain ⟨z, q1, q2, q3, q4, q5⟩ := q
        cases h2
        exact fin _ (.ty z) (pe_bltn glt q1 q2 (show RelV (.ty z) (.type z) from rfl) q3 q4) (fun u r => r) fun b' e => by rw [eb] at e; cases e; exact q5
  · cases h
theorem tHA.conv {c : Cfg} {n : Nat} {xc : XC} {fs : List D} {x : Option Nat} {a : Addr} {dx : Option Addr} {m : HE} {σ : L2.St} {H : Hp} {Q Q' : VK} (h : tHA c n xc fs x a dx m σ H Q) (q : ∀ v, Q v H → Q' v H) : tHA c n xc fs x a dx m σ H Q' := by
  obtain ⟨Fr, G, r, d, S, e, k⟩ := h
  exact ⟨Fr, G, r, d, S, e, fun v rv => q v (k v rv)⟩
theorem he_pe (U : SuOk X c k n xc x dx oe en) : ∀ (m : HE) (e : Expr), chkHE k c.P.xs c.P.xp xc en m e = true → PE (X.suite a ((a, oe) :: pn)) e (tHA c n xc fs x a dx m) := by
  intro m
  induction m with
  | kst d => intro e h; exact he_atom h
  | isi t => intro e h; exact he_isi U h
  | fld =>
    intro e h
    cases e <;> try (cases h; done)
    rename_i o f pos
    cases o <;> try (cases h; done)
    rename_i ev p1
    have h : (decide (xc.fld = some f) && enIs k ev en) = true := h
    simp only [Bool.and_eq_true, decide_eq_true_eq] at h
    obtain ⟨h1, h2⟩ := h
    obtain ⟨j, he, hv⟩ := en_vis (en := en) (k := k) h2
    obtain ⟨OC, hno, _⟩ := U.T.one f h1
    refine peI (pe_xf (X := X) ⟨U.T.ga, U.T.gg, U.T.exC, U.T.hd⟩ hno U.z U.f (su_name U hv)) fun σ H Q q => ?_
    obtain ⟨Fr, G, r, d, S, e1, q⟩ := q
    refine ⟨_, S.2.2 j (by rw [U.en, he]; rfl), rfl, rfl, ?_⟩
    have e1 : oneOf fs = some d := e1
    rcases S.2.1 with ⟨z1, z2⟩ | ⟨d', y, v, f', z1, z2, z3, z4, z5⟩
    · rw [z1] at e1; cases e1
    · rw [z1] at e1
      cases e1
      rw [U.fl, h1] at z3
      cases z3
      exact ⟨y, _, v, z2, z4, by simp [List.lookup], q v z5⟩
  | nm j =>
    intro e h
    cases e <;> try (cases h; done)
    refine peI (su_name U (h : vis k j _ = true)) fun σ H Q q => ?_
    obtain ⟨Fr, G, r, d, S, e1, q⟩ := q
    have e1 : (match r[j]? with
      | some (.fz d) => some d
      | _ => none) = some d := e1
    split at e1
    · rename_i d' e2
      cases e1
      obtain ⟨v, e3, rv⟩ := S.1.s _ _ e2
      exact ⟨v, e3, q v rv⟩
    · cases e1
  | not_ b ih =>
    intro e h
    cases e <;> try (cases h; done)
    rename_i op y pos
    cases op <;> try (cases h; done)
    refine peI (pe_notT (ih y h)) fun σ H Q q => ?_
    obtain ⟨Fr, G, r, d, S, e1, q⟩ := q
    have e1 : (match HE.at xc fs r b with
      | some d => d.tru.map fun b => D.bl (!b)
      | none => none) = some d := e1
    cases e2 : HE.at xc fs r b with
    | none => rw [e2] at e1; cases e1
    | some d1 =>
      rw [e2] at e1
      have e1 : (d1.tru.map fun b => D.bl (!b)) = some d := e1
      cases e3 : d1.tru with
      | none => rw [e3] at e1; cases e1
      | some t =>
        rw [e3] at e1
        cases e1
        exact ⟨Fr, G, r, d1, S, e2, fun v rv => ⟨t, by show TruV X.K _ _ _; rw [kwK U.O.K]; exact tru_D S.1.g (.inl rv) e3, q (.bl (!t)) rfl⟩⟩
  | and_ b b2 ih ih2 =>
    intro e h
    cases e <;> try (cases h; done)
    rename_i op es pos
    cases op <;> try (cases h; done)
    rcases es with _ | ⟨y, _ | ⟨z, rest⟩⟩ <;> try (cases h; done)
    have h : (chkHE k c.P.xs c.P.xp xc en b y && chkHE k c.P.xs c.P.xp xc en b2 (if rest.isEmpty then z else .BoolOp .And (z :: rest) pos)) = true := h
    simp only [Bool.and_eq_true] at h
    refine peI (pe_andT (ih y h.1) (pe_rest (ih2 _ h.2))) fun σ H Q q => ?_
    obtain ⟨Fr, G, r, d, S, e1, q⟩ := q
    have e1 : (match HE.at xc fs r b with
      | some d => (match d.tru with
        | some true => HE.at xc fs r b2
        | some false => some d
        | none => none)
      | none => none) = some d := e1
    cases e2 : HE.at xc fs r b with
    | none => rw [e2] at e1; cases e1
    | some d1 =>
      rw [e2] at e1
      refine ⟨Fr, G, r, d1, S, e2, fun v rv => ?_⟩
      cases e3 : d1.tru with
      | none => dsimp only at e1; rw [e3] at e1; cases e1
      | some t =>
        dsimp only at e1
        rw [e3] at e1
        refine ⟨t, by show TruV X.K _ _ _; rw [kwK U.O.K]; exact tru_D S.1.g (.inl rv) e3, ?_⟩
        cases t with
        | true => exact ⟨Fr, G, r, d, S, e1, q⟩
        | false => cases e1; exact q v rv
  | or_ b b2 ih ih2 =>
    intro e h
    cases e <;> try (cases h; done)
    rename_i op es pos
    cases op <;> try (cases h; done)
    rcases es with _ | ⟨y, _ | ⟨z, rest⟩⟩ <;> try (cases h; done)
    have h : (chkHE k c.P.xs c.P.xp xc en b y && chkHE k c.P.xs c.P.xp xc en b2 (if rest.isEmpty then z else .BoolOp .Or (z :: rest) pos)) = true := h
    simp only [Bool.and_eq_true] at h
    refine peI (pe_orT (ih y h.1) (pe_rest (ih2 _ h.2))) fun σ H Q q => ?_
    obtain ⟨Fr, G, r, d, S, e1, q⟩ := q
    have e1 : (match HE.at xc fs r b with
      | some d => (match d.tru with
        | some true => some d
        | some false => HE.at xc fs r b2
        | none => none)
      | none => none) = some d := e1
    cases e2 : HE.at xc fs r b with
    | none => rw [e2] at e1; cases e1
    | some d1 =>
      rw [e2] at e1
      refine ⟨Fr, G, r, d1, S, e2, fun v rv => ?_⟩
      cases e3 : d1.tru with
      | none => dsimp only at e1; rw [e3] at e1; cases e1
      | some t =>
        dsimp only at e1
        rw [e3] at e1
        refine ⟨t, by show TruV X.K _ _ _; rw [kwK U.O.K]; exact tru_D S.1.g (.inl rv) e3, ?_⟩
        cases t with
        | false => exact ⟨Fr, G, r, d, S, e1, q⟩
        | true => cases e1; exact q v rv
  | eq b b2 ih ih2 =>
    intro e h
    cases e <;> try (cases h; done)
    rename_i y ops zs pos
    rcases ops with _ | ⟨op, _ | ⟨_, _⟩⟩ <;> try (cases h; done)
    all_goals try (cases op <;> cases h; done)
    cases op <;> try (cases h; done)
    rcases zs with _ | ⟨z, _ | ⟨_, _⟩⟩ <;> try (cases h; done)
    have h : (chkHE k c.P.xs c.P.xp xc en b y && chkHE k c.P.xs c.P.xp xc en b2 z) = true := h
    simp only [Bool.and_eq_true] at h
    refine peI (pe_cmpR (r2_eq (su_g U.O)) (ih y h.1) (ih2 z h.2) (nomark _)) fun σ H Q q => ?_
    obtain ⟨Fr, G, r, d, S, e1, q⟩ := q
    have e1 : (match HE.at xc fs r b, HE.at xc fs r b2 with
      | some x, some y => Op.eq.ap2 x y
      | _, _ => none) = some d := e1
    cases e2 : HE.at xc fs r b with
    | none => rw [e2] at e1; cases e1
    | some d1 =>
      cases e3 : HE.at xc fs r b2 with
      | none => rw [e2, e3] at e1; cases e1
      | some d2 =>
        rw [e2, e3] at e1
        have e1 : (if d1.cmp && d2.cmp then some (D.bl (D.eq d1 d2)) else none) = some d := e1
        obtain ⟨_, rfl⟩ := ite_some e1
        refine ⟨Fr, G, r, d1, S, e2, fun v rv => ⟨Fr, G, r, d2, S, e3, fun w rw' => ?_⟩⟩
        have hK : kw (X.suite a ((a, oe) :: pn)) = c.K := U.O.K
        rw [hK]
        exact ⟨G, d1, d2, _, S.1.g, .inl rv, .inl rw', e1, ⟨fun v _ rv => q v rv, fun p o hp hn => hn.elim⟩⟩
  | nil => intro e h; cases h
  | cons b m _ _ => intro e h; cases h
  | lst m _ => intro e h; cases h
/-- an atom as a test -/
theorem he_pt (U : SuOk X c k n xc x dx oe en) : ∀ (m : HE) (e : Expr), chkHE k c.P.xs c.P.xp xc en m e = true → PT (X.suite a ((a, oe) :: pn)) e (tHT c n xc fs x a dx m) := by
  have plain : ∀ (m : HE) (e : Expr), chkHE k c.P.xs c.P.xp xc en m e = true → plainT e = true → PT (X.suite a ((a, oe) :: pn)) e (tHT c n xc fs x a dx m) := fun m e h hp => by
    refine ptI (pt_truth (he_pe (fs := fs) U m e h) (plain_test hp _)) fun σ H Q q => ?_
    obtain ⟨Fr, G, r, d, b, S, e1, e2, q⟩ := q
    exact ⟨Fr, G, r, d, S, e1, fun v rv => ⟨b, by show TruV X.K _ _ _; rw [kwK U.O.K]; exact tru_D S.1.g (.inl rv) e2, q⟩⟩
  intro m
  induction m with
  | kst d => intro e h; exact plain _ e h (by cases e <;> first | rfl | (cases d <;> cases h))
  | isi t => intro e h; exact plain _ e h (by cases e <;> first | rfl | cases h)
  | fld => intro e h; exact plain _ e h (by cases e <;> first | rfl | cases h)
  | nm j => intro e h; exact plain _ e h (by cases e <;> first | rfl | cases h)
  | not_ b ih =>
    intro e h
    cases e <;> try (cases h; done)
    rename_i op y pos
    cases op <;> try (cases h; done)
    refine ptI (pt_not (ih y h)) fun σ H Q q => ?_
    obtain ⟨Fr, G, r, d, t, S, e1, e4, q⟩ := q
    have e1 : (match HE.at xc fs r b with
      | some d => d.tru.map fun b => D.bl (!b)
      | none => none) = some d := e1
    cases e2 : HE.at xc fs r b with
    | none => rw [e2] at e1; cases e1
    | some d1 =>
      rw [e2] at e1
      have e1 : (d1.tru.map fun b => D.bl (!b)) = some d := e1
      cases e3 : d1.tru with
      | none => rw [e3] at e1; cases e1
      | some u =>
        rw [e3] at e1
        cases e1
        cases e4
        exact ⟨Fr, G, r, d1, u, S, e2, e3, q⟩
  | and_ b b2 ih ih2 =>
    intro e h
    cases e <;> try (cases h; done)
    rename_i op es pos
    cases op <;> try (cases h; done)
    rcases es with _ | ⟨y, _ | ⟨z, rest⟩⟩ <;> try (cases h; done)
    have h : (chkHE k c.P.xs c.P.xp xc en b y && chkHE k c.P.xs c.P.xp xc en b2 (if rest.isEmpty then z else .BoolOp .And (z :: rest) pos)) = true := h
    simp only [Bool.and_eq_true] at h
    refine ptI (pw_and (ih y h.1) (pw_rest (ih2 _ h.2))).pt fun σ H Q q => ?_
    obtain ⟨Fr, G, r, d, t, S, e1, e4, q⟩ := q
    have e1 : (match HE.at xc fs r b with
      | some d => (match d.tru with
        | some true => HE.at xc fs r b2
        | some false => some d
        | none => none)
      | none => none) = some d := e1
    cases e2 : HE.at xc fs r b with
    | none => rw [e2] at e1; cases e1
    | some d1 =>
      rw [e2] at e1
      cases e3 : d1.tru with
      | none => dsimp only at e1; rw [e3] at e1; cases e1
      | some u =>
        dsimp only at e1
        rw [e3] at e1
        refine ⟨Fr, G, r, d1, u, S, e2, e3, ?_⟩
        cases u with
        | true => exact ⟨Fr, G, r, d, t, S, e1, e4, q⟩
        | false => cases e1; rw [e3] at e4; cases e4; exact q
  | or_ b b2 ih ih2 =>
    intro e h
    cases e <;> try (cases h; done)
    rename_i op es pos
    cases op <;> try (cases h; done)
    rcases es with _ | ⟨y, _ | ⟨z, rest⟩⟩ <;> try (cases h; done)
    have h : (chkHE k c.P.xs c.P.xp xc en b y && chkHE k c.P.xs c.P.xp xc en b2 (if rest.isEmpty then z else .BoolOp .Or (z :: rest) pos)) = true := h
    simp only [Bool.and_eq_true] at h
    refine ptI (pw_or (ih y h.1) (pw_rest (ih2 _ h.2))).pt fun σ H Q q => ?_
    obtain ⟨Fr, G, r, d, t, S, e1, e4, q⟩ := q
    have e1 : (match HE.at xc fs r b with
      | some d => (match d.tru with
        | some true => some d
        | some false => HE.at xc fs r b2
        | none => none)
      | none => none) = some d := e1
    cases e2 : HE.at xc fs r b with
    | none => rw [e2] at e1; cases e1
    | some d1 =>
      rw [e2] at e1
      cases e3 : d1.tru with
      | none => dsimp only at e1; rw [e3] at e1; cases e1
      | some u =>
        dsimp only at e1
        rw [e3] at e1
        refine ⟨Fr, G, r, d1, u, S, e2, e3, ?_⟩
        cases u with
        | false => exact ⟨Fr, G, r, d, t, S, e1, e4, q⟩
        | true => cases e1; rw [e3] at e4; cases e4; exact q
  | eq b b2 ih ih2 =>
    intro e h
    cases e <;> try (cases h; done)
    rename_i y ops zs pos
    rcases ops with _ | ⟨op, _ | ⟨_, _⟩⟩ <;> try (cases h; done)
    all_goals try (cases op <;> cases h; done)
    cases op <;> try (cases h; done)
    rcases zs with _ | ⟨z, _ | ⟨_, _⟩⟩ <;> try (cases h; done)
    have h : (chkHE k c.P.xs c.P.xp xc en b y && chkHE k c.P.xs c.P.xp xc en b2 z) = true := h
    simp only [Bool.and_eq_true] at h
    refine ptI (pt_cmpR (r2_eq (su_g U.O)) (he_pe (fs := fs) U b y h.1) (he_pe (fs := fs) U b2 z h.2) (nomark _)) fun σ H Q q => ?_
    obtain ⟨Fr, G, r, d, t, S, e1, e4, q⟩ := q
    have e1 : (match HE.at xc fs r b, HE.at xc fs r b2 with
      | some x, some y => Op.eq.ap2 x y
      | _, _ => none) = some d := e1
    cases e2 : HE.at xc fs r b with
    | none => rw [e2] at e1; cases e1
    | some d1 =>
      cases e3 : HE.at xc fs r b2 with
      | none => rw [e2, e3] at e1; cases e1
      | some d2 =>
        rw [e2, e3] at e1
        have e1 : (if d1.cmp && d2.cmp then some (D.bl (D.eq d1 d2)) else none) = some d := e1
        obtain ⟨_, rfl⟩ := ite_some e1
        cases e4
        refine ⟨Fr, G, r, d1, S, e2, fun v rv => ⟨Fr, G, r, d2, S, e3, fun w rw' => ?_⟩⟩
        have hK : kw (X.suite a ((a, oe) :: pn)) = c.K := U.O.K
        rw [hK]
        exact ⟨G, d1, d2, _, S.1.g, .inl rv, .inl rw', e1, ⟨fun v _ rv => ⟨_, rv, q⟩, fun p o hp hn => hn.elim⟩⟩
  | nil => intro e h; cases h
  | cons b m _ _ => intro e h; cases h
  | lst m _ => intro e h; cases h
def isCompX : Expr → Bool
  | .ListComp .. => true
  | .SetComp .. => true
  | .DictComp .. => true
  | _ => false
theorem noswapX {ex : Expr} (h : isCompX ex = false) (tg : Option Expr) (l : Nat) (env : PySem.Env) : swapsWith ex tg l env = pure false := by
  cases ex <;> first | rfl | cases h
theorem he_nocomp {k : CkE} {xs : List (Nat × XC)} {xp : List Nat} {xc : XC} {en : Option (Nat × Str)} {e : HE} {ex : Expr} (h : chkHE k xs xp xc en e ex = true) : isCompX ex = false := by
  cases ex <;> first
    | rfl
    | (cases e <;> first | (cases h; done) | (rename_i d; cases d <;> cases h))
/-- several atoms -/
def chkHL (k : CkE) (xs : List (Nat × XC)) (xp : List Nat) (xc : XC) (en : Option (Nat × Str)) : HE → List Expr → Bool
  | .nil, [] => true
  | .cons a m, e :: es => !isStar e && chkHE k xs xp xc en a e && chkHL k xs xp xc en m es
  | _, _ => false
def tHL (c : Cfg) (n : Nat) (xc : XC) (fs : List D) (x : Option Nat) (a : Addr) (dx : Option Addr) (m : HE) : TA := fun σ H Q => ∃ (Fr G : Hp) (r : Env) (ds : List D), HSt c n fs x a dx Fr G σ H r ∧ m.ls xc fs r = some ds ∧ ∀ vs, RVs c.K G ds vs → Q vs H
theorem hl_pa (U : SuOk X c k n xc x dx oe en) : ∀ (m : HE) (es : List Expr), chkHL k c.P.xs c.P.xp xc en m es = true → PA (X.suite a ((a, oe) :: pn)) es (tHL c n xc fs x a dx m) := by
  intro m
  induction m with
  | nil =>
    intro es h
    cases es with
    | cons _ _ => cases h
    | nil =>
      refine paI pa_nil fun σ H Q q => ?_
      obtain ⟨Fr, G, r, ds, S, e, q⟩ := q
      cases e
      exact q [] rfl
  | cons b m _ ih =>
    intro es h
    cases es with
    | nil => cases h
    | cons e es =>
      have h : (!isStar e && chkHE k c.P.xs c.P.xp xc en b e && chkHL k c.P.xs c.P.xp xc en m es) = true := h
      simp only [Bool.and_eq_true, Bool.not_eq_true'] at h
      obtain ⟨⟨h1, h2⟩, h3⟩ := h
      refine paI (pa_cons (he_pe (fs := fs) U b e h2) (ih es h3) (star_of h1 _ _)) fun σ H Q q => ?_
      obtain ⟨Fr, G, r, ds, S, e1, q⟩ := q
      have e1 : (match HE.at xc fs r b, HE.ls xc fs r m with
        | some d, some l => some (d :: l)
        | _, _ => none) = some ds := e1
      cases e2 : HE.at xc fs r b with
      | none => rw [e2] at e1; cases e1
      | some d1 =>
        cases e3 : HE.ls xc fs r m with
        | none => rw [e2, e3] at e1; cases e1
        | some l =>
          rw [e2, e3] at e1
          cases e1
          exact ⟨Fr, G, r, d1, S, e2, fun v rv => ⟨Fr, G, r, l, S, e3, fun vs rvs => q (v :: vs) (RVs.cons rv rvs)⟩⟩
  | _ => intro es h; cases es <;> cases h
theorem ls_len {r : Env} : ∀ {m : HE} {ds : List D}, m.ls xc fs r = some ds → True := fun _ => trivial
/-! statements -/
def isHL : HS → Bool
  | .nil => true
  | .seq _ _ => true
  | _ => false
def chkHV (k : CkE) (xs : List (Nat × XC)) (xp : List Nat) (xc : XC) (en : Option (Nat × Str)) (e : HE) (ex : Expr) : Bool := match e with
  | .lst m => (match ex with
    | .List es _ => chkHL k xs xp xc en m es
    | _ => false)
  | e => chkHE k xs xp xc en e ex
def chkHS (k : CkE) (xs : List (Nat × XC)) (xp : List Nat) (xc : XC) (en : Option (Nat × Str)) : HS → List Stmt → Bool
  | .nil => fun sts => (match sts with
    | [] => true
    | _ => false)
  | .seq s t => fun sts => (match sts with
    | st :: rest => chkHS k xs xp xc en s [st] && chkHS k xs xp xc en t rest && !isHL s && isHL t
    | _ => false)
  | .asg j e => fun sts => (match sts with
    | [.Assign [.Name y _] ex _] => decide (k.N[j]? = some y) && rawOk k y && !k.io.contains j && !decide (en.map (·.1) = some j) && chkHV k xs xp xc en e ex
    | _ => false)
  | .ret e => fun sts => (match sts with
    | [.Return (some ex) _] => chkHV k xs xp xc en e ex
    | _ => false)
  | .ifs cc s t => fun sts => (match sts with
    | [.If ct us vs _] => chkHE k xs xp xc en cc ct && chkHS k xs xp xc en s us && chkHS k xs xp xc en t vs && isHL s && isHL t
    | _ => false)
end
def RetV (c : Cfg) (rf : Bool) (Fr G H : Hp) (d : D) (v : V) : Prop :=
  if (rf && d.mutb) = true then ∃ a, v = .ref a ∧ OV c.K G H d a ∧ G a = none ∧ Fr a = none ∧ ∀ p ∈ c.io, p.2 ≠ a else RV c.K G d v
section
variable {X : Cx} {c : Cfg} {k : CkE} {n : Nat} {xc : XC} {fs : List D} {x : Option Nat} {a : Addr} {dx : Option Addr} {oe : Obj} {pn : List (Addr × Obj)} {en : Option (Nat × Str)} {Fr G G' H H' : Hp} {σ : L2.St} {r : Env} {rf : Bool} {Dn : Ends}
theorem SR.io_ne (S : SR c.K c.io Fr G σ H r) {a : Addr} (h : ∀ j, ¬ ownAt σ r j a) : ∀ p ∈ c.io, p.2 ≠ a := fun p hp z => by
  obtain ⟨e, d, q⟩ := S.i p hp
  exact h p.1 ⟨by rw [e, z], d, q⟩
def HEnd (c : Cfg) (rf : Bool) (n : Nat) (fs : List D) (x : Option Nat) (a : Addr) (dx : Option Addr) (Dn : Ends) (Fr G : Hp) : Fl → Env → Prop
  | .nx, r => ∀ (σ' : L2.St) (H' G' : Hp), HSt c n fs x a dx Fr G' σ' H' r → Same G G' → Dn.nx σ' H'
  | .ret d, r => ∀ (v : V) (σ' : L2.St) (H' G' : Hp), SR c.K c.io Fr G' σ' H' r → Same G G' → RetV c rf Fr G' H' d v → Dn.rt v H'
  | _, _ => False
def tHS (c : Cfg) (rf : Bool) (n : Nat) (xc : XC) (fs : List D) (x : Option Nat) (a : Addr) (dx : Option Addr) (m : HS) : TS := fun Dn σ H => ∃ (Fr G : Hp) (r : Env) (f : Fl) (r' : Env), HSt c n fs x a dx Fr G σ H r ∧ m.ev xc fs rf r = some (f, r') ∧ HEnd c rf n fs x a dx Dn Fr G f r'
theorem HEnd.grow {f : Fl} {r : Env} (h : HEnd c rf n fs x a dx Dn Fr G f r) (g : Same G G') : HEnd c rf n fs x a dx Dn Fr G' f r := by
  cases f with
  | nx => exact fun σ' H' G1 s q => h σ' H' G1 s (g.trans q)
  | ret d => exact fun v σ' H' G1 s q => h v σ' H' G1 s (g.trans q)
  | bk => exact h
  | ct => exact h
theorem XR.mono (h : XR c n fs dx G H) (g : Same G G') : XR c n fs dx G' H := by
  rcases h with h | ⟨d, y, v, f, e1, e2, e3, e4, e5⟩
  · exact .inl h
  · exact .inr ⟨d, y, v, f, e1, e2, e3, e4, e5.mono g⟩
theorem st_set {j : Nat} {v : V} {d : D} (S : HSt c n fs x a dx Fr G σ H r) (hio : ∀ p ∈ c.io, p.1 ≠ j) (hx : x ≠ some j) (rv : RV c.K G d v) : HSt c n fs x a dx Fr G (σ.set j (some v)) H (r.set j (.fz d)) :=
  ⟨S.1.setFz hio rv, S.2.1, fun i e => by
    rw [List.getElem?_set_ne (fun z => hx (by rw [e, z]))]
    exact S.2.2 i e⟩
/-- atoms, a list of atoms -/
def isLstH : HE → Bool
  | .lst _ => true
  | _ => false
theorem asg_atom {j : Nat} {e : HE} (he : isLstH e = false) {r : Env} {f : Fl} {r' : Env} (h : (HS.asg j e).ev xc fs rf r = some (f, r')) : ∃ d, e.at xc fs r = some d ∧ f = .nx ∧ r' = r.set j (.fz d) := by
  have h2 : (match e.at xc fs r with
      | some d => some (Fl.nx, r.set j (.fz d))
      | none => none) = some (f, r') := by
    cases e <;> first | exact h | cases he
  cases e1 : e.at xc fs r with
  | none => rw [e1] at h2; cases h2
  | some d => rw [e1] at h2; cases h2; exact ⟨d, rfl, rfl, rfl⟩
theorem ret_atom {e : HE} (he : isLstH e = false) {r : Env} {f : Fl} {r' : Env} (h : (HS.ret e).ev xc fs rf r = some (f, r')) : ∃ d, e.at xc fs r = some d ∧ (rf && d.mutb) = false ∧ f = .ret d ∧ r' = r := by
  have h2 : (match e.at xc fs r with
      | some d => if rf && d.mutb then none else some (Fl.ret d, r)
      | none => none) = some (f, r') := by
    cases e <;> first | exact h | cases he
  cases e1 : e.at xc fs r with
  | none => rw [e1] at h2; cases h2
  | some d =>
    rw [e1] at h2
    dsimp only at h2
    split at h2
    · cases h2
    · rename_i hm
      cases h2
      exact ⟨d, rfl, by simpa using hm, rfl, rfl⟩
theorem lst_new {m : HE} {es : List Expr} {pos : Pos} {Q : VK} {ds : List D} (hl : PA (X.suite a ((a, oe) :: pn)) es (tHL c n xc fs x a dx m)) : PE (X.suite a ((a, oe) :: pn)) (.List es pos) (fun σ H Q => ∃ (Fr G : Hp) (r : Env) (ds : List D), HSt c n fs x a dx Fr G σ H r ∧ m.ls xc fs r = some ds ∧ ds.length ≤ line ∧ ∀ p vs, H p = none → RVs c.K G ds vs → Q (.ref p) (upd H p (.lst vs))) :=
  peI (pe_lst hl) fun σ H Q q => by
    obtain ⟨Fr, G, r, ds, S, e, z, q⟩ := q
    exact ⟨Fr, G, r, ds, S, e, fun vs rvs => ⟨by rw [RVs.len rvs, ← line_eq]; exact z, fun p hp => q p vs hp rvs⟩⟩
theorem hs_ps (U : SuOk X c k n xc x dx oe en) : ∀ (m : HS), (∀ (st : Stmt), isHL m = false → chkHS k c.P.xs c.P.xp xc en m [st] = true → PS (X.suite a ((a, oe) :: pn)) st (tHS c rf n xc fs x a dx m)) ∧
    ∀ (sts : List Stmt), isHL m = true → chkHS k c.P.xs c.P.xp xc en m sts = true → PSs (X.suite a ((a, oe) :: pn)) sts (tHS c rf n xc fs x a dx m) := by
  intro m
  induction m with
  | nil =>
    refine ⟨fun _ z => (by cases z), fun sts _ h => ?_⟩
    cases sts with
    | cons _ _ => cases h
    | nil =>
      refine pssI pss_nil fun Dn σ H q => ?_
      obtain ⟨Fr, G, r, f, r', S, e, q⟩ := q
      cases e
      exact q σ H G S (Same.refl _)
  | seq s t ihs iht =>
    refine ⟨fun _ z => (by cases z), fun sts _ h => ?_⟩
    cases sts with
    | nil => cases h
    | cons st rest =>
      have h : (chkHS k c.P.xs c.P.xp xc en s [st] && chkHS k c.P.xs c.P.xp xc en t rest && !isHL s && isHL t) = true := h
      simp only [Bool.and_eq_true, Bool.not_eq_true'] at h
      obtain ⟨⟨⟨h1, h2⟩, h3⟩, h4⟩ := h
      refine pssI (pss_cons (ihs.1 st h3 h1) (iht.2 rest h4 h2)) fun Dn σ H q => ?_
      obtain ⟨Fr, G, r, f, r', S, e, q⟩ := q
      have e : (match HS.ev xc fs rf s r with
        | some (.nx, r1) => HS.ev xc fs rf t r1
        | x => x) = some (f, r') := e
      cases e1 : HS.ev xc fs rf s r with
      | none => rw [e1] at e; cases e
      | some p =>
        obtain ⟨f1, r1⟩ := p
        rw [e1] at e
        refine ⟨Fr, G, r, f1, r1, S, e1, ?_⟩
        cases f1 with
        | nx => exact fun σ' H' G' S' g => ⟨Fr, G', r1, f, r', S', e, q.grow g⟩
        | ret d => cases e; exact q
        | bk => cases e; exact q
        | ct => cases e; exact q
  | asg j e =>
    refine ⟨fun st _ h => ?_, fun _ z => (by cases z)⟩
    cases st <;> try (cases h; done)
    rename_i tgs ex pos
    rcases tgs with _ | ⟨tg, _ | ⟨_, _⟩⟩
    · cases h
    · cases tg <;> try (cases h; done)
      rename_i y py
      have h : (decide (k.N[j]? = some y) && rawOk k y && !k.io.contains j && !decide (en.map (·.1) = some j) && chkHV k c.P.xs c.P.xp xc en e ex) = true := h
      simp only [Bool.and_eq_true, decide_eq_true_eq, Bool.not_eq_true', decide_eq_false_iff_not] at h
      obtain ⟨⟨⟨⟨h1, h2⟩, h3⟩, h4⟩, h5⟩ := h
      obtain ⟨q1, q2⟩ := U.O.raw y (rawOk_of h2)
      have hio := io_out U.O.io h3
      have hx : x ≠ some j := by rw [U.en]; exact h4
      have hN : (X.suite a ((a, oe) :: pn)).N.Nodup := by show X.N.Nodup; rw [U.O.N]; exact U.O.nd
      have hi : (X.suite a ((a, oe) :: pn)).N[j]? = some y := by show X.N[j]? = _; rw [U.O.N]; exact h1
      by_cases hl : ∃ m, e = .lst m
      · obtain ⟨m, rfl⟩ := hl
        cases ex <;> try (cases h5; done)
        rename_i es p5
        refine psI (ps_set hN hi q1 (lst_new (n := n) (fs := fs) (x := x) (dx := dx) (Q := fun _ _ => True) (ds := []) (hl_pa (fs := fs) U m es h5)) (by rfl) q2) fun Dn σ H q => ?_
        obtain ⟨Fr, G, r, f, r', S, e1, q⟩ := q
        have e1 : (match m.ls xc fs r with
          | some ds => if ds.length ≤ line then some (Fl.nx, r.set j (.ow (.lst ds))) else none
          | none => none) = some (f, r') := e1
        cases e2 : m.ls xc fs r with
        | none => rw [e2] at e1; cases e1
        | some ds =>
          rw [e2] at e1
          dsimp only at e1
          split at e1
          · rename_i hz
            cases e1
            refine ⟨Fr, G, r, ds, S, e2, hz, fun p vs hp rvs => ?_⟩
            have S1 := S.1.grow (o := .lst vs) hp
            exact q _ _ G ⟨S1.setOw hio ⟨vs, upd_same, rvs⟩ (S.1.none_g hp) (S.1.none_f hp) (S.1.none_own hp), S.2.1.grow hp, fun i e => by
              rw [List.getElem?_set_ne (fun z => hx (by rw [e, z]))]
              exact S.2.2 i e⟩ (Same.refl _)
          · cases e1
      · have hn : isLstH e = false := by cases e <;> first | rfl | exact absurd ⟨_, rfl⟩ hl
        have h5 : chkHE k c.P.xs c.P.xp xc en e ex = true := by cases e <;> first | exact h5 | exact absurd ⟨_, rfl⟩ hl
        have nc : isCompX ex = false := he_nocomp h5
        refine psI (ps_set hN hi q1 (he_pe (fs := fs) U e ex h5) (noswapX nc _ _ _) q2) fun Dn σ H q => ?_
        obtain ⟨Fr, G, r, f, r', S, e1, q⟩ := q
        obtain ⟨d, e2, rfl, rfl⟩ := asg_atom hn e1
        exact ⟨Fr, G, r, d, S, e2, fun v rv => q _ H G (st_set S hio hx rv) (Same.refl _)⟩
    · cases tg <;> cases h
  | ret e =>
    refine ⟨fun st _ h => ?_, fun _ z => (by cases z)⟩
    cases st <;> try (cases h; done)
    rename_i ex pos
    cases ex with
    | none => cases h
    | some ex =>
      have h : chkHV k c.P.xs c.P.xp xc en e ex = true := h
      by_cases hl : ∃ m, e = .lst m
      · obtain ⟨m, rfl⟩ := hl
        obtain ⟨es, p5, rfl⟩ : ∃ es p, ex = .List es p := by cases ex <;> first | exact ⟨_, _, rfl⟩ | cases h
        refine psI (ps_ret (lst_new (n := n) (fs := fs) (x := x) (dx := dx) (Q := fun _ _ => True) (ds := []) (hl_pa (fs := fs) U m es h))) fun Dn σ H q => ?_
        obtain ⟨Fr, G, r, f, r', S, e1, q⟩ := q
        have e1 : (match m.ls xc fs r with
          | some ds => if ds.length ≤ line then some (Fl.ret (.lst ds), r) else none
          | none => none) = some (f, r') := e1
        cases e2 : m.ls xc fs r with
        | none => rw [e2] at e1; cases e1
        | some ds =>
          rw [e2] at e1
          dsimp only at e1
          split at e1
          · rename_i hz
            cases e1
            refine ⟨Fr, G, r, ds, S, e2, hz, fun p vs hp rvs => ?_⟩
            cases rf with
            | true =>
              refine q _ σ _ G (S.1.grow hp) (Same.refl _) ?_
              unfold RetV
              rw [if_pos (show (true && (D.lst ds).mutb) = true from rfl)]
              exact ⟨p, rfl, ⟨vs, upd_same, rvs⟩, S.1.none_g hp, S.1.none_f hp, (S.1.grow (o := .lst vs) hp).io_ne (S.1.none_own hp)⟩
            | false =>
              have gN : Same G (upd G p (.lst vs)) := same_upd (S.1.none_g hp)
              refine q _ σ _ _ (S.1.new hp) gN ?_
              unfold RetV
              rw [if_neg (show ¬ (false && (D.lst ds).mutb) = true from Bool.false_ne_true)]
              exact ⟨p, vs, rfl, SqL.of upd_same, RVs.mono gN rvs⟩
          · cases e1
      · have hn : isLstH e = false := by cases e <;> first | rfl | exact absurd ⟨_, rfl⟩ hl
        have h : chkHE k c.P.xs c.P.xp xc en e ex = true := by cases e <;> first | exact h | exact absurd ⟨_, rfl⟩ hl
        refine psI (ps_ret (he_pe (fs := fs) U e ex h)) fun Dn σ H q => ?_
        obtain ⟨Fr, G, r, f, r', S, e1, q⟩ := q
        obtain ⟨d, e2, hm, rfl, rfl⟩ := ret_atom hn e1
        refine ⟨Fr, G, r', d, S, e2, fun v rv => q v σ H G S.1 (Same.refl _) ?_⟩
        unfold RetV
        rw [if_neg (by rw [hm]; exact Bool.false_ne_true)]
        exact rv
  | ifs cc s t ihs iht =>
    refine ⟨fun st _ h => ?_, fun _ z => (by cases z)⟩
    cases st <;> try (cases h; done)
    rename_i ct us vs pos
    have h : (chkHE k c.P.xs c.P.xp xc en cc ct && chkHS k c.P.xs c.P.xp xc en s us && chkHS k c.P.xs c.P.xp xc en t vs && isHL s && isHL t) = true := h
    simp only [Bool.and_eq_true] at h
    obtain ⟨⟨⟨⟨h1, h2⟩, h3⟩, h4⟩, h5⟩ := h
    refine psI (ps_if (he_pt (fs := fs) U cc ct h1) (ihs.2 us h4 h2) (iht.2 vs h5 h3)) fun Dn σ H q => ?_
    obtain ⟨Fr, G, r, f, r', S, e1, q⟩ := q
    have e1 : (match cc.at xc fs r with
      | some d => (match d.tru with
        | some true => HS.ev xc fs rf s r
        | some false => HS.ev xc fs rf t r
        | none => none)
      | none => none) = some (f, r') := e1
    cases e2 : cc.at xc fs r with
    | none => rw [e2] at e1; cases e1
    | some d =>
      rw [e2] at e1
      dsimp only at e1
      cases e3 : d.tru with
      | none => rw [e3] at e1; cases e1
      | some b =>
        rw [e3] at e1
        refine ⟨Fr, G, r, d, b, S, e2, e3, ?_⟩
        cases b with
        | true => exact ⟨Fr, G, r, f, r', S, e1, q⟩
        | false => exact ⟨Fr, G, r, f, r', S, e1, q⟩
end
end VL

/-! VL15: statements. -/
namespace VL
open PySem PySem.Spec L2
def ResS {α : Type} (c : Cfg) (Fr G : Hp) (x : Out α) (ok : α → Env → Prop) : Prop :=
  match x with
  | .ok a r => ok a r
  | .err n fs r => ∀ (σ' : L2.St) (H' G' : Hp) (dx : Option Addr), SR c.K c.io Fr G' σ' H' r → Same G G' → XR c n fs dx G' H' → c.W (.ref (c.C n)) dx σ' H'
  | .stk => False
def SEnd (c : Cfg) (rf : Bool) (D : Ends) (Fr G : Hp) : Fl → Env → Prop
  | .nx, r => ∀ (σ' : L2.St) (H' G' : Hp), SR c.K c.io Fr G' σ' H' r → Same G G' → D.nx σ' H'
  | .bk, r => ∀ (σ' : L2.St) (H' G' : Hp), SR c.K c.io Fr G' σ' H' r → Same G G' → D.bk σ' H'
  | .ct, r => ∀ (σ' : L2.St) (H' G' : Hp), SR c.K c.io Fr G' σ' H' r → Same G G' → D.ct σ' H'
  | .ret d, r => ∀ (v : V) (σ' : L2.St) (H' G' : Hp), SR c.K c.io Fr G' σ' H' r → Same G G' → RetV c rf Fr G' H' d v → D.rt v H'
def tM (c : Cfg) (rf : Bool) (m : MS) : TS := fun D σ H => ∃ (Fr G : Hp) (r : Env), SR c.K c.io Fr G σ H r ∧ ResS c Fr G (m.ev shownD c.P c.cf rf r) (SEnd c rf D Fr G)
abbrev mev (c : Cfg) (rf : Bool) (m : MS) (r : Env) : Out Fl := m.ev shownD c.P c.cf rf r
structure XS (X : Cx) (c : Cfg) (k : CkE) : Prop extends XOk X c k where
  own : PassesOwn (model X.prog X.w) X.A X.env X.xe
  room : Room 2 X.A
  stk : X.stack = X.env :: X.outer
  frm : X.env.frame = some X.env.locals
  xc : ∀ (n : Nat) (xc : XC), c.P.xs.lookup n = some xc → n ∈ c.P.xp → XcK X.K X.mg c.C c.P.xs c.P.xp n xc
  fl : ∀ n, c.fld n = (c.P.xs.lookup n).bind (·.fld)

section
variable {X : Cx} {c : Cfg} {k : CkE} {Fr G G' H H' : Hp} {σ : L2.St} {r : Env} {rf : Bool} {D D' : Ends}
theorem ResS.bind {α β : Type} {x : Out α} {f : α → Env → Out β} {ok : β → Env → Prop} (h : ResS c Fr G (x.bind f) ok) : ResS c Fr G x fun a r' => ResS c Fr G (f a r') ok := by
  cases x with
  | ok a r => exact h
  | err n fs r => exact h
  | stk => exact h
theorem ResS.mono {α : Type} {x : Out α} {ok ok' : α → Env → Prop} (h : ResS c Fr G x ok) (k : ∀ a r, ok a r → ok' a r) : ResS c Fr G x ok' := by
  cases x with
  | ok a r => exact k a r h
  | err n fs r => exact h
  | stk => exact h
theorem ResS.grow {α : Type} {x : Out α} {ok : α → Env → Prop} (h : ResS c Fr G x ok) (g : Same G G') : ResS c Fr G' x ok := by
  cases x with
  | ok a r => exact h
  | err n fs r => exact fun σ' H' G1 dx s q xr => h σ' H' G1 dx s (g.trans q) xr
  | stk => exact h
theorem ResS.at {α : Type} {x : Out α} {ok : α → Env → Prop} (h : ResS c Fr G x ok) (σ : L2.St) : Res c Fr G σ x ok := by
  cases x with
  | ok a r => exact h
  | err n fs r => exact fun H' G1 dx s q xr => h σ H' G1 dx s q xr
  | stk => exact h
theorem SEnd.grow {f : Fl} {r : Env} (h : SEnd c rf D Fr G f r) (g : Same G G') : SEnd c rf D Fr G' f r := by
  cases f with
  | nx => exact fun σ' H' G1 s q => h σ' H' G1 s (g.trans q)
  | bk => exact fun σ' H' G1 s q => h σ' H' G1 s (g.trans q)
  | ct => exact fun σ' H' G1 s q => h σ' H' G1 s (g.trans q)
  | ret d => exact fun v σ' H' G1 s q => h v σ' H' G1 s (g.trans q)
theorem SR.reads {io : List (Nat × Addr)} {K : KW} (S : SR K io Fr G σ H r) {j : Nat} {d : VL.D} (h : r[j]? = some (.ow d)) : ∃ a, σ[j]? = some (some (.ref a)) ∧ ownAt σ r j a := by
  obtain ⟨a, e, _⟩ := S.s _ _ h
  exact ⟨a, e, e, d, .inl h⟩
theorem SR.io_ne' (S : SR c.K c.io Fr G σ H r) {a : Addr} {j : Nat} (h : ownAt σ r j a) (hj : ∀ p ∈ c.io, p.1 ≠ j) : ∀ p ∈ c.io, p.2 ≠ a := fun p hp z => by
  obtain ⟨e, d, q⟩ := S.i p hp
  exact hj p hp (S.d p.1 j a ⟨by rw [e, z], d, q⟩ h)

/-! ### seq -/
theorem tM_seq {s t : MS} (h : tM c rf (.seq s t) D σ H) : tSeq (tM c rf s) (tM c rf t) D σ H := by
  obtain ⟨Fr, G, r, S, h⟩ := h
  refine ⟨Fr, G, r, S, (ResS.bind h).mono fun f r1 q => ?_⟩
  cases f with
  | nx =>
    intro σ' H' G' S' g
    have q : ResS c Fr G (mev c rf t r1) _ := q
    exact ⟨Fr, G', r1, S', (q.grow g).mono fun f r2 q => q.grow g⟩
  | bk => exact q
  | ct => exact q
  | ret d => exact q
theorem tM_nil (h : tM c rf .nil D σ H) : tNext D σ H := by
  obtain ⟨Fr, G, r, S, h⟩ := h
  exact h σ H G S (Same.refl _)

theorem SEnd.wipe {js : List Nat} (hj : ∀ j ∈ js, ∀ p ∈ c.io, p.1 ≠ j) {f : Fl} {r : Env} (h : SEnd c rf D Fr G f (wipeE r js)) : SEnd c rf D Fr G f r := by
  cases f with
  | nx => exact fun σ' H' G' S g => h σ' H' G' (S.forgets hj) g
  | bk => exact fun σ' H' G' S g => h σ' H' G' (S.forgets hj) g
  | ct => exact fun σ' H' G' S g => h σ' H' G' (S.forgets hj) g
  | ret d => exact fun v σ' H' G' S g => h v σ' H' G' (S.forgets hj) g
theorem tM_scrub {js : List Nat} {s : MS} (hj : ∀ j ∈ js, ∀ p ∈ c.io, p.1 ≠ j) (h : tM c rf (.scrub js s) D σ H) : tM c rf s D σ H := by
  obtain ⟨Fr, G, r, S, h⟩ := h
  exact ⟨Fr, G, r, S, (ResS.bind h).mono fun f r1 q => SEnd.wipe hj q⟩

theorem SR.frzs : ∀ {js : List Nat} {r : Env} {G : Hp}, (∀ j ∈ js, ∀ p ∈ c.io, p.1 ≠ j) → SR c.K c.io Fr G σ H r → ∃ G', Same G G' ∧ SR c.K c.io Fr G' σ H (frzE r js)
  | [], _, G, _, S => ⟨G, Same.refl _, S⟩
  | j :: js, r, G, h, S => by
    have hs := fun i hi => h i (List.mem_cons_of_mem _ hi)
    show ∃ G', Same G G' ∧ SR c.K c.io Fr G' σ H (frzE (match r[j]? with
      | some (.ow d) => r.set j (.fz d)
      | _ => r) js)
    split
    · rename_i d e
      obtain ⟨a, o, h1, h2, h3, S', _⟩ := S.cap (h j List.mem_cons_self) e
      obtain ⟨G', g, S2⟩ := SR.frzs hs S'
      exact ⟨G', (same_upd h2).trans g, S2⟩
    · exact SR.frzs hs S
theorem tM_frz {js : List Nat} {s : MS} (hj : ∀ j ∈ js, ∀ p ∈ c.io, p.1 ≠ j) (h : tM c rf (.frz js s) D σ H) : tM c rf s D σ H := by
  obtain ⟨Fr, G, r, S, h⟩ := h
  obtain ⟨G', g, S'⟩ := S.frzs hj
  have h : ResS c Fr G (mev c rf s (frzE r js)) (SEnd c rf D Fr G) := h
  exact ⟨Fr, G', _, S', (h.grow g).mono fun f r1 q => q.grow g⟩

/-! ### name = e -/
theorem SV.put {fr : Bool} {d : VL.D} {v : V} {j : Nat} (S : SR c.K c.io Fr G σ H r) (hj : ∀ p ∈ c.io, p.1 ≠ j) (h : SV c.K fr Fr G H σ r d v) : SR c.K c.io Fr G (σ.set j (some v)) H (r.set j (if fr = true then mkSlot d else .fz d)) := by
  unfold SV at h
  cases fr with
  | false => exact S.setFz hj h
  | true =>
    have h : FV c.K Fr G H σ r d v := h
    unfold FV at h
    unfold mkSlot
    rw [if_pos rfl]
    split at h
    · rename_i hm
      obtain ⟨a, rfl, h1, h2, h3, h4⟩ := h
      rw [if_pos hm]
      exact S.setOw hj h1 h2 h3 h4
    · rename_i hm
      rw [if_neg hm]
      exact S.setFz hj h
theorem asg_core {j : Nat} {e : ME} (hio : ∀ p ∈ c.io, p.1 ≠ j) (h : tM c rf (.asg (.sl j) e) D σ H) : tAsg (tS c (e.fr c.P) e) (gName j) D σ H := by
  obtain ⟨Fr, G, r, S, h⟩ := h
  refine ⟨Fr, G, r, S, ((ResS.bind h).at σ).mono fun ds r1 q => ?_⟩
  match ds, q with
  | [], q => exact q.elim
  | _ :: _ :: _, q => exact q.elim
  | [d], q =>
    refine ⟨d, rfl, fun v H' G' S' g sv => ?_⟩
    have S2 := SV.put S' hio sv
    dsimp only at q
    have e1 : asgE (.sl j) (e.fr c.P) d r1 = some (r1.set j (if e.fr c.P = true then mkSlot d else .fz d)) := by
      cases e.fr c.P <;> rfl
    rw [e1] at q
    exact q _ H' G' S2 g
theorem asg_tup {g : MG} {e : ME} (h : tM c rf (.asg (.tup g) e) D σ H) : tAsg (tS c false e) (tgT c (.tup g)) D σ H := by
  obtain ⟨Fr, G, r, S, h⟩ := h
  refine ⟨Fr, G, r, S, ((ResS.bind h).at σ).mono fun ds r1 q => ?_⟩
  match ds, q with
  | [], q => exact q.elim
  | _ :: _ :: _, q => exact q.elim
  | [d], q =>
    refine ⟨d, rfl, fun v H' G' S' g' sv => ?_⟩
    dsimp only at q
    have e1 : asgE (.tup g) (e.fr c.P) d r1 = (MG.tup g).bind d r1 := by cases e.fr c.P <;> rfl
    rw [e1] at q
    cases e2 : (MG.tup g).bind d r1 with
    | none => rw [e2] at q; exact q.elim
    | some r2 =>
      rw [e2] at q
      exact ⟨d, r1, r2, Fr, G', S', sv, e2, fun σ' S2 _ => q σ' H' G' S2 g'⟩
theorem expr_core {e : ME} (h1 : e.one = true) (h : tM c rf (.expr e) D σ H) : tDrop (tS c (e.fr c.P) e) D σ H := by
  obtain ⟨Fr, G, r, S, h⟩ := h
  have q : Res c Fr G σ (evl c e r) _ := ((ResS.bind h).at σ)
  refine ⟨Fr, G, r, S, ?_⟩
  cases ev : evl c e r with
  | stk => rw [ev] at q; exact q.elim
  | err n fs r1 => rw [ev] at q; exact q
  | ok ds r1 =>
    rw [ev] at q
    obtain ⟨d, rfl⟩ := ME.one_ev h1 ev
    exact ⟨d, rfl, fun v H' G' S' g _ => q σ H' G' S' g⟩
/-! ### ret -/
theorem ret_core {e : ME} (hn : isNm e = false) (h : tM c rf (.ret e) D σ H) : tRet (tS c (e.fr c.P) e) D σ H := by
  obtain ⟨Fr, G, r, S, h⟩ := h
  have h : ResS c Fr G ((evl c e r).bind fun x r1 => match x with
      | [d] => if rf && !e.fr c.P && d.mutb then .stk else .ok (.ret d) r1
      | _ => .stk) (SEnd c rf D Fr G) := by
    cases e <;> first | exact h | cases hn
  refine ⟨Fr, G, r, S, ((ResS.bind h).at σ).mono fun ds r1 q => ?_⟩
  match ds, q with
  | [], q => exact q.elim
  | _ :: _ :: _, q => exact q.elim
  | [d], q =>
    refine ⟨d, rfl, fun v H' G' S' g sv => ?_⟩
    dsimp only at q
    split at q
    · exact q.elim
    · rename_i hm
      have q : SEnd c rf D Fr G (.ret d) r1 := q
      cases rf with
      | false =>
        obtain ⟨G2, g2, S2, rv⟩ := SV.frz S' sv
        exact q v σ H' G2 S2 (g.trans g2) rv
      | true =>
        refine q v σ H' G' S' g ?_
        unfold RetV
        unfold SV at sv
        split at sv
        · unfold FV at sv
          split at sv
          · rename_i hd
            obtain ⟨a, rfl, h1, h2, h3, h4⟩ := sv
            rw [if_pos (by rw [hd]; rfl)]
            exact ⟨a, rfl, h1, h2, h3, S'.io_ne h4⟩
          · rename_i hd
            rw [if_neg (by simpa using hd)]
            exact sv
        · rename_i hf
          rw [if_neg ?_]
          · exact sv
          · intro hd
            simp only [Bool.true_and] at hd
            apply hm
            rw [hd]
            have : e.fr c.P = false := by simpa using hf
            rw [this]
            rfl
theorem ret_nm {j : Nat} (hio : ∀ p ∈ c.io, p.1 ≠ j) (h : tM c rf (.ret (.nm j)) D σ H) : tRet (tVar j) D σ H := by
  obtain ⟨Fr, G, r, S, h⟩ := h
  have h : ResS c Fr G (match rf, r[j]? with
      | true, some (.ow d) => Out.ok (.ret d) r
      | true, some (.fz d) => if d.mutb then .stk else .ok (.ret d) r
      | false, some (.ow d) => .ok (.ret d) (r.set j (.fz d))
      | false, some (.fz d) => .ok (.ret d) r
      | _, _ => .stk) (SEnd c rf D Fr G) := h
  cases e : r[j]? with
  | none => rw [e] at h; cases rf <;> exact h.elim
  | some s =>
    rw [e] at h
    cases s with
    | un => cases rf <;> exact h.elim
    | lk d => cases rf <;> exact h.elim
    | fz d =>
      obtain ⟨v, hv, rv⟩ := S.s _ _ e
      cases rf with
      | false => exact ⟨v, hv, h v σ H G S (Same.refl _) rv⟩
      | true =>
        have h : ResS c Fr G (if d.mutb = true then Out.stk else .ok (.ret d) r) (SEnd c true D Fr G) := h
        split at h
        · exact h.elim
        · rename_i hm
          refine ⟨v, hv, h v σ H G S (Same.refl _) ?_⟩
          unfold RetV
          rw [if_neg (by simpa using hm)]
          exact rv
    | ow d =>
      obtain ⟨a, hv, g0, f0, ov⟩ := S.s _ _ e
      cases rf with
      | true =>
        refine ⟨_, hv, h _ σ H G S (Same.refl _) ?_⟩
        unfold RetV
        rw [if_pos (by rw [ov.mutb]; rfl)]
        exact ⟨a, rfl, ov, g0, f0, S.io_ne' ⟨hv, d, .inl e⟩ hio⟩
      | false =>
        obtain ⟨a', o, h1, h2, h3, S', rv⟩ := S.cap hio e
        exact ⟨_, h1, h _ σ H _ S' (same_upd h2) rv⟩

/-! ### if, for, while -/
theorem tT_of {cc : ME} {Q : Bool → Hp → Prop} (S : SR c.K c.io Fr G σ H r) (h : ResS c Fr G (evC shownD c.P c.cf cc r) fun b r1 => ∀ (H' G' : Hp), SR c.K c.io Fr G' σ H' r1 → Same G G' → Q b H') : tT c cc σ H Q := ⟨Fr, G, r, S, h.at σ⟩
theorem if_core {cc : ME} {a b : MS} (h : tM c rf (.ife cc a b) D σ H) : tIfS (tT c cc) (tM c rf a) (tM c rf b) D σ H := by
  obtain ⟨Fr, G, r, S, h⟩ := h
  refine ⟨Fr, G, r, S, ((ResS.bind h).mono fun t r1 q => ?_).at σ⟩
  intro H' G' S' g
  cases t with
  | true =>
    have q : ResS c Fr G (mev c rf a r1) _ := q
    exact ⟨Fr, G', r1, S', (q.grow g).mono fun f r2 q => q.grow g⟩
  | false =>
    have q : ResS c Fr G (mev c rf b r1) _ := q
    exact ⟨Fr, G', r1, S', (q.grow g).mono fun f r2 q => q.grow g⟩
theorem for_core {tg : MG} {it : ME} {body : MS} {wi : TI} (hwi : ∀ σ H R, tI c it σ H R → wi σ H R) (h : tM c rf (.for_ tg it body) D σ H) : tFor wi (tgT c tg) (tM c rf body) D σ H := by
  refine hwi σ H _ ?_
  obtain ⟨Fr, G, r, S, h⟩ := h
  refine ⟨Fr, G, r, S, ((ResS.bind h).mono fun ds r1 q => ?_).at σ⟩
  match ds, q with
  | [], q => exact q.elim
  | _ :: _ :: _, q => exact q.elim
  | [x], q =>
    dsimp only at q
    cases ei : itemsD x with
    | none => rw [ei] at q; exact q.elim
    | some xs =>
      rw [ei] at q
      refine ⟨x, xs, rfl, ei, fun J G1 H1 S1 g1 hw => ?_⟩
      refine for_it hw (fun i σ H => ∃ (G2 : Hp) (r : Env), Same G1 G2 ∧ SR c.K c.io Fr G2 σ H r ∧ ResS c Fr G2 (forLoop tg (mev c rf body) (xs.drop i) r) (SEnd c rf D Fr G2)) ?_ ?_ ?_ ?_
      · have q : ResS c Fr G (forLoop tg (mev c rf body) xs r1) _ := q
        exact ⟨G1, r1, Same.refl _, S1, (q.grow g1).mono fun f r2 q => q.grow g1⟩
      · rintro i σ' H' _ ⟨G2, r2, g, S2, _⟩
        exact g.trans S2.g
      · rintro i v σ' H2 H3 hi ⟨G2, r2, g, S2, q⟩ y
        obtain ⟨G3, d, e1, g3, S3, rd⟩ := S2.yield g y
        rw [drop_get e1] at q
        have q : ResS c Fr G2 (match tg.bind d r2 with
          | none => Out.stk
          | some r1 => (mev c rf body r1).bind fun f r2 => match f with
            | .nx => forLoop tg (mev c rf body) (xs.drop (i + 1)) r2
            | .ct => forLoop tg (mev c rf body) (xs.drop (i + 1)) r2
            | .bk => .ok .nx r2
            | .ret d => .ok (.ret d) r2) (SEnd c rf D Fr G2) := q
        cases eb : tg.bind d r2 with
        | none => rw [eb] at q; exact q.elim
        | some r3 =>
          rw [eb] at q
          refine ⟨d, r2, r3, Fr, G3, S3, rd, eb, fun σ4 S4 _ => ⟨Fr, G3, r3, S4, ((ResS.bind q).grow g3).mono fun f r5 q => ?_⟩⟩
          cases f with
          | nx =>
            intro σ5 H5 G5 S5 g5
            have q : ResS c Fr G2 (forLoop tg (mev c rf body) (xs.drop (i + 1)) r5) _ := q
            exact ⟨G5, r5, (g.trans g3).trans g5, S5, (q.grow (g3.trans g5)).mono fun f r q => q.grow (g3.trans g5)⟩
          | ct =>
            intro σ5 H5 G5 S5 g5
            have q : ResS c Fr G2 (forLoop tg (mev c rf body) (xs.drop (i + 1)) r5) _ := q
            exact ⟨G5, r5, (g.trans g3).trans g5, S5, (q.grow (g3.trans g5)).mono fun f r q => q.grow (g3.trans g5)⟩
          | bk => exact fun σ5 H5 G5 S5 g5 => q σ5 H5 G5 S5 (g3.trans g5)
          | ret d => exact fun v σ5 H5 G5 S5 g5 => q v σ5 H5 G5 S5 (g3.trans g5)
      · rintro σ' H' ⟨G2, r2, g, S2, q⟩
        rw [List.drop_length] at q
        exact q σ' H' G2 S2 (Same.refl _)
theorem whl_core {n : Nat} {cc : ME} {body : MS} (h : tM c rf (.whl n cc body) D σ H) : tWhile (tT c cc) (tM c rf body) D σ H := by
  obtain ⟨Fr, G, r, S, h⟩ := h
  refine ⟨fun m σ H => ∃ (G2 : Hp) (r : Env), SR c.K c.io Fr G2 σ H r ∧ ResS c Fr G2 (whlLoop (evC shownD c.P c.cf cc) (mev c rf body) m r) (SEnd c rf D Fr G2), ⟨n, G, r, S, h⟩, ?_⟩
  rintro m σ1 H1 ⟨G2, r1, S1, q⟩
  cases m with
  | zero => exact q.elim
  | succ m =>
    refine ⟨Fr, G2, r1, S1, ((ResS.bind q).mono fun t r2 q => ?_).at σ1⟩
    intro H' G' S' g
    cases t with
    | false => exact q σ1 H' G' S' g
    | true =>
      rw [if_pos rfl]
      have q := (ResS.bind q).grow g
      refine ⟨_, fun σ' H' n => ⟨m, Nat.lt_succ_self _, n⟩, Fr, G', r2, S', q.mono fun f r3 q => ?_⟩
      cases f with
      | nx =>
        intro σ5 H5 G5 S5 g5
        have q : ResS c Fr G2 (whlLoop (evC shownD c.P c.cf cc) (mev c rf body) m r3) _ := q
        exact ⟨G5, r3, S5, (q.grow (g.trans g5)).mono fun f r q => q.grow (g.trans g5)⟩
      | ct =>
        intro σ5 H5 G5 S5 g5
        have q : ResS c Fr G2 (whlLoop (evC shownD c.P c.cf cc) (mev c rf body) m r3) _ := q
        exact ⟨G5, r3, S5, (q.grow (g.trans g5)).mono fun f r q => q.grow (g.trans g5)⟩
      | bk => exact fun σ5 H5 G5 S5 g5 => q σ5 H5 G5 S5 (g.trans g5)
      | ret d => exact fun v σ5 H5 G5 S5 g5 => q v σ5 H5 G5 S5 (g.trans g5)

/-! ### a[i] = v -/
/-- d[k] = v -/
def rPutD (K : KW) : V → V → V → Hp → (Hp → Prop) → Prop := fun o i v H Q => ∃ (p : Addr) (kvs : List (VL.D × VL.D)) (ep : Nat) (es : List ERow) (dk dv : VL.D) (G : Hp), o = .ref p ∧ Same G H ∧ H p = some (DctO p ep es) ∧ (kvs.map (·.1.key)).Nodup ∧ REs K G kvs es ∧ RV K G dk i ∧ RV K G dv v ∧ dk.hk 8 = true ∧ kvs.length < line ∧
  ∀ ep' es', REs K G (dput kvs dk dv) es' → ((dput kvs dk dv).map (·.1.key)).Nodup → Q (upd H p (DctO p ep' es'))
theorem set_put {X : Cx} (g : XG0 X) : PSet X (rPutD (kw X)) := by
  intro pins s σ H o i v ov iv u Q I ro ri rv h
  obtain ⟨p, kvs, ep, es, dk, dv, G, rfl, gg, hp, hn, hr, rk, rw', hk, hl, q⟩ := h
  have hu := g.units
  cases ro
  obtain ⟨xs, hm, rr, hz, m⟩ := Inv.dctN I hp hn gg hr
  refine setItem_N (by omega) (RV.keyOk I (rk.mono gg) ri hk) hm hz fun h' hm' hs => ?_
  have rr' := row_put hk rk ri rw' rv rr
  have hlen : (rowsSet xs dk.key iv u).length ≤ sizeLine := by
    rw [← rr'.length]
    have := dput_len kvs dk dv
    rw [← line_eq]
    omega
  obtain ⟨ep', es', at', re', nn⟩ := dctN_at (K := kw X) rfl hm' rr' hlen m
  refine ⟨upd H p (DctO p ep' es'), I.write (x := p) (e := p) (by rw [hp]; trivial) (.inl rfl) (fun b w hb z => (hs.2 b hb).trans z) hm'.there (dctAt_ext at'), q ep' es' re' nn⟩
def rSetLD (K : KW) : V → V → V → Hp → (Hp → Prop) → Prop := fun o i v H Q => rSetL o i v H Q ∨ rPutD K o i v H Q
theorem set_LD {X : Cx} (g : XG0 X) : PSet X (rSetLD (kw X)) := by
  intro pins s σ H o i v ov iv u Q I ro ri rv h
  rcases h with h | h
  · exact set_list pins s σ H o i v ov iv u Q I ro ri rv h
  · exact set_put g pins s σ H o i v ov iv u Q I ro ri rv h
theorem seti_core {j : Nat} {ke v : ME} (h1 : v.one = true) (h2 : ke.one = true) (h : tM c rf (.seti j ke v) D σ H) : tAsg (tS c false v) (gSub (tVar j) (tS c false ke) (rSetLD c.K)) D σ H := by
  obtain ⟨Fr, G, r, S, h⟩ := h
  have h : ResS c Fr G (match r[j]? with
    | some (.ow _) => (evl c v r).bind fun x r1 => (evl c ke r1).bind fun y r2 => match x, y, owned r2 j with
      | [v], [k], some d => match MOp.seti.ap d [k, v] with
        | some (_, d') => Out.ok .nx (r2.set j (.ow d'))
        | none => .stk
      | _, _, _ => .stk
    | _ => .stk) (SEnd c rf D Fr G) := h
  split at h
  · rename_i z0 e0
    obtain ⟨p0, e1, own0⟩ := S.reads e0
    have q := (ResS.bind h).at σ
    refine ⟨Fr, G, r, S, ?_⟩
    cases ev : evl c v r with
    | stk => rw [ev] at q; exact q.elim
    | err n fs r1 => rw [ev] at q; exact q
    | ok xs r1 =>
      rw [ev] at q
      obtain ⟨dv, rfl⟩ := ME.one_ev h1 ev
      refine ⟨dv, rfl, fun vv H1 G1 S1 g1 sv => ⟨_, e1, Fr, G1, r1, S1, ?_⟩⟩
      have q : ResS c Fr G ((evl c ke r1).bind fun y r2 => match [dv], y, owned r2 j with
        | [v], [k], some d => match MOp.seti.ap d [k, v] with
          | some (_, d') => Out.ok .nx (r2.set j (.ow d'))
          | none => .stk
        | _, _, _ => .stk) (SEnd c rf D Fr G) := q
      have q := ((ResS.bind q).grow g1).at σ
      cases ek : evl c ke r1 with
      | stk => rw [ek] at q; exact q.elim
      | err n fs r2 => rw [ek] at q; exact q
      | ok ys r2 =>
        rw [ek] at q
        obtain ⟨dk, rfl⟩ := ME.one_ev h2 ek
        refine ⟨dk, rfl, fun vk H2 G2 S2 g2 sk => ?_⟩
        cases e4 : owned r2 j with
        | none =>
          have q : ResS c Fr G (match [dv], [dk], owned r2 j with
            | [v], [k], some d => match MOp.seti.ap d [k, v] with
              | some (_, d') => Out.ok .nx (r2.set j (.ow d'))
              | none => .stk
            | _, _, _ => .stk) (SEnd c rf D Fr G) := q
          rw [e4] at q
          exact q.elim
        | some d =>
          have q : ResS c Fr G (match [dv], [dk], owned r2 j with
            | [v], [k], some d => match MOp.seti.ap d [k, v] with
              | some (_, d') => Out.ok .nx (r2.set j (.ow d'))
              | none => .stk
            | _, _, _ => .stk) (SEnd c rf D Fr G) := q
          rw [e4] at q
          have q : ResS c Fr G (match MOp.seti.ap d [dk, dv] with
              | some (_, d') => Out.ok .nx (r2.set j (.ow d'))
              | none => .stk) (SEnd c rf D Fr G) := q
          have hr : r2[j]? = some (.ow d) := by
            unfold owned at e4
            split at e4
            · cases e4; assumption
            · cases e4
          match d, dk, q, sk with
          | .lst xs, .int i, q, sk =>
            have q : ResS c Fr G (match (if 0 ≤ i ∧ i < xs.length then some (VL.D.non, VL.D.lst (xs.set i.toNat dv)) else none) with
              | some (_, d') => Out.ok .nx (r2.set j (.ow d'))
              | none => .stk) (SEnd c rf D Fr G) := q
            by_cases hz : 0 ≤ i ∧ i < xs.length
            · rw [if_pos hz] at q
              cases (show vk = .int i from sk)
              obtain ⟨p1, e6, ga, fa, ws, e7, rvw⟩ := S2.s _ _ hr
              rw [e1] at e6
              cases e6
              have hlen := RVs.len rvw
              refine .inl ⟨p0, ws, i, i.toNat, rfl, rfl, e7, ?_, ?_⟩
              · unfold ixN
                rw [if_pos hz.1, hlen, if_pos hz.2]
              · have sv : RV c.K G1 dv vv := sv
                exact q σ _ G2 (S2.put e1 hr ⟨_, upd_same, RVs.set _ rvw (sv.mono g2)⟩) (g1.trans g2)
            · rw [if_neg hz] at q
              exact q.elim
          | .dct kvs, dk, q, sk =>
            have q : ResS c Fr G (match (if dk.hk 8 = true ∧ kvs.length < line then some (VL.D.non, VL.D.dct (dput kvs dk dv)) else none) with
              | some (_, d') => Out.ok .nx (r2.set j (.ow d'))
              | none => .stk) (SEnd c rf D Fr G) := q
            by_cases hz : dk.hk 8 = true ∧ kvs.length < line
            · rw [if_pos hz] at q
              obtain ⟨p1, e6, ga, fa, ep, es, e7, hn, hre⟩ := S2.s _ _ hr
              rw [e1] at e6
              cases e6
              have sv : RV c.K G1 dv vv := sv
              have sk : RV c.K G2 dk vk := sk
              exact .inr ⟨p0, kvs, ep, es, dk, dv, G2, rfl, S2.g, e7, hn, hre, sk, sv.mono g2, hz.1, hz.2, fun ep' es' re nn => q σ _ G2 (S2.put e1 hr ⟨ep', es', upd_same, nn, re⟩) (g1.trans g2)⟩
            · rw [if_neg hz] at q
              exact q.elim
          | .non, _, q, _ | .bl _, _, q, _ | .int _, _, q, _ | .str _, _, q, _ | .tup _, _, q, _ => exact q.elim
          | .lst _, .non, q, _ | .lst _, .bl _, q, _ | .lst _, .str _, q, _ | .lst _, .tup _, q, _ | .lst _, .lst _, q, _ | .lst _, .dct _, q, _ => exact q.elim
  · exact h.elim
/-! ### x += e, on ints -/
theorem aug_core {o : Op} {f : Int → Int → Int} {j : Nat} {e : ME} (hf : ∀ a y d, ap o [.int a, y] = some d → ∃ b, y = .int b ∧ d = .int (f a b)) (hio : ∀ p ∈ c.io, p.1 ≠ j) (h : tM c rf (.aug o j e) D σ H) : tAug j (tS c false e) (ipI f) D σ H := by
  obtain ⟨Fr, G, r, S, h⟩ := h
  have h : ResS c Fr G (match peek r j with
    | some x => (evl c e r).bind fun y r1 => match y with
      | [y] => match x with
        | .int _ => match o.ap shownD [x, y] with
          | some d => Out.ok .nx (r1.set j (.fz d))
          | none => .stk
        | _ => .stk
      | _ => .stk
    | none => .stk) (SEnd c rf D Fr G) := h
  cases hp : peek r j with
  | none => rw [hp] at h; exact h.elim
  | some x =>
    rw [hp] at h
    obtain ⟨v, hv⟩ : ∃ v, σ[j]? = some (some v) := by
      unfold peek at hp
      split at hp
      · rename_i e1; obtain ⟨v, e2, _⟩ := S.s _ _ e1; exact ⟨v, e2⟩
      · rename_i e1; obtain ⟨v, e2, _⟩ := S.s _ _ e1; exact ⟨_, e2⟩
      · rename_i e1; obtain ⟨v, e2, _⟩ := S.s _ _ e1; exact ⟨_, e2⟩
      · cases hp
    refine ⟨v, hv, Fr, G, r, S, ((ResS.bind h).at σ).mono fun ds r1 q => ?_⟩
    match ds, q with
    | [], q => exact q.elim
    | _ :: _ :: _, q => exact q.elim
    | [y], q =>
      refine ⟨y, rfl, fun w H' G' S' g sv => ?_⟩
      cases x with
      | int a =>
        have q : ResS c Fr G (match o.ap shownD [.int a, y] with
          | some d => Out.ok .nx (r1.set j (.fz d))
          | none => .stk) (SEnd c rf D Fr G) := q
        cases ea : o.ap shownD [.int a, y] with
        | none => rw [ea] at q; exact q.elim
        | some d =>
          rw [ea] at q
          obtain ⟨b, rfl, rfl⟩ := hf a y d ea
          exact ⟨a, b, (peek_vw S hp hv).int, sv, q _ H' G' (S'.setFz hio rfl) g⟩
      | _ => exact q.elim
theorem aug_add : ∀ (a : Int) (y d : VL.D), ap .add [.int a, y] = some d → ∃ b, y = .int b ∧ d = .int (a + b) := fun a y d h => by
  cases y <;> try (cases h; done)
  cases h
  exact ⟨_, rfl, rfl⟩
theorem aug_sub : ∀ (a : Int) (y d : VL.D), ap .sub [.int a, y] = some d → ∃ b, y = .int b ∧ d = .int (a - b) := fun a y d h => by
  cases y <;> try (cases h; done)
  cases h
  exact ⟨_, rfl, rfl⟩
end

/-! ### raise, try -/
section
variable {X : Cx} {c : Cfg} {k : CkE} {Fr G G' H H' : Hp} {σ : L2.St} {r : Env} {rf : Bool} {D D' : Ends}
/-- a suite for the exception that is caught -/
def tSu (c : Cfg) (rf : Bool) (n : Nat) (xc : XC) (x : Option Nat) (h : HS) : Addr → Value → Option Addr → TS := fun a cls d D σ H => cls = .ref (c.C n) ∧ ∃ fs, tHS c rf n xc fs x a d h D σ H
theorem su_ps {n : Nat} {xc : XC} {x : Option Nat} {en : Option (Nat × Str)} {h : HS} {sts : List Stmt} (O : XS X c k) (hn : c.P.xs.lookup n = some xc) (hp : n ∈ c.P.xp) (hx : x = en.map (·.1)) (hl : isHL h = true) (hc : chkHS k c.P.xs c.P.xp xc en h sts = true) (a : Addr) (oe : Obj) (cls : Value) (d : Option Addr) (pn : List (Addr × Obj)) (hz : Zc cls d oe) (hf : ∃ vs, oe.data = .fields vs) :
    PSs (X.suite a ((a, oe) :: pn)) sts (tSu c rf n xc x h a cls d) := by
  refine ⟨fun pins s σ H D I q => ?_⟩
  obtain ⟨e, fs, q⟩ := q
  subst e
  exact ((hs_ps (rf := rf) (fs := fs) (a := a) (pn := pn) ⟨O.toXOk0, O.xc n xc hn hp, by rw [O.fl, hn]; rfl, hz, hf, hx⟩ h).2 sts hl hc).run pins s σ H D I q
theorem HEnd.of {n : Nat} {fs : List VL.D} {x : Option Nat} {a : Addr} {dx : Option Addr} {f : Fl} {r2 : Env} (hx : ∀ j, x = some j → ∀ p ∈ c.io, p.1 ≠ j) (h : SEnd c rf D Fr G f (hotE r2 x)) (hb : f ≠ .bk) (hc : f ≠ .ct) :
    HEnd c rf n fs x a dx (match x with
      | some j => { nx := fun σ' H' => D.nx (σ'.set j none) H', rt := D.rt, bk := fun σ' H' => D.bk (σ'.set j none) H', ct := fun σ' H' => D.ct (σ'.set j none) H' }
      | none => D) Fr G f r2 := by
  cases x with
  | none =>
    cases f with
    | nx => exact fun σ' H' G' S g => h σ' H' G' S.1 g
    | ret d => exact fun v σ' H' G' S g rv => h v σ' H' G' S g rv
    | bk => exact absurd rfl hb
    | ct => exact absurd rfl hc
  | some j =>
    cases f with
    | nx => exact fun σ' H' G' S g => h _ H' G' (S.1.setUn (hx j rfl)) g
    | ret d => exact fun v σ' H' G' S g rv => h v _ H' G' (S.setUn (v := none) (hx j rfl)) g rv
    | bk => exact absurd rfl hb
    | ct => exact absurd rfl hc
theorem hs_fl {xc : XC} {fs : List VL.D} : ∀ (m : HS) {r : Env} {f : Fl} {r' : Env}, m.ev xc fs rf r = some (f, r') → f ≠ .bk ∧ f ≠ .ct := by
  intro m
  induction m with
  | nil => intro r f r' h; cases h; exact ⟨fun z => (by cases z), fun z => (by cases z)⟩
  | seq s t ihs iht =>
    intro r f r' h
    have h : (match HS.ev xc fs rf s r with
      | some (.nx, r1) => HS.ev xc fs rf t r1
      | x => x) = some (f, r') := h
    cases e : HS.ev xc fs rf s r with
    | none => rw [e] at h; cases h
    | some p =>
      obtain ⟨f1, r1⟩ := p
      rw [e] at h
      cases f1 with
      | nx => exact iht h
      | ret d => cases h; exact ihs e
      | bk => exact absurd rfl (ihs e).1
      | ct => exact absurd rfl (ihs e).2
  | asg j e =>
    intro r f r' h
    by_cases hl : ∃ m, e = .lst m
    · obtain ⟨m, rfl⟩ := hl
      have h : (match m.ls xc fs r with
          | some ds => if ds.length ≤ line then some (Fl.nx, r.set j (.ow (.lst ds))) else none
          | none => none) = some (f, r') := h
      split at h
      · split at h
        · cases h; exact ⟨fun z => (by cases z), fun z => (by cases z)⟩
        · cases h
      · cases h
    · obtain ⟨d, _, rfl, _⟩ := asg_atom (by cases e <;> first | rfl | exact absurd ⟨_, rfl⟩ hl) h
      exact ⟨fun z => (by cases z), fun z => (by cases z)⟩
  | ret e =>
    intro r f r' h
    by_cases hl : ∃ m, e = .lst m
    · obtain ⟨m, rfl⟩ := hl
      have h : (match m.ls xc fs r with
          | some ds => if ds.length ≤ line then some (Fl.ret (.lst ds), r) else none
          | none => none) = some (f, r') := h
      split at h
      · split at h
        · cases h; exact ⟨fun z => (by cases z), fun z => (by cases z)⟩
        · cases h
      · cases h
    · obtain ⟨d, _, _, rfl, _⟩ := ret_atom (by cases e <;> first | rfl | exact absurd ⟨_, rfl⟩ hl) h
      exact ⟨fun z => (by cases z), fun z => (by cases z)⟩
  | ifs cc s t ihs iht =>
    intro r f r' h
    have h : (match cc.at xc fs r with
      | some d => (match d.tru with
        | some true => HS.ev xc fs rf s r
        | some false => HS.ev xc fs rf t r
        | none => none)
      | none => none) = some (f, r') := h
    split at h
    · split at h
      · exact ihs h
      · exact iht h
      · cases h
    · cases h
/-- the wish of a try's body -/
def wTry (K : PySem.W.Frag) (c : Cfg) (rf : Bool) (n : Nat) (xc : XC) (x : Option Nat) (h : HS) (D : Ends) : WX := match x with
  | some j => wAs K (.ref (c.C n)) j (tSu c rf n xc (some j) h) c.W D
  | none => wOnly K (.ref (c.C n)) (tSu c rf n xc none h) c.W D
theorem try_core {n : Nat} {xc : XC} {x : Option Nat} {body : MS} {h : HS} (O : XS X c k) (hn : c.P.xs.lookup n = some xc) (hp : n ∈ c.P.xp) (hx : ∀ j, x = some j → ∀ p ∈ c.io, p.1 ≠ j) (q : tM c rf (.tryx body n x h) D σ H) :
    tM { c with W := wTry X.K c rf n xc x h D } rf body D σ H := by
  obtain ⟨Fr, G, r, S, q⟩ := q
  refine ⟨Fr, G, r, S, ?_⟩
  have q : ResS c Fr G (match mev c rf body r with
    | .ok f r1 => Out.ok f r1
    | .err n' fs r1 => if n' = n then (match c.P.xs.lookup n with
        | some xc => if hotOk r1 x then (match h.ev xc fs rf (hotE r1 x) with
          | some (f, r2) => .ok f (hotE r2 x)
          | none => .stk) else .stk
        | none => .stk) else (match c.P.xs.lookup n' with
        | some xm => if c.P.xp.contains n' && xm.apart n then .err n' fs r1 else .stk
        | none => .stk)
    | .stk => .stk) (SEnd c rf D Fr G) := q
  show ResS { c with W := wTry X.K c rf n xc x h D } Fr G (mev c rf body r) _
  cases e : mev c rf body r with
  | stk => rw [e] at q; exact q
  | ok f r1 => rw [e] at q; exact q
  | err n' fs r1 =>
    rw [e] at q
    dsimp only at q
    intro σ' H' G' dx S' g xr
    have xr : XR c n' fs dx G' H' := xr
    by_cases hnn : n' = n
    · subst hnn
      rw [if_pos rfl, hn] at q
      dsimp only at q
      by_cases ho : hotOk r1 x = true
      case neg => rw [if_neg ho] at q; exact q.elim
      rw [if_pos ho] at q
      have T := O.xc n' xc hn hp
      have em : PySem.W.exmOne X.K (.ref (c.C n')) (.ref (c.C n')) = some true := exm_ok T.exC T.cls T.tyC T.self
      cases eh : h.ev xc fs rf (hotE r1 x) with
      | none => rw [eh] at q; exact q.elim
      | some p =>
        obtain ⟨f, r2⟩ := p
        rw [eh] at q
        have q : SEnd c rf D Fr G f (hotE r2 x) := q
        obtain ⟨hb, hc⟩ := hs_fl h eh
        cases x with
        | none =>
          refine ⟨true, em, fun _ a na => ⟨rfl, fs, Fr, G', r1, f, r2, ⟨S', xr, fun j e => (by cases e)⟩, eh, ?_⟩, fun z => (by cases z)⟩
          exact (HEnd.of (x := none) hx q hb hc).grow g
        | some j =>
          refine ⟨true, em, fun _ a na => ⟨rfl, fs, Fr, G', r1.set j .un, f, r2, ⟨S'.setUn (hx j rfl), xr, fun i e => ?_⟩, eh, ?_⟩, fun z => (by cases z)⟩
          · cases e
            refine List.getElem?_set_self ?_
            rw [← S'.len]
            exact of_decide_eq_true ho
          · exact (HEnd.of (x := some j) hx q hb hc).grow g
    · rw [if_neg hnn] at q
      cases en : c.P.xs.lookup n' with
      | none => rw [en] at q; exact q.elim
      | some xm =>
        rw [en] at q
        dsimp only at q
        by_cases hxp : (c.P.xp.contains n' && xm.apart n) = true
        case neg => rw [if_neg hxp] at q; exact q.elim
        rw [if_pos hxp] at q
        have T := O.xc n xc hn hp
        rw [Bool.and_eq_true] at hxp
        have em : PySem.W.exmOne X.K (.ref (c.C n')) (.ref (c.C n)) = some false := exm_ok T.exC T.cls T.tyC (T.sub n' xm en (by simpa using hxp.1) (of_decide_eq_true hxp.2))
        have w : c.W (.ref (c.C n')) dx σ' H' := q σ' H' G' dx S' g xr
        cases x with
        | none => exact ⟨false, em, fun z => (by cases z), fun _ => w⟩
        | some j => exact ⟨false, em, fun z => (by cases z), fun _ => w⟩
end
/-! ### the checker of statements -/
def isComp : Expr → Bool
  | .ListComp .. => true
  | .SetComp .. => true
  | .DictComp .. => true
  | _ => false
def isDisp : Expr → Bool
  | .Tuple .. => true
  | .List .. => true
  | _ => false
def isLst : MS → Bool
  | .nil => true
  | .seq _ _ => true
  | .scrub _ _ => true
  | .frz _ _ => true
  | _ => false
/-- y = [..] on one line -/
def swapOk (k : CkE) (y : Str) (py : Pos) : Expr → Bool
  | .ListComp _ _ scope pos => decide (k.names.lookup y = some .local) && (py.line == pos.line) && !(scope.names.any fun (n, k) => n == y && (k == .local || k == .cell))
  | _ => false
def sole : List Expr → Option Expr
  | [e] => some e
  | _ => none
theorem sole_of {tgs : List Expr} {tg : Expr} (h : sole tgs = some tg) : tgs = [tg] := by
  unfold sole at h
  split at h <;> cases h
  rfl
def swapNo (k : CkE) (y : Str) : Bool := match k.names.lookup y with
  | some .cell => true
  | _ => false
def isCompM : ME → Bool
  | .comp .. => true
  | _ => false
/-- the stores of a pair or a triple of names, and their order -/
def swC (k : CkE) (ts vs : List Expr) : Option (Option (List Str)) :=
  if !(ts.length == 2 || ts.length == 3) || vs.length != ts.length then some none
  else if vs.any fun | .Starred .. => true | _ => false then some none
  else if (ts.filterMap fun | .Name id pos => if k.names.lookup id == some .local && pos.line == (ts.head?.map (·.pos.line)).getD 0 then some id else none | _ => none).length != ts.length || (ts.filterMap fun | .Name id pos => if k.names.lookup id == some .local && pos.line == (ts.head?.map (·.pos.line)).getD 0 then some id else none | _ => none).eraseDups.length != (ts.filterMap fun | .Name id pos => if k.names.lookup id == some .local && pos.line == (ts.head?.map (·.pos.line)).getD 0 then some id else none | _ => none).length then some none
  else if vs.all (foldedForSure 8) then some none
  else if vs.all (constantsAlone 8) then none
  else some (some (ts.filterMap fun | .Name id pos => if k.names.lookup id == some .local && pos.line == (ts.head?.map (·.pos.line)).getD 0 then some id else none | _ => none))
def argsOf : ME → ME
  | .op .tup a => a
  | _ => .never
def namesOf : List Expr → Option (List Str)
  | [] => some []
  | .Name x _ :: r => (namesOf r).map (x :: ·)
  | _ => none
/-- the slots of plain names -/
def slsOf : MG → Option (List Nat)
  | .nil => some []
  | .cons (.sl j) r => (slsOf r).map (j :: ·)
  | _ => none
def ckPar (g : MG) (e : ME) (fa : Ck) (k : CkE) (es vs : List Expr) : Bool := match swC k es vs with
  | some none => true
  | some (some ns) => (match slsOf g, ns with
    | some [i, j], [x, y] => decide (namesOf es = some [x, y]) && decide (k.N[i]? = some x) && decide (k.N[j]? = some y) && decide (k.names.lookup x = some .local) && decide (k.names.lookup y = some .local) && decide (i ≠ j) && !k.io.contains i && !k.io.contains j && noNm (argsOf e) && fa .a k vs
    | some [i, j, l], [x, y, z] => decide (namesOf es = some [x, y, z]) && decide (k.N[i]? = some x) && decide (k.N[j]? = some y) && decide (k.N[l]? = some z) && decide (k.names.lookup x = some .local) && decide (k.names.lookup y = some .local) && decide (k.names.lookup z = some .local) && decide (i ≠ j) && decide (i ≠ l) && decide (j ≠ l) && !k.io.contains i && !k.io.contains j && !k.io.contains l && noNm (argsOf e) && fa .a k vs
    | _, _ => false)
  | none => false
def ckAsg (g : MG) (e : ME) (f fa : Ck) (k : CkE) (tg ex : Expr) : Bool := match tg with
  | .Name y py => (match g with
    | .sl j => decide (k.N[j]? = some y) && rawOk k y && !k.io.contains j && !isNm e && f .v k [ex] && (!isComp ex || swapNo k y || (isCompM e && swapOk k y py ex))
    | _ => false)
  | .Tuple es kk pt => (match g with
    | .tup g => chkG k (.tup g) [.Tuple es kk pt] && !isNm e && f .v k [ex] && (match ex with
      | .Tuple vs _ _ => ckPar g e fa k es vs
      | _ => true) && !isComp ex
    | _ => false)
  | _ => false
def ckSeti (j : Nat) (ke v : ME) (fk fv : Ck) (k : CkE) (tg ex : Expr) : Bool := match tg with
  | .Subscript (.Name x _) ix _ => vis k j x && plainIx ix && !isComp ex && ke.one && v.one && !isNm ke && !isNm v && fv .v k [ex] && fk .v k [ix]
  | _ => false
def augOk (op : Operator) (o : Op) : Bool := match op with
  | .Add => decide (o = .add)
  | .Sub => decide (o = .sub)
  | _ => false
def ckRz (fl : Option Str) (a : ME) (fa : Ck) (k : CkE) (es : List Expr) : Bool := match fl, es with
  | some _, [e] => noNm a && fa .a k [e]
  | none, [] => isNil a
  | _, _ => false
def ckTx (k : CkE) (xs : List (Nat × XC)) (xp : List Nat) (xc : XC) (h : HS) (sts : List Stmt) : Option Nat → Option Str → Bool
  | none, none => chkHS k xs xp xc none h sts
  | some j, some z => decide (k.N[j]? = some z) && decide (k.names.lookup z = some .local) && !k.io.contains j && chkHS k xs xp xc (some (j, z)) h sts
  | _, _ => false
def chkS (P : Prog) : MS → CkE → List Stmt → Bool
  | .nil => fun _ sts => (match sts with
    | [] => true
    | _ => false)
  | .seq s t => fun k sts => (match sts with
    | st :: rest => !isLst s && isLst t && chkS P s k [st] && chkS P t k rest
    | _ => false)
  | .asg g e => fun k sts => (match sts with
    | [.Assign tgs ex _] => (match sole tgs with
      | some tg => ckAsg g e (chk P e) (chk P (argsOf e)) k tg ex
      | none => false)
    | _ => false)
  | .par _ _ _ _ => fun _ _ => false
  | .expr e => fun k sts => (match sts with
    | [.Expr ex _] => e.one && !isNm e && !isComp ex && chk P e .v k [ex]
    | _ => false)
  | .aug o j e => fun k sts => (match sts with
    | [.AugAssign (.Name y _) op ex _] => decide (k.N[j]? = some y) && rawOk k y && !k.io.contains j && !isNm e && chk P e .v k [ex] && augOk op o
    | _ => false)
  | .seti j ke v => fun k sts => (match sts with
    | [.Assign tgs ex _] => (match sole tgs with
      | some tg => ckSeti j ke v (chk P ke) (chk P v) k tg ex
      | none => false)
    | _ => false)
  | .ret e => fun k sts => (match sts with
    | [.Return (some ex) _] => (match e, ex with
      | .nm j, .Name x _ => vis k j x && !k.io.contains j
      | e, ex => !isNm e && chk P e .v k [ex])
    | _ => false)
  | .retN => fun _ sts => (match sts with
    | [.Return none _] => true
    | _ => false)
  | .ife cc a b => fun k sts => (match sts with
    | [.If ct xs ys _] => isLst a && isLst b && chk P cc .t k [ct] && chkS P a k xs && chkS P b k ys
    | _ => false)
  | .for_ tg it body => fun k sts => (match sts with
    | [.For tg' iter bs [] _] => isLst body && !tg.isL && chkG k tg [tg'] && !isSet iter && chk P it (.s (isTup tg')) k [iter] && chkS P body k bs
    | _ => false)
  | .whl _ cc body => fun k sts => (match sts with
    | [.While ct bs [] _] => isLst body && chk P cc .t k [ct] && chkS P body k bs
    | _ => false)
  | .brk => fun _ sts => (match sts with
    | [.Break _] => true
    | _ => false)
  | .cont => fun _ sts => (match sts with
    | [.Continue _] => true
    | _ => false)
  | .pass => fun _ sts => (match sts with
    | [.Pass _] => true
    | _ => false)
  | .scrub js s => fun k sts => js.all (fun j => !k.io.contains j) && isLst s && chkS P s k sts
  | .frz js s => fun k sts => js.all (fun j => !k.io.contains j) && isLst s && chkS P s k sts
  | .raise n a => fun k sts => (match sts with
    | [.Raise (some (.Call (.Name y _) es [] _)) none _] => (match P.xs.lookup n with
      | some xc => decide (xc.name = y) && gl k y && P.xp.contains n && ckRz xc.fld a (chk P a) k es
      | none => false)
    | _ => false)
  | .tryx body n x h => fun k sts => (match sts with
    | [.Try bs hs [] [] _] => (match hs with
      | [.ExceptHandler (some (.Name y _)) nm (s0 :: sts') _] => isLst body && chkS P body k bs && (match P.xs.lookup n with
        | some xc => decide (xc.name = y) && gl k y && P.xp.contains n && isHL h && ckTx k P.xs P.xp xc h (s0 :: sts') x nm
        | none => false)
      | _ => false)
    | _ => false)
  | .never => fun _ sts => (match sts with
    | [_] => true
    | _ => false)
section
variable {P : Prog} {X : Cx} {c : Cfg} {k : CkE} {rf : Bool}
theorem noswap {ex : Expr} (h : isComp ex = false) (tg : Option Expr) (l : Nat) (env : PySem.Env) : swapsWith ex tg l env = pure false := by
  cases ex <;> first | rfl | cases h
theorem noswapS {tg ex : Expr} {l : Nat} {env : PySem.Env} (h : isComp ex = false) : swapsWithSole [tg] ex l env = pure false := noswap h (some tg) l env
theorem comp_asg (O : XS X c k) (hP : c.P = P) {own : List Nat} {tg : MG} {it cc e : ME} {ex : Expr} {j : Nat} {y : Str} {py spos : Pos} (h1 : k.N[j]? = some y) (h : ckComp own tg cc e (chk P it) (chk P cc) (chk P e) k ex = true) (hs : swapOk k y py ex = true) :
    PS X (.Assign [.Name y py] ex spos) (tAsg (tS c true (.comp own tg it cc e)) (gName j)) := by
  unfold ckComp at h
  split at h
  · rename_i elt tg' iter ifs scope pos
    simp only [Bool.and_eq_true, Bool.not_eq_true', List.all_eq_true] at h
    obtain ⟨⟨⟨⟨⟨⟨⟨⟨g1, g2⟩, g3⟩, g4⟩, g5⟩, g6⟩, g7⟩, g8⟩, g9⟩ := h
    have hs : (decide (k.names.lookup y = some .local) && (py.line == pos.line) && !(scope.names.any fun (n, k) => n == y && (k == .local || k == .cell))) = true := hs
    simp only [Bool.and_eq_true, decide_eq_true_eq, Bool.not_eq_true'] at hs
    obtain ⟨⟨s1, s2⟩, s3⟩ := hs
    refine ps_comp O.toXOk h1 s1 s2 s3 g1 (fun z => ?_) (fun j hj => by simpa using g2 j hj) g3 ((snd P it).s O.toXOk hP g6) (fun X' O' => pg_T O'.toXOk0 g4 g5) (fun X' O' => ?_) fun X' O' => pe_weak (((snd P e).v O' hP g9).2 g8)
    · subst z
      have g7 : isTt cc = true := g7
      unfold isTt at g7
      split at g7
      · subst g7; rfl
      · cases g7
    · match ifs, g7 with
      | [], g7 => exact pts_nil
      | [t], g7 => exact pts_one ((snd P cc).t O' hP g7)
      | _ :: _ :: _, g7 => cases g7
  · cases h
/-- one statement, or a list of them -/
structure SndS (P : Prog) (m : MS) : Prop where
  one : ∀ {X : Cx} {c : Cfg} {k : CkE} {rf : Bool} {st : Stmt}, XS X c k → c.P = P → isLst m = false → chkS P m k [st] = true → PS X st (tM c rf m)
  all : ∀ {X : Cx} {c : Cfg} {k : CkE} {rf : Bool} {sts : List Stmt}, XS X c k → c.P = P → isLst m = true → chkS P m k sts = true → PSs X sts (tM c rf m)
theorem swapNo_of (O : XOk X c k) {y : Str} (h : swapNo k y = true) {py : Pos} {l : Nat} {ex : Expr} : swapsWith ex (some (.Name y py)) l X.env = pure false := by
  have ky : X.env.kindOf y = some .cell := by
    show X.env.scope.names.lookup y = _
    rw [O.nm]
    unfold swapNo at h
    split at h
    · assumption
    · cases h
  cases ex <;> first
    | rfl
    | (unfold swapsWith
       simp only [ky]
       have e : (some NameKind.cell == some NameKind.local) = false := rfl
       simp only [e, Bool.and_false, Bool.false_and]
       try rfl)
theorem raw_at (O : XOk0 X c k) {y : Str} (h : rawOk k y = true) : Loc X.env.scope y ∧ (X.fn y = true ∨ X.env.scope.names.lookup y = some .local) := O.raw y (rawOk_of h)
theorem swC_of (O : XOk X c k) {ts vs : List Expr} {x : Option (List Str)} (h : swC k ts vs = some x) {kt pt k2 p2} : swappedStores [.Tuple ts kt pt] (.Tuple vs k2 p2) X.env = pure x := by
  have hb : X.env.blockKind = .function := by unfold Env.blockKind; rw [O.kind]; rfl
  have hk : ∀ id, X.env.kindOf id = k.names.lookup id := fun id => by
    show X.env.scope.names.lookup id = _
    rw [O.nm]
  unfold swappedStores
  unfold swC at h
  simp only [hb, hk]
  split at h
  · rename_i z
    cases h
    exact if_pos (by simpa using z)
  rename_i z
  refine Eq.trans (if_neg (by simpa using z)) ?_
  split at h
  · rename_i z
    cases h
    exact if_pos z
  rename_i z
  refine Eq.trans (if_neg z) ?_
  split at h
  · rename_i z
    cases h
    exact if_pos z
  rename_i z
  refine Eq.trans (if_neg z) ?_
  split at h
  · rename_i z
    cases h
    exact if_pos z
  rename_i z
  refine Eq.trans (if_neg z) ?_
  split at h
  · cases h
  rename_i z
  refine Eq.trans (if_neg z) ?_
  cases h
  rfl
theorem swC_len {ts vs : List Expr} {ns : List Str} (h : swC k ts vs = some (some ns)) : vs.length = ts.length := by
  unfold swC at h
  split at h
  · cases h
  · rename_i z
    simp only [Bool.or_eq_true, Bool.not_eq_true', bne_iff_ne, ne_eq, not_or, Decidable.not_not] at z
    exact z.2
theorem names1 {es : List Expr} {a : Str} {l : List Str} (h : namesOf es = some (a :: l)) : ∃ p r, es = .Name a p :: r ∧ namesOf r = some l := by
  cases es with
  | nil => cases h
  | cons e r =>
    cases e <;> try (cases h; done)
    rename_i b p
    have h : (namesOf r).map (b :: ·) = some (a :: l) := h
    cases e : namesOf r with
    | none => rw [e] at h; cases h
    | some l => rw [e] at h; cases h; exact ⟨p, r, rfl, e⟩
theorem names0 {es : List Expr} (h : namesOf es = some []) : es = [] := by
  cases es with
  | nil => rfl
  | cons e r =>
    cases e <;> try (cases h; done)
    rename_i b p
    have h : (namesOf r).map (b :: ·) = some [] := h
    cases e : namesOf r <;> rw [e] at h <;> cases h
theorem names2 {es : List Expr} {x y : Str} (h : namesOf es = some [x, y]) : ∃ px py, es = [.Name x px, .Name y py] := by
  obtain ⟨p, r, e1, h1⟩ := names1 h
  obtain ⟨q, r2, e2, h2⟩ := names1 h1
  have e3 := names0 h2
  subst e3 e2 e1
  exact ⟨_, _, rfl⟩
theorem names3 {es : List Expr} {x y z : Str} (h : namesOf es = some [x, y, z]) : ∃ px py pz, es = [.Name x px, .Name y py, .Name z pz] := by
  obtain ⟨p, r, e1, h1⟩ := names1 h
  obtain ⟨q, r2, e2, h2⟩ := names1 h1
  obtain ⟨q', r3, e3, h3⟩ := names1 h2
  have e4 := names0 h3
  subst e4 e3 e2 e1
  exact ⟨_, _, _, rfl⟩
theorem sls1 {g : MG} {a : Nat} {l : List Nat} (h : slsOf g = some (a :: l)) : ∃ r, g = .cons (.sl a) r ∧ slsOf r = some l := by
  cases g with
  | cons e r =>
    cases e <;> try (cases h; done)
    rename_i b
    have h : (slsOf r).map (b :: ·) = some (a :: l) := h
    cases e : slsOf r with
    | none => rw [e] at h; cases h
    | some l => rw [e] at h; cases h; exact ⟨r, rfl, e⟩
  | _ => cases h
theorem sls0 {g : MG} (h : slsOf g = some []) : g = .nil := by
  cases g with
  | nil => rfl
  | cons e r =>
    cases e <;> try (cases h; done)
    rename_i b
    have h : (slsOf r).map (b :: ·) = some [] := h
    cases e : slsOf r <;> rw [e] at h <;> cases h
  | _ => cases h
theorem sls2 {g : MG} {i j : Nat} (h : slsOf g = some [i, j]) : g = .cons (.sl i) (.cons (.sl j) .nil) := by
  obtain ⟨r, e1, h1⟩ := sls1 h
  obtain ⟨r2, e2, h2⟩ := sls1 h1
  have e4 := sls0 h2
  subst e4 e2 e1
  rfl
theorem sls3 {g : MG} {i j l : Nat} (h : slsOf g = some [i, j, l]) : g = .cons (.sl i) (.cons (.sl j) (.cons (.sl l) .nil)) := by
  obtain ⟨r, e1, h1⟩ := sls1 h
  obtain ⟨r2, e2, h2⟩ := sls1 h1
  obtain ⟨r3, e3, h3⟩ := sls1 h2
  have e4 := sls0 h3
  subst e4 e3 e2 e1
  rfl
theorem argsOf_tup {e : ME} {es : List Expr} (ha : ArgsOk c X (argsOf e) es) (hn : noNm (argsOf e) = true) : ∃ a, e = .op .tup a ∧ argsOf e = a := by
  unfold argsOf at hn ⊢
  split at hn
  · exact ⟨_, rfl, rfl⟩
  · cases hn
theorem tup_vals {σ : L2.St} {H : Hp} {g : MG} {a : ME} {D : Ends} (hn : noNm a = true) (h : tM c rf (.asg (.tup g) (.op .tup a)) D σ H) : tA c a σ H fun vs H1 => ∃ (Fr G1 : Hp) (r1 r2 : Env) (ds : List VL.D), SR c.K c.io Fr G1 σ H1 r1 ∧ RVs c.K G1 ds vs ∧ MG.bind.binds g ds r1 = some r2 ∧ ∀ σ' H' , SR c.K c.io Fr G1 σ' H' r2 → D.nx σ' H' := by
  obtain ⟨Fr, G, r, S, h⟩ := h
  refine ⟨Fr, G, r, S, ?_⟩
  have q : Res c Fr G σ (evl c (.op .tup a) r) _ := ((ResS.bind h).at σ)
  refine (op_res q).mono fun ds r1 ⟨ds', d, e1, e2, q⟩ vs H1 G1 S1 g1 av => ?_
  obtain rfl := fresh_same hn e1
  have e2 : (if ds'.length ≤ line then some (VL.D.tup ds') else none) = some d := e2
  have e2 : d = VL.D.tup ds' := by
    split at e2
    · cases e2; rfl
    · cases e2
  subst e2
  have rv := APs.rvs hn av
  dsimp only at q
  have e3 : asgE (.tup g) ((ME.op .tup a).fr c.P) (.tup ds') r1 = MG.bind.binds g ds' r1 := by cases (ME.op .tup a).fr c.P <;> rfl
  rw [e3] at q
  cases e4 : MG.bind.binds g ds' r1 with
  | none => rw [e4] at q; exact q.elim
  | some r2 =>
    rw [e4] at q
    exact ⟨Fr, G1, r1, r2, ds', S1, rv, e4, fun σ' H' S' => q σ' H' G1 S' g1⟩
theorem par_core {σ : L2.St} {H : Hp} {i j : Nat} {a : ME} {D : Ends} (hn : noNm a = true) (hi : ∀ p ∈ c.io, p.1 ≠ i) (hj : ∀ p ∈ c.io, p.1 ≠ j) (h : tM c rf (.asg (.tup (.cons (.sl i) (.cons (.sl j) .nil))) (.op .tup a)) D σ H) : tPar i j (tA c a) D σ H := by
  refine tA.imp (tup_vals hn h) fun vs H1 ⟨Fr, G1, r1, r2, ds, S1, rv, e, q⟩ => ?_
  rcases ds with _ | ⟨d1, _ | ⟨d2, _ | ⟨_, _⟩⟩⟩
  · cases e
  · cases e
  · cases e
    obtain ⟨v, w, rfl, h1, h2⟩ : ∃ v w, vs = [v, w] ∧ RV c.K G1 d1 v ∧ RV c.K G1 d2 w := by
      obtain ⟨v, vr, rfl, h1, h2⟩ := rv
      obtain ⟨w, wr, rfl, h2, h3⟩ := h2
      cases h3
      exact ⟨v, w, rfl, h1, h2⟩
    exact ⟨v, w, rfl, q _ _ ((S1.setFz hi h1).setFz hj h2)⟩
  · cases e
/-- three names -/
def tPar3 (i j l : Nat) (ta : TA) : TS := fun D σ H => ta σ H fun vs H1 => ∃ u v w, vs = [u, v, w] ∧ D.nx (((σ.set i (some u)).set j (some v)).set l (some w)) H1
open PyProof.Rows in
theorem ps_par3 {i j l : Nat} {x y z : Str} {a b d : Expr} {ta : TA} {px py pz pt spos : Pos} {kt k2 pt2} (hc : X.calm = true) (hN : X.N.Nodup) (hi : X.N[i]? = some x) (hj : X.N[j]? = some y) (hl : X.N[l]? = some z) (hij : i ≠ j) (hil : i ≠ l) (hjl : j ≠ l)
    (hx : X.env.scope.names.lookup x = some .local) (hy : X.env.scope.names.lookup y = some .local) (hz : X.env.scope.names.lookup z = some .local) (ha : PA X [a, b, d] ta)
    (hw : swappedStores [.Tuple [.Name x px, .Name y py, .Name z pz] kt pt] (.Tuple [a, b, d] k2 pt2) X.env = pure (some [x, y, z]))
    (hs : swapsWithSole [.Tuple [.Name x px, .Name y py, .Name z pz] kt pt] (.Tuple [a, b, d] k2 pt2) spos.line X.env = pure false := by rfl) :
    PS X (.Assign [.Tuple [.Name x px, .Name y py, .Name z pz] kt pt] (.Tuple [a, b, d] k2 pt2) spos) (tPar3 i j l ta) := by
  refine ⟨fun pins s σ H D I h => ?_⟩
  rw [exec_Assign_arm]
  refine wpAny_bind (wpAny_standAt ?_)
  rw [hs]
  refine wpAny_bind (wpAny_pure ?_)
  rw [if_neg (by decide)]
  refine wpAny_bind (PyProof.Rows.Tuple_ (thn (ha.run _ pins s σ H _ I h) fun us s1 ⟨vs, H1, I1, r1, q1⟩ => ?_))
  obtain ⟨u, v, w, e1, q1⟩ := q1
  subst e1
  obtain ⟨u1, u2, u3, rfl, ru, rv, rw'⟩ : ∃ u1 u2 u3, us = [u1, u2, u3] ∧ RelV u u1 ∧ RelV v u2 ∧ RelV w u3 := by
    cases r1 with
    | cons p q =>
      cases q with
      | cons p' q' =>
        cases q' with
        | cons p'' q'' =>
          cases q''
          exact ⟨_, _, _, rfl, p, p', p''⟩
  refine wpAny_newObj_type ?_ (by show 3 ≤ sizeLine; decide)
  have I2 : Inv X pins σ H1 { s1 with heap := s1.heap.push { cls := .type "tuple", data := .seq [u1, u2, u3].toArray } } := I1.kept (t' := s1.toks) fun b o e => Heap.get?_push_of_some _ e
  rw [hw]
  refine wpAny_bind (wpAny_pure ?_)
  show wpAny (model X.prog X.w) X.A (do rule "assign.swapped-stores"; let items ← unpackItems (.ref s1.heap.objs.size) 3 none; assignInOrder [fun v => bindName X.env z v, fun v => bindName X.env y v, fun v => bindName X.env x v] items.reverse; pure Flow.next) _ _ _
  refine wpAny_bind (wpAny_rule (wpAny_bind (PyProof.Rows.unpackItems_tuple (items := #[u1, u2, u3]) (I.ok.hd hc) (IsTup.new s1.heap _) fun h' hx' => ?_)))
  have I3 := I2.kept (h' := h') (t' := s1.toks) fun b o e => hx' b o (Nat.ne_of_lt (Heap.lt_size e)) e
  show wpAny _ _ (assignInOrder [fun v => bindName X.env z v, fun v => bindName X.env y v, fun v => bindName X.env x v] [u3, u2, u1] >>= fun _ => pure Flow.next) _ _ _
  refine wpAny_bind (assignInOrder_cons (wpAny_bindName (store_ok I3 hN hl (.inl hz) rw' (fun s2 I4 => ?_) (.inr hz))))
  refine assignInOrder_cons (wpAny_bindName (store_ok I4 hN hj (.inl hy) rv (fun s3 I5 => ?_) (.inr hy)))
  refine assignInOrder_cons (wpAny_bindName (store_ok I5 hN hi (.inl hx) ru (fun s4 I6 => assignInOrder_nil (wpAny_pure ?_)) (.inr hx)))
  have e : (((σ.set l (some w)).set j (some v)).set i (some u)) = (((σ.set i (some u)).set j (some v)).set l (some w)) := by
    rw [List.set_comm (i := l) (j := j) _ _ (Ne.symm hjl), List.set_comm (i := l) (j := i) _ _ (Ne.symm hil), List.set_comm (i := j) (j := i) _ _ (Ne.symm hij)]
  rw [e] at I6
  exact ⟨_, H1, I6, q1⟩
theorem par3_core {σ : L2.St} {H : Hp} {i j l : Nat} {a : ME} {D : Ends} (hn : noNm a = true) (hi : ∀ p ∈ c.io, p.1 ≠ i) (hj : ∀ p ∈ c.io, p.1 ≠ j) (hl : ∀ p ∈ c.io, p.1 ≠ l) (h : tM c rf (.asg (.tup (.cons (.sl i) (.cons (.sl j) (.cons (.sl l) .nil)))) (.op .tup a)) D σ H) : tPar3 i j l (tA c a) D σ H := by
  refine tA.imp (tup_vals hn h) fun vs H1 ⟨Fr, G1, r1, r2, ds, S1, rv, e, q⟩ => ?_
  rcases ds with _ | ⟨d1, _ | ⟨d2, _ | ⟨d3, _ | ⟨_, _⟩⟩⟩⟩
  · cases e
  · cases e
  · cases e
  · cases e
    obtain ⟨u, v, w, rfl, h1, h2, h3⟩ : ∃ u v w, vs = [u, v, w] ∧ RV c.K G1 d1 u ∧ RV c.K G1 d2 v ∧ RV c.K G1 d3 w := by
      obtain ⟨v, vr, rfl, h1, h2⟩ := rv
      obtain ⟨w, wr, rfl, h2, h3⟩ := h2
      obtain ⟨w', wr, rfl, h3, h4⟩ := h3
      cases h4
      exact ⟨_, _, _, rfl, h1, h2, h3⟩
    exact ⟨u, v, w, rfl, q _ _ (((S1.setFz hi h1).setFz hj h2).setFz hl h3)⟩
  · cases e
theorem asg_s (O : XS X c k) (hP : c.P = P) {g : MG} {e : ME} {st : Stmt} (h : chkS P (.asg g e) k [st] = true) : PS X st (tM c rf (.asg g e)) := by
  cases st <;> try (cases h; done)
  rename_i tgs ex spos
  have h : (match sole tgs with
      | some tg => ckAsg g e (chk P e) (chk P (argsOf e)) k tg ex
      | none => false) = true := h
  cases hs : sole tgs with
  | none => rw [hs] at h; cases h
  | some tg =>
    rw [hs] at h
    obtain rfl := sole_of hs
    have h : ckAsg g e (chk P e) (chk P (argsOf e)) k tg ex = true := h
    unfold ckAsg at h
    split at h
    · rename_i y py
      split at h
      · rename_i j
        simp only [Bool.and_eq_true, decide_eq_true_eq, Bool.not_eq_true', Bool.or_eq_true] at h
        obtain ⟨⟨⟨⟨⟨h1, h2⟩, h3⟩, h4⟩, h5⟩, h6⟩ := h
        obtain ⟨q1, q2⟩ := raw_at O.toXOk0 h2
        have hio := io_out O.io h3
        cases hc : isComp ex with
        | false => exact psI (ps_set (by rw [O.N]; exact O.nd) (by rw [O.N]; exact h1) q1 (((snd P e).v O.toXOk hP h5).2 h4) (noswap hc _ _ _) q2) fun D σ H q => asg_core hio q
        | true =>
          rcases h6 with (z | z) | ⟨hm, hsw⟩
          · rw [hc] at z; cases z
          · exact psI (ps_set (by rw [O.N]; exact O.nd) (by rw [O.N]; exact h1) q1 (((snd P e).v O.toXOk hP h5).2 h4) (swapNo_of O.toXOk z) q2) fun D σ H q => asg_core hio q
          cases ex <;> try (cases hsw; done)
          rename_i elt gens scope pos
          cases e <;> try (cases hm; done)
          rename_i own tgm it cc e
          have h5 : ckComp own tgm cc e (chk P it) (chk P cc) (chk P e) k (.ListComp elt gens scope pos) = true := h5
          exact psI (comp_asg O hP h1 h5 hsw) fun D σ H q => asg_core hio q
      · cases h
    · rename_i es kk pt _ _
      split at h
      · rename_i g _ _
        simp only [Bool.and_eq_true, Bool.not_eq_true'] at h
        obtain ⟨⟨⟨⟨h1, h2⟩, h3⟩, h4⟩, h5⟩ := h
        have plain : swappedStores [.Tuple es kk pt] ex X.env = pure none → PS X (.Assign [.Tuple es kk pt] ex spos) (tM c rf (.asg (.tup g) e)) := fun z =>
          psI (ps_asg (pe_weak (((snd P e).v O.toXOk hP h3).2 h2)) (pg_T O.toXOk0 rfl h1) (noswapS h5) z rfl) fun D σ H q => asg_tup q
        cases ex <;> try exact plain rfl
        rename_i vs k2 p2 _
        have h4 : ckPar g e (chk P (argsOf e)) k es vs = true := h4
        unfold ckPar at h4
        split at h4
        · rename_i hsw
          exact plain (swC_of O.toXOk hsw)
        · rename_i ns hsw0
          have hsw := swC_of O.toXOk hsw0 (kt := kk) (pt := pt) (k2 := k2) (p2 := p2)
          split at h4
          · rename_i i j x y hg
            simp only [Bool.and_eq_true, decide_eq_true_eq, Bool.not_eq_true'] at h4
            obtain ⟨⟨⟨⟨⟨⟨⟨⟨⟨g1, g2⟩, g3⟩, g4⟩, g5⟩, g6⟩, g7⟩, g8⟩, g9⟩, g10⟩ := h4
            obtain ⟨px, py, rfl⟩ := names2 g1
            obtain rfl := sls2 hg
            have ha := (snd P (argsOf e)).a O.toXOk hP g10
            obtain ⟨a, rfl, ea⟩ : ∃ a, e = .op .tup a ∧ argsOf e = a := argsOf_tup ha g9
            rw [ea] at ha g9
            have hlen := swC_len hsw0
            obtain ⟨v1, v2, rfl⟩ : ∃ v1 v2, vs = [v1, v2] := by
              match vs, hlen with
              | [a, b], _ => exact ⟨a, b, rfl⟩
              | [], h => simp at h
              | [_], h => simp at h
              | _ :: _ :: _ :: _, h => simp at h
            exact psI (ps_par O.g.calm (by rw [O.N]; exact O.nd) (by rw [O.N]; exact g2) (by rw [O.N]; exact g3) g6 (by rw [O.nm]; exact g4) (by rw [O.nm]; exact g5) ha.pa hsw) fun D σ H q => par_core g9 (io_out O.io g7) (io_out O.io g8) q
          · rename_i i j l x y z hg
            simp only [Bool.and_eq_true, decide_eq_true_eq, Bool.not_eq_true'] at h4
            obtain ⟨⟨⟨⟨⟨⟨⟨⟨⟨⟨⟨⟨⟨⟨g1, g2⟩, g3⟩, g3'⟩, g4⟩, g5⟩, g5'⟩, g6⟩, g6'⟩, g6''⟩, g7⟩, g8⟩, g8'⟩, g9⟩, g10⟩ := h4
            obtain ⟨px, py, pz, rfl⟩ := names3 g1
            obtain rfl := sls3 hg
            have ha := (snd P (argsOf e)).a O.toXOk hP g10
            obtain ⟨a, rfl, ea⟩ : ∃ a, e = .op .tup a ∧ argsOf e = a := argsOf_tup ha g9
            rw [ea] at ha g9
            have hlen := swC_len hsw0
            obtain ⟨v1, v2, v3, rfl⟩ : ∃ v1 v2 v3, vs = [v1, v2, v3] := by
              match vs, hlen with
              | [a, b, c], _ => exact ⟨a, b, c, rfl⟩
              | [], h => simp at h
              | [_], h => simp at h
              | [_, _], h => simp at h
              | _ :: _ :: _ :: _ :: _, h => simp at h
            exact psI (ps_par3 O.g.calm (by rw [O.N]; exact O.nd) (by rw [O.N]; exact g2) (by rw [O.N]; exact g3) (by rw [O.N]; exact g3') g6 g6' g6'' (by rw [O.nm]; exact g4) (by rw [O.nm]; exact g5) (by rw [O.nm]; exact g5') ha.pa hsw) fun D σ H q => par3_core g9 (io_out O.io g7) (io_out O.io g8) (io_out O.io g8') q
          · cases h4
        · cases h4
      · cases h
    · cases h
theorem aug_s (O : XS X c k) (hP : c.P = P) {o : Op} {j : Nat} {e : ME} {st : Stmt} (h : chkS P (.aug o j e) k [st] = true) : PS X st (tM c rf (.aug o j e)) := by
  cases st <;> try (cases h; done)
  rename_i tg op ex pos
  cases tg <;> try (cases h; done)
  rename_i y py
  have h : (decide (k.N[j]? = some y) && rawOk k y && !k.io.contains j && !isNm e && chk P e .v k [ex] && augOk op o) = true := h
  simp only [Bool.and_eq_true, decide_eq_true_eq, Bool.not_eq_true'] at h
  obtain ⟨⟨⟨⟨⟨h1, h2⟩, h3⟩, h4⟩, h5⟩, h6⟩ := h
  obtain ⟨q1, q2⟩ := raw_at O.toXOk0 h2
  have hio := io_out O.io h3
  have he := pe_weak (((snd P e).v O.toXOk hP h5).2 h4)
  cases op <;> try (cases h6; done)
  · obtain rfl := of_decide_eq_true h6
    exact psI (ps_aug (by rw [O.N]; exact O.nd) (by rw [O.N]; exact h1) q1 he ip_add q2) fun D σ H q => aug_core aug_add hio q
  · obtain rfl := of_decide_eq_true h6
    exact psI (ps_aug (by rw [O.N]; exact O.nd) (by rw [O.N]; exact h1) q1 he ip_sub q2) fun D σ H q => aug_core aug_sub hio q
theorem seti_s (O : XS X c k) (hP : c.P = P) {j : Nat} {ke v : ME} {st : Stmt} (h : chkS P (.seti j ke v) k [st] = true) : PS X st (tM c rf (.seti j ke v)) := by
  cases st <;> try (cases h; done)
  rename_i tgs ex spos
  have h : (match sole tgs with
      | some tg => ckSeti j ke v (chk P ke) (chk P v) k tg ex
      | none => false) = true := h
  cases hs : sole tgs with
  | none => rw [hs] at h; cases h
  | some tg =>
    rw [hs] at h
    obtain rfl := sole_of hs
    have h : ckSeti j ke v (chk P ke) (chk P v) k tg ex = true := h
    unfold ckSeti at h
    split at h
    · rename_i x xp ix tpos _ _
      simp only [Bool.and_eq_true, Bool.not_eq_true'] at h
      obtain ⟨⟨⟨⟨⟨⟨⟨⟨h1, h2⟩, h3⟩, h4⟩, h5⟩, h6⟩, h7⟩, h8⟩, h9⟩ := h
      exact psI (ps_asg (pe_weak (((snd P v).v O.toXOk hP h8).2 h7)) (pg_sub (pe_name O.toXOk0 h1) (pe_weak (((snd P ke).v O.toXOk hP h9).2 h6)) (by rw [← O.K]; exact set_LD O.g.toXG0) (by cases ix <;> first | (intro _; rfl) | cases h2)) (noswapS h3) (by cases ex <;> rfl) rfl) fun D σ H q => seti_core h5 h4 q
    · cases h
theorem raise_core {n : Nat} {xc : XC} {a : ME} (O : XS X c k) (hn : c.P.xs.lookup n = some xc) (hp : n ∈ c.P.xp) {D : Ends} {σ : L2.St} {H : Hp} (h : tM c rf (.raise n a) D σ H) : tA c a σ H fun vs H1 => ∃ (G1 : Hp) (Fr : Hp) (r1 : Env) (ds : List VL.D), SR c.K c.io Fr G1 σ H1 r1 ∧ APs c.K G1 σ a ds vs ∧ ∀ (H' G' : Hp) (dx : Option Addr), SR c.K c.io Fr G' σ H' r1 → Same G1 G' → XR c n ds dx G' H' → c.W (.ref (c.C n)) dx σ H' := by
  obtain ⟨Fr, G, r, S, h⟩ := h
  refine ⟨Fr, G, r, S, ((ResS.bind h).at σ).mono fun ds r1 q vs H1 G1 S1 g1 av => ⟨G1, Fr, r1, ds, S1, av, fun H' G' dx S' g' xr => ?_⟩⟩
  have q : ResS c Fr G (Out.err n ds r1 : Out Fl) _ := q
  exact q σ H' G' dx S' (g1.trans g') xr
theorem ckRz_of {fl : Option Str} {a : ME} {fa : Ck} {es : List Expr} (h : ckRz fl a fa k es = true) : (∃ f e, fl = some f ∧ es = [e] ∧ noNm a = true ∧ fa .a k [e] = true) ∨ (fl = none ∧ es = [] ∧ isNil a = true) := by
  unfold ckRz at h
  split at h
  · simp only [Bool.and_eq_true] at h
    exact .inl ⟨_, _, rfl, rfl, h.1, h.2⟩
  · exact .inr ⟨rfl, rfl, h⟩
  · cases h
theorem raise_s (O : XS X c k) (hP : c.P = P) {n : Nat} {a : ME} {st : Stmt} (h : chkS P (.raise n a) k [st] = true) : PS X st (tM c rf (.raise n a)) := by
  cases st <;> try (cases h; done)
  rename_i e1 e2 pos
  cases e1 with
  | none => cases h
  | some e1 =>
  cases e2 with
  | some _ =>
    cases e1 <;> try (cases h; done)
    rename_i f es kw _
    cases f <;> try (cases h; done)
    cases kw <;> cases h
  | none =>
  cases e1 <;> try (cases h; done)
  rename_i f es kw cpos
  cases f <;> try (cases h; done)
  rename_i y py
  cases kw with
  | cons _ _ => cases h
  | nil =>
  have h : (match P.xs.lookup n with
      | some xc => decide (xc.name = y) && gl k y && P.xp.contains n && ckRz xc.fld a (chk P a) k es
      | none => false) = true := h
  cases hn : P.xs.lookup n with
  | none => rw [hn] at h; cases h
  | some xc =>
    rw [hn] at h
    have h : (decide (xc.name = y) && gl k y && P.xp.contains n && ckRz xc.fld a (chk P a) k es) = true := h
    simp only [Bool.and_eq_true, decide_eq_true_eq] at h
    obtain ⟨⟨⟨rfl, h1⟩, hp⟩, h2⟩ := h
    have hn' : c.P.xs.lookup n = some xc := by rw [hP]; exact hn
    have hp' : n ∈ c.P.xp := by rw [hP]; simpa using hp
    have T := O.xc n xc hn' hp'
    have hg := O.gl0 (gl_of h1)
    rcases ckRz_of h2 with ⟨f, e, hf, rfl, h2, h3⟩ | ⟨hf, rfl, hnil⟩
    · have ha := (snd P a).a O.toXOk hP h3
      obtain ⟨a1, rfl, _, _⟩ := ha.single
      have ha' := ha
      obtain ⟨_, _, s1, s2⟩ := ha
      refine psI (ps_raise O.g.calm O.tk (pmk_one T hf hg O.room (passes_call O.tk fun _ _ _ _ z => z.elim) ha'.pa (s1 _))) fun D σ H q => ?_
      refine tA.imp (raise_core O hn' hp' q) fun vs H1 ⟨G1, Fr, r1, ds, S1, av, q⟩ => ?_
      have hnn : isNm a1 = false := by cases a1 <;> first | rfl | cases h2
      rcases ds with _ | ⟨d, _ | ⟨_, _⟩⟩
      · cases a1 <;> exact av.elim
      · rcases vs with _ | ⟨v, _ | ⟨_, _⟩⟩
        · cases a1 <;> exact av.elim
        · have rv : RV c.K G1 d v := by
            cases a1 <;> first | exact av.1 | cases hnn
          exact ⟨v, rfl, fun dd hd => q _ G1 (some dd) (S1.grow hd) (Same.refl _) (.inr ⟨d, dd, v, f, rfl, rfl, by rw [O.fl, hn']; exact hf, upd_same, rv⟩)⟩
        · cases a1 <;> cases av.2.2
      · rcases vs with _ | ⟨v, vs⟩
        · cases a1 <;> exact av.elim
        · cases a1 <;> cases av.2.1
    · obtain rfl : a = .nil := by cases a <;> first | rfl | cases hnil
      refine psI (ps_raise O.g.calm O.tk (pmk_zero T hf hg)) fun D σ H q => ?_
      obtain ⟨Fr, G, r, S, q⟩ := q
      have q : ResS c Fr G (Out.err n [] r : Out Fl) _ := q
      exact q σ H G none S (Same.refl _) (.inl ⟨rfl, rfl⟩)
theorem xs_tr (O : XS X c k) (pn : List (Addr × Obj)) (xe : Value → Shared → Prop) (W : WX) (tk : Takes (X.tr pn xe) W) (own : PassesOwn (model X.prog X.w) X.A X.env xe) : XS (X.tr pn xe) { c with W := W } k where
  g := ⟨⟨O.g.guards, O.g.units, O.g.sys⟩, O.g.calm⟩
  K := O.K
  N := O.N
  nd := O.nd
  nm := O.nm
  raw := O.raw
  io := O.io
  tk := tk
  bt := O.bt
  gtk := O.gtk
  gl := O.gl
  gd := O.gd
  calls := fun f fd x h1 h2 h3 => O.calls f fd x h1 h2 h3
  kind := O.kind
  own := own
  room := O.room
  stk := O.stk
  frm := O.frm
  xc := O.xc
  fl := O.fl
theorem try_s (O : XS X c k) (hP : c.P = P) {n : Nat} {x : Option Nat} {body : MS} {hs : HS} {st : Stmt} (ih : ∀ {X' : Cx} {c' : Cfg} {sts : List Stmt}, XS X' c' k → c'.P = P → isLst body = true → chkS P body k sts = true → PSs X' sts (tM c' rf body)) (h : chkS P (.tryx body n x hs) k [st] = true) : PS X st (tM c rf (.tryx body n x hs)) := by
  cases st <;> try (cases h; done)
  rename_i bs hds els fin pos
  rcases els with _ | ⟨_, _⟩ <;> try (cases h; done)
  rcases fin with _ | ⟨_, _⟩ <;> try (cases h; done)
  rcases hds with _ | ⟨hd, _ | ⟨_, _⟩⟩
  · cases h
  · obtain ⟨ty, nm, sts, hp⟩ := hd
    cases ty with
    | none => cases h
    | some ty =>
    cases ty <;> try (cases h; done)
    rename_i y yp
    rcases sts with _ | ⟨s0, sts⟩
    · cases h
    have h : (isLst body && chkS P body k bs && (match P.xs.lookup n with
        | some xc => decide (xc.name = y) && gl k y && P.xp.contains n && isHL hs && ckTx k P.xs P.xp xc hs (s0 :: sts) x nm
        | none => false)) = true := h
    simp only [Bool.and_eq_true] at h
    obtain ⟨⟨h1, h2⟩, h3⟩ := h
    cases hn : P.xs.lookup n with
    | none => rw [hn] at h3; cases h3
    | some xc =>
      rw [hn] at h3
      simp only [Bool.and_eq_true, decide_eq_true_eq] at h3
      obtain ⟨⟨⟨⟨rfl, h4⟩, hp⟩, h5⟩, h6⟩ := h3
      have hn' : c.P.xs.lookup n = some xc := by rw [hP]; exact hn
      have hp' : n ∈ c.P.xp := by rw [hP]; simpa using hp
      have T := O.xc n xc hn' hp'
      have hnames : Names X xc.name (.ref (c.C n)) := ⟨O.gl0 (gl_of h4), T.dbg, .inl T.nm⟩
      have hb : ∀ (W : WX) (pn : List (Addr × Obj)) (xe : Value → Shared → Prop), Takes (X.tr pn xe) W → PassesOwn (model X.prog X.w) X.A X.env xe → PSs (X.tr pn xe) bs (tM { c with W := W } rf body) := fun W pn xe tk own => ih (xs_tr O pn xe W tk own) hP h1 h2
      unfold ckTx at h6
      split at h6
      · refine psI (ps_try_only (tb := fun W => tM { c with W := W } rf body) (ts := tSu c rf n xc none hs) O.stk O.frm hnames O.tk hb fun a oe cls d pn hz hf => su_ps O hn' hp' (en := none) rfl h5 (by rw [hP]; exact h6) a oe cls d pn hz hf) fun D σ H q => ?_
        exact try_core O hn' hp' (fun j e => by cases e) q
      · rename_i j z
        simp only [Bool.and_eq_true, decide_eq_true_eq, Bool.not_eq_true'] at h6
        obtain ⟨⟨⟨g1, g2⟩, g3⟩, g4⟩ := h6
        refine psI (ps_try_as (tb := fun W => tM { c with W := W } rf body) (ts := tSu c rf n xc (some j) hs) O.stk O.frm (by rw [O.N]; exact O.nd) (by rw [O.N]; exact g1) (by show X.env.scope.names.lookup z = _; rw [O.nm]; exact g2) hnames O.tk hb fun a oe cls d pn hz hf => su_ps O hn' hp' (en := some (j, z)) rfl h5 (by rw [hP]; exact g4) a oe cls d pn hz hf) fun D σ H q => ?_
        exact try_core O hn' hp' (fun i e => by cases e; exact io_out O.io g3) q
      · cases h6
  · obtain ⟨ty, nm, sts, hp⟩ := hd
    cases ty with
    | none => cases h
    | some ty =>
      cases ty <;> try (cases h; done)
      cases sts <;> cases h
theorem sndS (P : Prog) : ∀ m : MS, SndS P m := by
  intro m
  induction m with
  | nil =>
    refine ⟨fun _ _ z => (by cases z), fun {X c k rf sts} O hP _ h => ?_⟩
    cases sts with
    | nil => exact pssI pss_nil fun D σ H q => tM_nil q
    | cons _ _ => cases h
  | seq s t ihs iht =>
    refine ⟨fun _ _ z => (by cases z), fun {X c k rf sts} O hP _ h => ?_⟩
    cases sts with
    | nil => cases h
    | cons st rest =>
      have h : (!isLst s && isLst t && chkS P s k [st] && chkS P t k rest) = true := h
      simp only [Bool.and_eq_true, Bool.not_eq_true'] at h
      obtain ⟨⟨⟨h1, h2⟩, h3⟩, h4⟩ := h
      exact pssI (pss_cons (ihs.one (rf := rf) O hP h1 h3) (iht.all (rf := rf) O hP h2 h4)) fun D σ H q => tM_seq q
  | asg g e => exact ⟨fun O hP _ h => asg_s O hP h, fun _ _ z => (by cases z)⟩
  | par i j a b => exact ⟨fun _ _ _ h => (by cases h), fun _ _ z => (by cases z)⟩
  | expr e =>
    refine ⟨fun {X c k rf st} O hP _ h => ?_, fun _ _ z => (by cases z)⟩
    cases st <;> try (cases h; done)
    have h : (e.one && !isNm e && !isComp _ && chk P e .v k [_]) = true := h
    simp only [Bool.and_eq_true, Bool.not_eq_true'] at h
    obtain ⟨⟨⟨h1, h2⟩, h3⟩, h4⟩ := h
    exact psI (ps_expr (((snd P e).v O.toXOk hP h4).2 h2) (noswap h3 _ _ _)) fun D σ H q => expr_core h1 q
  | aug o j e => exact ⟨fun O hP _ h => aug_s O hP h, fun _ _ z => (by cases z)⟩
  | seti j ke v => exact ⟨fun O hP _ h => seti_s O hP h, fun _ _ z => (by cases z)⟩
  | ret e =>
    refine ⟨fun {X c k rf st} O hP _ h => ?_, fun _ _ z => (by cases z)⟩
    cases st <;> try (cases h; done)
    rename_i ex pos
    cases ex with
    | none => cases h
    | some ex =>
      by_cases hn : ∃ j, e = .nm j
      · obtain ⟨j, rfl⟩ := hn
        cases ex <;> try (cases h; done)
        have h : (vis k j _ && !k.io.contains j) = true := h
        simp only [Bool.and_eq_true, Bool.not_eq_true'] at h
        exact psI (ps_ret (pe_name O.toXOk0 h.1)) fun D σ H q => ret_nm (io_out O.io h.2) q
      · have hm : isNm e = false := by cases e <;> first | rfl | exact absurd ⟨_, rfl⟩ hn
        have h : (!isNm e && chk P e .v k [ex]) = true := by cases e <;> first | exact h | exact absurd ⟨_, rfl⟩ hn
        simp only [Bool.and_eq_true, Bool.not_eq_true'] at h
        exact psI (ps_ret (((snd P e).v O.toXOk hP h.2).2 hm)) fun D σ H q => ret_core hm q
  | retN =>
    refine ⟨fun {X c k rf st} O hP _ h => ?_, fun _ _ z => (by cases z)⟩
    cases st <;> try (cases h; done)
    rename_i ex pos
    cases ex with
    | some ex => cases h
    | none =>
      refine psI ps_retN fun D σ H q => ?_
      obtain ⟨Fr, G, r, S, q⟩ := q
      refine q .non σ H G S (Same.refl _) ?_
      unfold RetV
      rw [if_neg (by cases rf <;> exact Bool.false_ne_true)]
      rfl
  | ife cc a b iha ihb =>
    refine ⟨fun {X c k rf st} O hP _ h => ?_, fun _ _ z => (by cases z)⟩
    cases st <;> try (cases h; done)
    have h : (isLst a && isLst b && chk P cc .t k [_] && chkS P a k _ && chkS P b k _) = true := h
    simp only [Bool.and_eq_true] at h
    obtain ⟨⟨⟨⟨h1, h2⟩, h3⟩, h4⟩, h5⟩ := h
    exact psI (ps_if ((snd P cc).t O.toXOk hP h3) (iha.all (rf := rf) O hP h1 h4) (ihb.all (rf := rf) O hP h2 h5)) fun D σ H q => if_core q
  | for_ tg it body ih =>
    refine ⟨fun {X c k rf st} O hP _ h => ?_, fun _ _ z => (by cases z)⟩
    cases st <;> try (cases h; done)
    rename_i tg' iter bs els pos
    cases els with
    | cons _ _ => cases h
    | nil =>
      have h : (isLst body && !tg.isL && chkG k tg [tg'] && !isSet iter && chk P it (.s (isTup tg')) k [iter] && chkS P body k bs) = true := h
      simp only [Bool.and_eq_true, Bool.not_eq_true'] at h
      obtain ⟨⟨⟨⟨⟨h1, h2⟩, h3⟩, h4⟩, h5⟩, h6⟩ := h
      obtain ⟨wi, p, hwi⟩ := (snd P it).s O.toXOk hP h5
      exact psI (ps_for O.own O.g.calm p (pg_T O.toXOk0 h2 h3) (ih.all (rf := rf) O hP h1 h6) (fun x => by cases iter <;> first | rfl | cases h4)) fun D σ H q => for_core hwi q
  | whl n cc body ih =>
    refine ⟨fun {X c k rf st} O hP _ h => ?_, fun _ _ z => (by cases z)⟩
    cases st <;> try (cases h; done)
    rename_i ct bs els pos
    cases els with
    | cons _ _ => cases h
    | nil =>
      have h : (isLst body && chk P cc .t k [ct] && chkS P body k bs) = true := h
      simp only [Bool.and_eq_true] at h
      obtain ⟨⟨h1, h3⟩, h4⟩ := h
      exact psI (ps_while O.own ((snd P cc).t O.toXOk hP h3) (ih.all (rf := rf) O hP h1 h4)) fun D σ H q => whl_core q
  | brk =>
    refine ⟨fun {X c k rf st} O hP _ h => ?_, fun _ _ z => (by cases z)⟩
    cases st <;> try (cases h; done)
    refine psI ps_break fun D σ H q => ?_
    obtain ⟨Fr, G, r, S, q⟩ := q
    exact q σ H G S (Same.refl _)
  | cont =>
    refine ⟨fun {X c k rf st} O hP _ h => ?_, fun _ _ z => (by cases z)⟩
    cases st <;> try (cases h; done)
    refine psI ps_continue fun D σ H q => ?_
    obtain ⟨Fr, G, r, S, q⟩ := q
    exact q σ H G S (Same.refl _)
  | pass =>
    refine ⟨fun {X c k rf st} O hP _ h => ?_, fun _ _ z => (by cases z)⟩
    cases st <;> try (cases h; done)
    refine psI ps_pass fun D σ H q => ?_
    obtain ⟨Fr, G, r, S, q⟩ := q
    exact q σ H G S (Same.refl _)
  | scrub js s ih =>
    refine ⟨fun _ _ z => (by cases z), fun {X c k rf sts} O hP _ h => ?_⟩
    have h : (js.all (fun j => !k.io.contains j) && isLst s && chkS P s k sts) = true := h
    simp only [Bool.and_eq_true, List.all_eq_true, Bool.not_eq_true'] at h
    exact pssI (ih.all (rf := rf) O hP h.1.2 h.2) fun D σ H q => tM_scrub (fun j hj => io_out O.io (h.1.1 j hj)) q
  | frz js s ih =>
    refine ⟨fun _ _ z => (by cases z), fun {X c k rf sts} O hP _ h => ?_⟩
    have h : (js.all (fun j => !k.io.contains j) && isLst s && chkS P s k sts) = true := h
    simp only [Bool.and_eq_true, List.all_eq_true, Bool.not_eq_true'] at h
    exact pssI (ih.all (rf := rf) O hP h.1.2 h.2) fun D σ H q => tM_frz (fun j hj => io_out O.io (h.1.1 j hj)) q
  | raise n a => exact ⟨fun O hP _ h => raise_s O hP h, fun _ _ z => (by cases z)⟩
  | tryx b n x h ih => exact ⟨fun O hP _ q => try_s O hP (fun O' hP' hl hc => ih.all O' hP' hl hc) q, fun _ _ z => (by cases z)⟩
  | never => exact ⟨fun O hP _ h => psI ps_never fun D σ H ⟨_, _, _, _, q⟩ => q.elim, fun _ _ z => (by cases z)⟩
end
end VL

/-! VL16: defs, the whole program. -/
namespace VL
open PySem PySem.Spec L2

/-! ### the entry, the end -/
def ioL : Nat → List Bool → List V → List (Nat × Addr)
  | n, true :: bs, .ref a :: vs => (n, a) :: ioL (n + 1) bs vs
  | n, false :: bs, _ :: vs => ioL (n + 1) bs vs
  | _, _, _ => []
def ioIx : Nat → List Bool → List Nat
  | n, true :: bs => n :: ioIx (n + 1) bs
  | n, false :: bs => ioIx (n + 1) bs
  | _, [] => []
section
variable {K : KW} {Fr G H G' H' : Hp} {σ : L2.St} {r : Env}
theorem ioL_ix : ∀ {bs : List Bool} {vs : List V} {n : Nat} {p : Nat × Addr}, p ∈ ioL n bs vs → p.1 ∈ ioIx n bs
  | true :: bs, .ref a :: vs, n, p, h => by
    rcases List.mem_cons.mp h with e | h
    · subst e; exact List.mem_cons_self
    · exact List.mem_cons_of_mem _ (ioL_ix h)
  | false :: bs, _ :: vs, n, p, h => ioL_ix (bs := bs) (vs := vs) (n := n + 1) h
  | [], _, _, _, h => by cases h
  | true :: bs, [], _, _, h => by cases h
  | false :: bs, [], _, _, h => by cases h
  | true :: bs, .non :: _, _, _, h | true :: bs, .bl _ :: _, _, _, h | true :: bs, .int _ :: _, _, _, h | true :: bs, .str _ :: _, _, _, h | true :: bs, .byt _ :: _, _, _, h | true :: bs, .flt _ :: _, _, _, h | true :: bs, .ty _ :: _, _, _, h => by cases h
theorem ArgR.get : ∀ {io : List Bool} {ds : List D} {vs : List V} {j : Nat} {b : Bool}, ArgR K Fr G H io ds vs → io[j]? = some b → ∃ d v, ds[j]? = some d ∧ vs[j]? = some v ∧ (if b = true then ∃ a, v = .ref a ∧ OV K G H d a ∧ G a = none ∧ Fr a = none else RV K G d v)
  | [], _, _, j, b, _, e => by simp at e
  | true :: bs, _, _, 0, b, ⟨d, dr, a, vr, e1, e2, h1, h2, h3, h4⟩, e => by
    simp at e
    subst e e1 e2
    exact ⟨d, _, rfl, rfl, by rw [if_pos rfl]; exact ⟨a, rfl, h1, h2, h3⟩⟩
  | true :: bs, _, _, j + 1, b, ⟨d, dr, a, vr, e1, e2, h1, h2, h3, h4⟩, e => by
    subst e1 e2
    obtain ⟨d', v', q1, q2, q3⟩ := ArgR.get (j := j) h4 (by simpa using e)
    exact ⟨d', v', by simpa using q1, by simpa using q2, q3⟩
  | false :: bs, _, _, 0, b, ⟨d, dr, v, vr, e1, e2, h1, h4⟩, e => by
    simp at e
    subst e e1 e2
    exact ⟨d, _, rfl, rfl, by rw [if_neg Bool.false_ne_true]; exact h1⟩
  | false :: bs, _, _, j + 1, b, ⟨d, dr, v, vr, e1, e2, h1, h4⟩, e => by
    subst e1 e2
    obtain ⟨d', v', q1, q2, q3⟩ := ArgR.get (j := j) h4 (by simpa using e)
    exact ⟨d', v', by simpa using q1, by simpa using q2, q3⟩
theorem ioA_mem : ∀ {io : List Bool} {ds : List D} {vs : List V} {j : Nat} {a : Addr}, ArgR K Fr G H io ds vs → io[j]? = some true → vs[j]? = some (.ref a) → a ∈ ioA io vs
  | [], _, _, j, _, _, e, _ => by simp at e
  | true :: bs, _, _, 0, b, ⟨d, dr, a, vr, e1, e2, h1, h2, h3, h4⟩, e, q => by
    subst e1 e2
    simp at q
    subst q
    exact List.mem_cons_self
  | true :: bs, _, _, j + 1, b, ⟨d, dr, a, vr, e1, e2, h1, h2, h3, h4⟩, e, q => by
    subst e1 e2
    exact List.mem_cons_of_mem _ (ioA_mem (j := j) h4 (by simpa using e) (by simpa using q))
  | false :: bs, _, _, 0, b, _, e, _ => by simp at e
  | false :: bs, _, _, j + 1, b, ⟨d, dr, v, vr, e1, e2, h1, h4⟩, e, q => by
    subst e1 e2
    show b ∈ ioA bs vr
    exact ioA_mem (j := j) h4 (by simpa using e) (by simpa using q)
theorem ioA_inj : ∀ {io : List Bool} {ds : List D} {vs : List V} {i j : Nat} {a : Addr}, ArgR K Fr G H io ds vs → (ioA io vs).Nodup → io[i]? = some true → vs[i]? = some (.ref a) → io[j]? = some true → vs[j]? = some (.ref a) → i = j
  | [], _, _, i, j, _, _, _, e, _, _, _ => by simp at e
  | true :: bs, _, _, i, j, b, ⟨d, dr, a, vr, e1, e2, h1, h2, h3, h4⟩, nd, p1, p2, q1, q2 => by
    subst e1 e2
    have nd : (a :: ioA bs vr).Nodup := nd
    obtain ⟨n1, n2⟩ := List.nodup_cons.mp nd
    cases i with
    | zero =>
      cases j with
      | zero => rfl
      | succ j =>
        simp at p2
        subst p2
        exact absurd (ioA_mem (j := j) h4 (by simpa using q1) (by simpa using q2)) n1
    | succ i =>
      cases j with
      | zero =>
        simp at q2
        subst q2
        exact absurd (ioA_mem (j := i) h4 (by simpa using p1) (by simpa using p2)) n1
      | succ j => rw [ioA_inj (i := i) (j := j) h4 n2 (by simpa using p1) (by simpa using p2) (by simpa using q1) (by simpa using q2)]
  | false :: bs, _, _, i, j, b, ⟨d, dr, v, vr, e1, e2, h1, h4⟩, nd, p1, p2, q1, q2 => by
    subst e1 e2
    cases i with
    | zero => simp at p1
    | succ i =>
      cases j with
      | zero => simp at q1
      | succ j => rw [ioA_inj (i := i) (j := j) h4 nd (by simpa using p1) (by simpa using p2) (by simpa using q1) (by simpa using q2)]
theorem ioL_get : ∀ {io : List Bool} {ds : List D} {vs : List V} {n : Nat} {p : Nat × Addr}, ArgR K Fr G H io ds vs → p ∈ ioL n io vs → ∃ j, p.1 = n + j ∧ io[j]? = some true ∧ vs[j]? = some (.ref p.2)
  | [], _, _, _, _, _, h => by cases h
  | true :: bs, _, _, n, p, ⟨d, dr, a, vr, e1, e2, h1, h2, h3, h4⟩, h => by
    subst e1 e2
    rcases List.mem_cons.mp h with e | h
    · subst e; exact ⟨0, rfl, rfl, rfl⟩
    · obtain ⟨j, q1, q2, q3⟩ := ioL_get (n := n + 1) h4 h
      exact ⟨j + 1, by omega, by simpa using q2, by simpa using q3⟩
  | false :: bs, _, _, n, p, ⟨d, dr, v, vr, e1, e2, h1, h4⟩, h => by
    subst e1 e2
    obtain ⟨j, q1, q2, q3⟩ := ioL_get (n := n + 1) h4 h
    exact ⟨j + 1, by omega, by simpa using q2, by simpa using q3⟩
theorem ioL_snd : ∀ {io : List Bool} {ds : List D} {vs : List V} {n : Nat} {a : Addr}, ArgR K Fr G H io ds vs → a ∈ ioA io vs → ∃ p ∈ ioL n io vs, p.2 = a
  | [], _, _, _, _, _, h => by cases h
  | true :: bs, _, _, n, b, ⟨d, dr, a, vr, e1, e2, h1, h2, h3, h4⟩, h => by
    subst e1 e2
    rcases List.mem_cons.mp h with e | h
    · subst e; exact ⟨_, List.mem_cons_self, rfl⟩
    · obtain ⟨p, q1, q2⟩ := ioL_snd (n := n + 1) h4 h
      exact ⟨p, List.mem_cons_of_mem _ q1, q2⟩
  | false :: bs, _, _, n, b, ⟨d, dr, v, vr, e1, e2, h1, h4⟩, h => by
    subst e1 e2
    exact ioL_snd (n := n + 1) h4 h
theorem startE_get {n : Nat} {io : List Bool} {ds : List D} (hl : ds.length = io.length) (j : Nat) : (∀ b d, io[j]? = some b → ds[j]? = some d → (startE n io ds)[j]? = some (if b then .ow d else .fz d)) ∧ (∀ x, io[j]? = none → (startE n io ds)[j]? = some x → x = .un) := by
  unfold startE
  have hz : (List.map (fun (b, d) => if b then Slot.ow d else .fz d) (io.zip ds)).length = io.length := by rw [List.length_map, List.length_zip, hl]; simp
  refine ⟨fun b d h1 h2 => ?_, fun x h1 h2 => ?_⟩
  · have hj := (List.getElem?_eq_some_iff.mp h1).1
    rw [List.getElem?_append_left (by rw [hz]; exact hj), List.getElem?_map, List.getElem?_zip_eq_some.mpr (show io[j]? = some (b, d).1 ∧ ds[j]? = some (b, d).2 from ⟨h1, h2⟩)]
    rfl
  · rw [List.getElem?_eq_none_iff] at h1
    rw [List.getElem?_append_right (by rw [hz]; exact h1), List.getElem?_replicate] at h2
    split at h2 <;> cases h2
    rfl
theorem start_get {N : List Str} {vs : List V} {j : Nat} {v : V} (h : vs[j]? = some v) : (L2.start N vs)[j]? = some (some v) := by
  have hj := (List.getElem?_eq_some_iff.mp h).1
  unfold L2.start
  rw [List.getElem?_append_left (by rw [List.length_map]; exact hj), List.getElem?_map, h]
  rfl
theorem sr_start {N : List Str} {io : List Bool} {ds : List D} {vs : List V} (hn : io.length ≤ N.length) (g : Same G H) (f : ∀ a o, Fr a = some o → H a = some o ∧ G a = none) (ar : ArgR K Fr G H io ds vs) (nd : (ioA io vs).Nodup) :
    SR K (ioL 0 io vs) Fr G (L2.start N vs) H (startE N.length io ds) := by
  obtain ⟨l1, l2⟩ := ar.lens
  have own : ∀ {i a}, ownAt (L2.start N vs) (startE N.length io ds) i a → io[i]? = some true ∧ vs[i]? = some (.ref a) := fun {i a} ⟨q1, d, q2⟩ => by
    cases e : io[i]? with
    | none =>
      rcases q2 with q2 | q2
      · have := (startE_get (n := N.length) l2 i).2 _ e q2; cases this
      · have := (startE_get (n := N.length) l2 i).2 _ e q2; cases this
    | some b =>
      obtain ⟨d', v, e1, e2, e3⟩ := ar.get e
      have e4 := (startE_get (n := N.length) l2 i).1 b d' e e1
      rw [start_get e2] at q1
      cases q1
      cases b with
      | true => exact ⟨rfl, e2⟩
      | false => rcases q2 with q2 | q2 <;> (rw [e4] at q2; cases q2)
  refine ⟨?_, g, f, fun j x e => ?_, fun i j a q1 q2 => ?_, fun p hp => ?_⟩
  · unfold startE L2.start
    simp only [List.length_append, List.length_map, List.length_zip, List.length_replicate, l1, l2]
    omega
  · cases ei : io[j]? with
    | none =>
      rw [(startE_get (n := N.length) l2 j).2 x ei e]
      trivial
    | some b =>
      obtain ⟨d, v, e1, e2, e3⟩ := ar.get ei
      rw [(startE_get (n := N.length) l2 j).1 b d ei e1] at e
      cases e
      cases b with
      | true =>
        rw [if_pos rfl] at e3
        obtain ⟨a, rfl, h1, h2, h3⟩ := e3
        exact ⟨a, start_get e2, h2, h3, h1⟩
      | false =>
        rw [if_neg Bool.false_ne_true] at e3
        exact ⟨v, start_get e2, e3⟩
  · obtain ⟨z1, z2⟩ := own q1
    obtain ⟨z3, z4⟩ := own q2
    exact ioA_inj ar nd z1 z2 z3 z4
  · obtain ⟨j, e1, e2, e3⟩ := ioL_get ar hp
    obtain ⟨d, v, e4, e5, _⟩ := ar.get e2
    have e1 : p.1 = j := by omega
    rw [e1]
    exact ⟨start_get e3, d, .inl ((startE_get (n := N.length) l2 j).1 true d e2 e4)⟩
theorem outs_end {io' : List (Nat × Addr)} {Fr' : Hp} (S : SR K io' Fr' G' σ H' r) : ∀ {io : List Bool} {ds : List D} {vs : List V} {n : Nat} {outs : List D}, ArgR K Fr G H io ds vs → (∀ p ∈ ioL n io vs, σ[p.1]? = some (some (.ref p.2))) → iosOf io (r.drop n) = some outs → OutR K G' H' (ioA io vs) outs
  | [], _, _, n, outs, ⟨h1, h2⟩, _, h => by
    subst h1 h2
    cases h
    rfl
  | true :: bs, _, _, n, outs, ⟨d, dr, a, vr, e1, e2, h1, h2, h3, h4⟩, hs, h => by
    subst e1 e2
    cases er : r.drop n with
    | nil => rw [er] at h; cases h
    | cons x r' =>
      rw [er] at h
      cases x with
      | un => cases h
      | fz _ => cases h
      | lk _ => cases h
      | ow d1 =>
        have h : (iosOf bs r').map (d1 :: ·) = some outs := h
        cases e3 : iosOf bs r' with
        | none => rw [e3] at h; cases h
        | some l =>
          rw [e3] at h
          cases h
          have hr : r[n]? = some (.ow d1) := by
            have := congrArg (·[0]?) er
            simpa [List.getElem?_drop] using this
          obtain ⟨a', q1, q2, _, q4⟩ := S.s n _ hr
          have := hs (n, a) List.mem_cons_self
          rw [q1] at this
          cases this
          refine ⟨d1, l, rfl, q4, q2, outs_end S (n := n + 1) h4 (fun p hp => hs p (List.mem_cons_of_mem _ hp)) ?_⟩
          have : r.drop (n + 1) = r' := by rw [← List.drop_drop, er]; rfl
          rw [this]
          exact e3
  | false :: bs, _, _, n, outs, ⟨d, dr, v, vr, e1, e2, h1, h4⟩, hs, h => by
    subst e1 e2
    cases er : r.drop n with
    | nil => rw [er] at h; cases h
    | cons x r' =>
      rw [er] at h
      have h : iosOf bs r' = some outs := by cases x <;> exact h
      show OutR K G' H' (ioA bs vr) outs
      refine outs_end S (n := n + 1) h4 hs ?_
      have : r.drop (n + 1) = r' := by rw [← List.drop_drop, er]; rfl
      rw [this]
      exact h
end

/-! ### a def by its body -/
section
variable {Pg : Program} {w : World} {K : PySem.W.Frag} {mg : Str → Option Value} {base : Heap} {cx : CXT}
theorem deeper_guards (A : Around) (env : PySem.Env) : (A.deeper env).guards = A.guards := by
  first | rfl | simp [Around.deeper, Code.guards, Code.isGuard, pushGuards, guardIds]
theorem fnG_of {k : Nat} {f : Addr} {name qual : Str} {params : Arguments} {body : List Stmt} {scope : Scope} {dV kV doc pm cdv ct oc : Value} {an od : Option Addr} {osl : Array (Option Value)} {N ps : List Str} {sp : Sp}
    (at_ : K.lookup f = some ⟨oc, od, .func (PySem.W.fnOf name qual params body scope dV kV doc pm an cdv ct), osl⟩) (code : PySem.W.codeIn K cdv qual = true) (S : FnScope N ps scope) (len : ∀ vs H Q E, sp vs H Q E → vs.length = ps.length)
    (go : ∀ (A : Around) (outer : List PySem.Env) (s : Shared) (H : Hp) (vs : List V) (Q : VK) (E : XK), Room k (A.deeper (PyProof.Rows.envOfC qual scope s.heap.objs.size f cdv)) → A.guards = some [] → sp vs H Q E →
      ∃ t, PSs (cxOf cx Pg w K mg base N qual scope f cdv A outer s H E) body t ∧ t { nx := fun _ H' => Q .non H', rt := Q } (L2.start N vs) H) :
    FnG Pg w K mg base cx (k + 1) f (PySem.W.fnOf name qual params body scope dV kV doc pm an cdv ct) ps sp where
  len := len
  run := by
    intro A outer s H args us vs Q E room gu e0 bt rel hq
    have up : ∀ b o, base.get? b = some o → s.heap.get? b = some o := fun b o e => (e0.bs b o e).1
    have inK : K.In s.heap := e0.mod.kin.keeps up
    obtain ⟨t, pt, tq⟩ := go A outer s H vs Q E (room.deeper _) gu hq
    refine codeAny_call_function room.depth (inK _ _ at_) rfl S.co S.gen rfl (PySem.W.codeRec_of inK code) (bt _ _ _ _ (wpAny_newFunctionEnv_cells S.kind ?_ ?_))
    · rintro ⟨x, v⟩ hx
      rcases S.par x (List.of_mem_zip hx).1 with z | z
      · exact .inl z
      · exact .inr ⟨z, PySem.W.cellsFrom_some _ _ _ (.inl z)⟩
    · rintro env rfl s1 into
      have inv : L2.Inv (cxOf cx Pg w K mg base N qual scope f cdv A outer s H E) [] (L2.start N vs) H s1 := inv_start S room.hd e0 (len _ _ _ _ hq) rel into
      refine ⟨(e0.mod.nolimit.keeps up).keeps into.toInCall.keep, codeAny_func (wpAny_mono (pt.run [] s1 (L2.start N vs) H _ inv tq) ?_ fun _ _ z => z)⟩
      rintro (_ | _ | _ | u) s' hs
      · obtain ⟨σ', H', J, q⟩ := hs
        exact ⟨V.non, H', J.os, J.bare, J.base, J.hok, rfl, q⟩
      · first
          | (obtain ⟨_, _, _, q⟩ := hs; exact q.elim)
          | (obtain ⟨v, σ', H', J, rv, q⟩ := hs; exact ⟨v, H', J.os, J.bare, J.base, J.hok, rv, q⟩)
      · obtain ⟨_, _, _, q⟩ := hs; exact q.elim
      · first
          | (obtain ⟨_, _, _, q⟩ := hs; exact q.elim)
          | (obtain ⟨v, σ', H', J, rv, q⟩ := hs; exact ⟨v, H', J.os, J.bare, J.base, J.hok, rv, q⟩)
end
end VL

/-! VL17: the whole program, by depth of calls. -/
namespace VL
open PySem PySem.Spec L2
structure DefT where
  name : Str
  N : List Str
  ps : List Str
  scope : Scope
  body : List Stmt
def DefT.k (t : DefT) (fd : FDef) (FN : List Str) (gt : List (Nat × Str × D)) (gp gd : List Nat) : CkE := { gp := gp, gd := gd,  N := t.N, names := t.scope.names, raw := t.scope.names, io := ioIx 0 fd.io, FN := FN, gt := gt }
def scopeChk (N P : List Str) (sc : Scope) : Bool :=
  (match sc.kind with
    | .function => true
    | _ => false) && !sc.isCoroutine && !sc.isGenerator && decide N.Nodup && decide (N.take P.length = P) && P.all (fun x => match sc.names.lookup x with
    | some .local => true
    | some .cell => true
    | _ => false) && sc.names.all (fun y => match y.2 with
    | .free => false
    | _ => true)
theorem scope_of {N P : List Str} {sc : Scope} (h : scopeChk N P sc = true) : FnScope N P sc := by
  unfold scopeChk at h
  simp only [Bool.and_eq_true, Bool.not_eq_true', decide_eq_true_eq, List.all_eq_true] at h
  obtain ⟨⟨⟨⟨⟨⟨h1, h2⟩, h3⟩, h4⟩, h5⟩, h6⟩, h7⟩ := h
  refine ⟨?_, h2, h3, h4, h5, fun x hx => ?_, fun y hy z => ?_⟩
  · split at h1
    · assumption
    · cases h1
  · have := h6 x hx
    split at this
    · exact .inl (by assumption)
    · exact .inr (by assumption)
    · cases this
  · have := h7 y hy
    rw [z] at this
    cases this
def chkDef (P : Prog) (FN : List Str) (t : DefT) (fd : FDef) : Bool :=
  scopeChk t.N t.ps t.scope && decide (fd.nslots = t.N.length) && decide (t.ps.length = fd.io.length) && isLst fd.body && chkS P fd.body (t.k fd FN P.gt P.gp P.gd) t.body
def nameO : Option DefT → Str
  | some t => t.name
  | none => ""
/-- the defs that the law reaches; none: a place in the table that is not looked at -/
def chkAll (P : Prog) (FN : List Str) (ts : List (Option DefT)) : Bool := decide (FN = ts.map nameO) && decide (P.fs.length = ts.length) && (ts.zip P.fs).all fun p => match p.1 with
  | some t => chkDef P FN t p.2
  | none => true
theorem chkAll_at {P : Prog} {FN : List Str} {ts : List (Option DefT)} (h : chkAll P FN ts = true) : P.fs.length = ts.length ∧ (∀ (i : Nat), ts[i]? = some none → FN[i]? = some "") ∧ ∀ (i : Nat) (t : DefT), ts[i]? = some (some t) → FN[i]? = some t.name ∧ ∃ fd, P.fs[i]? = some fd ∧ chkDef P FN t fd = true := by
  unfold chkAll at h
  simp only [Bool.and_eq_true, decide_eq_true_eq, List.all_eq_true] at h
  obtain ⟨⟨h1, h2⟩, h3⟩ := h
  refine ⟨h2, fun i e => by rw [h1, List.getElem?_map, e]; rfl, fun i t e => ⟨by rw [h1, List.getElem?_map, e]; rfl, ?_⟩⟩
  have hi := (List.getElem?_eq_some_iff.mp e).1
  have e2 : P.fs[i]? = some P.fs[i] := List.getElem?_eq_getElem (by omega)
  refine ⟨_, e2, h3 (some t, P.fs[i]) ?_⟩
  have : (ts.zip P.fs)[i]? = some (some t, P.fs[i]) := List.getElem?_zip_eq_some.mpr ⟨e, e2⟩
  exact List.mem_of_getElem? this
/-- where a def stands -/
structure AtK (K : PySem.W.Frag) (mg : Str → Option Value) (t : DefT) (f : Addr) (fdata : FuncData) : Prop where
  mg : mg t.name = some (.ref f)
  keep : PySem.W.keepIn K (.ref f) = true
  bi : Binds K fdata t.ps []
  at_ : ∃ (name qual : Str) (params : Arguments) (dV kV doc pm cdv ct oc : Value) (an od : Option Addr) (osl : Array (Option Value)), fdata = PySem.W.fnOf name qual params t.body t.scope dV kV doc pm an cdv ct ∧
    K.lookup f = some ⟨oc, od, .func fdata, osl⟩ ∧ PySem.W.codeIn K cdv qual = true
def fldOf (P : Prog) (n : Nat) : Option Str := (P.xs.lookup n).bind (·.fld)
def cfg0 (K : KW) (P : Prog) (C : Nat → Addr) (fld : Nat → Option Str) : Cfg := ⟨K, [], fun _ _ _ _ => False, P, fun _ _ => .stk, C, fld⟩
section
variable {Pg : Program} {w : World} {K : PySem.W.Frag} {mg : Str → Option Value} {base : Heap} {P : Prog} {C : Nat → Addr}
theorem body_ok (hsm : SysM base) {k : Nat} {t : DefT} {fd : FDef} {FN : List Str} {qual : Str} {f : Addr} {cdv : Value} {cf : Nat → List D → VL.CR} (hc : chkDef P FN t fd = true) (hxc : ∀ (n : Nat) (xc : XC), P.xs.lookup n = some xc → n ∈ P.xp → XcK K mg C P.xs P.xp n xc)
    (bt : ∀ x ∈ bnames, mg x = none) (gl : ∀ (i : Nat) (x : Str) (d : D), P.gt.lookup i = some (x, d) → i ∈ P.gp → ∃ (u : Value) (v : V), mg x = some u ∧ RelV v u ∧ ∀ G, RV ⟨K, w⟩ G d v) (gd : ∀ (i : Nat) (x : Str) (kvs : List (D × D)), P.gt.lookup i = some (x, .dct kvs) → i ∈ P.gd → ∃ a : Addr, mg x = some (.ref a) ∧ ∀ s v, findS kvs s = some v → KDct K w a s (.str v))
    (calls : ∀ (f : Nat) (fd : FDef) (x : Str), P.fs[f]? = some fd → FN[f]? = some x → x ≠ "" → ∃ (a : Addr) (fdata : FuncData) (ps : List Str), mg x = some (.ref a) ∧ PySem.W.keepIn K (.ref a) = true ∧ Binds K fdata ps [] ∧
      FnG Pg w K mg base (L2.CX Pg w) (k + 2) a fdata ps (spG (cfg0 ⟨K, w⟩ P C (fldOf P)) fd.io fd.rf (cf f)))
    (A : Around) (outer : List PySem.Env) (s : Shared) (H : Hp) (vs : List V) (Q : VK) (E : XK) (room : Room (k + 2) (A.deeper (PyProof.Rows.envOfC qual t.scope s.heap.objs.size f cdv))) (gu : A.guards = some [])
    (sp : spG (cfg0 ⟨K, w⟩ P C (fldOf P)) fd.io fd.rf (fd.run shownD P cf) vs H Q E) :
    ∃ tr, PSs (cxOf (L2.CX Pg w) Pg w K mg base t.N qual t.scope f cdv A outer s H E) t.body tr ∧ tr { nx := fun _ H' => Q .non H', rt := Q } (L2.start t.N vs) H := by
  unfold chkDef at hc
  simp only [Bool.and_eq_true, decide_eq_true_eq] at hc
  obtain ⟨⟨⟨⟨h1, h2⟩, h3⟩, h4⟩, h5⟩ := hc
  have S := scope_of h1
  obtain ⟨Fr, G, ds, g, hf, ar, nd, q⟩ := sp
  obtain ⟨l1, l2⟩ := ar.lens
  have hps : t.ps.length ≤ t.N.length := by
    have := congrArg List.length S.pre
    rw [List.length_take] at this
    omega
  have St := sr_start (N := t.N) (by omega) g hf ar nd
  generalize hX : cxOf (L2.CX Pg w) Pg w K mg base t.N qual t.scope f cdv A outer s H E = X
  let c : Cfg := ⟨⟨K, w⟩, ioL 0 fd.io vs, fun cls d _ H => E cls d H, P, cf, C, fldOf P⟩
  have O : XS X c (t.k fd FN P.gt P.gp P.gd) := by
    subst hX
    exact {
      g := ⟨⟨(deeper_guards A _).trans gu, by have := room.un; show (A.deeper _).units + 200 < cLine; omega, hsm⟩, rfl⟩
      K := rfl
      N := rfl
      nd := S.nd
      nm := rfl
      raw := fun x h => ⟨h, .inl rfl⟩
      io := fun p hp => ioL_ix hp
      tk := takes_of rfl rfl rfl rfl
      bt := bt
      gtk := rfl
      gl := gl
      gd := gd
      calls := fun fi fdi x e1 e2 e3 => by
        obtain ⟨a, fdata, ps, z1, z2, z3, z4⟩ := calls fi fdi x e1 e2 e3
        exact ⟨k + 2, a, fdata, ps, z1, z2, z3, room, z4⟩
      kind := S.kind
      own := PassesOwn.leaving
      room := room.mono (by omega)
      stk := rfl
      frm := rfl
      xc := hxc
      fl := fun _ => rfl }
  refine ⟨_, (sndS P fd.body).all (rf := fd.rf) O rfl h4 h5, Fr, G, startE t.N.length fd.io ds, St, ?_⟩
  have q : match (if ds.length = fd.io.length then
      match fd.body.ev shownD P cf fd.rf (startE fd.nslots fd.io ds) with
      | .ok f r => match f, iosOf fd.io r with
        | .nx, some outs => VL.CR.ok .non outs
        | .ret d, some outs => .ok d outs
        | _, _ => .stk
      | .err c fs r => match iosOf fd.io r with
        | some outs => .err c fs outs
        | none => .stk
      | .stk => .stk
    else .stk) with
    | .ok d outs => ∀ (v : V) (H' G' : Hp), Kept Fr G G' H' → OutR ⟨K, w⟩ G' H' (ioA fd.io vs) outs → ResV ⟨K, w⟩ fd.rf Fr G' H' (ioA fd.io vs) d v → Q v H'
    | .err n fs outs => ∀ (H' G' : Hp) (dx : Option Addr), Kept Fr G G' H' → OutR ⟨K, w⟩ G' H' (ioA fd.io vs) outs → XR (cfg0 ⟨K, w⟩ P C (fldOf P)) n fs dx G' H' → E (.ref (C n)) dx H'
    | .stk => False := q
  rw [if_pos l2, h2] at q
  show ResS c Fr G (fd.body.ev shownD P cf fd.rf (startE t.N.length fd.io ds)) _
  have io_at : ∀ {σ' : L2.St} {H' G' : Hp} {r : Env}, SR ⟨K, w⟩ (ioL 0 fd.io vs) Fr G' σ' H' r → ∀ {outs : List D}, iosOf fd.io r = some outs → OutR ⟨K, w⟩ G' H' (ioA fd.io vs) outs := fun {σ' H' G' r} S' {outs} e =>
    outs_end S' (n := 0) ar (fun p hp => (S'.i p hp).1) (by rw [List.drop_zero]; exact e)
  cases ev : fd.body.ev shownD P cf fd.rf (startE t.N.length fd.io ds) with
  | stk => rw [ev] at q; exact q
  | err n fs r =>
    rw [ev] at q
    dsimp only at q
    cases eo : iosOf fd.io r with
    | none => rw [eo] at q; exact q.elim
    | some outs =>
      rw [eo] at q
      exact fun σ' H' G' dx S' g' xr => q H' G' dx ⟨g', S'.g, S'.f⟩ (io_at S' eo) xr
  | ok fl r =>
    rw [ev] at q
    dsimp only at q
    cases eo : iosOf fd.io r with
    | none => rw [eo] at q; cases fl <;> exact q.elim
    | some outs =>
      rw [eo] at q
      cases fl with
      | bk => exact q.elim
      | ct => exact q.elim
      | nx =>
        refine fun σ' H' G' S' g' => q .non H' G' ⟨g', S'.g, S'.f⟩ (io_at S' eo) ?_
        unfold ResV
        rw [if_neg (by cases fd.rf <;> exact Bool.false_ne_true)]
        rfl
      | ret d =>
        refine fun v σ' H' G' S' g' rv => q v H' G' ⟨g', S'.g, S'.f⟩ (io_at S' eo) ?_
        unfold ResV
        unfold RetV at rv
        split at rv
        · rename_i hm
          obtain ⟨a, rfl, z1, z2, z3, z4⟩ := rv
          rw [if_pos hm]
          refine ⟨a, rfl, z1, z2, z3, fun z => ?_⟩
          obtain ⟨p, hp, e⟩ := ioL_snd (n := 0) ar z
          exact z4 p hp e
        · rename_i hm
          rw [if_neg hm]
          exact rv
/-- every def, k deep -/
theorem prog_ok (hsm : SysM base) {ts : List (Option DefT)} {FN : List Str} {tab : Nat → Addr × FuncData} (hno : ∀ (i : Nat), ts[i]? = some none → FN[i]? = some "") (hall : ∀ (i : Nat) (t : DefT), ts[i]? = some (some t) → AtK K mg t (tab i).1 (tab i).2 ∧ FN[i]? = some t.name ∧ ∃ fd, P.fs[i]? = some fd ∧ chkDef P FN t fd = true)
    (hlen : P.fs.length = ts.length) (hxc : ∀ (n : Nat) (xc : XC), P.xs.lookup n = some xc → n ∈ P.xp → XcK K mg C P.xs P.xp n xc) (bt : ∀ x ∈ bnames, mg x = none) (gl : ∀ (i : Nat) (x : Str) (d : D), P.gt.lookup i = some (x, d) → i ∈ P.gp → ∃ (u : Value) (v : V), mg x = some u ∧ RelV v u ∧ ∀ G, RV ⟨K, w⟩ G d v) (gd : ∀ (i : Nat) (x : Str) (kvs : List (D × D)), P.gt.lookup i = some (x, .dct kvs) → i ∈ P.gd → ∃ a : Addr, mg x = some (.ref a) ∧ ∀ s v, findS kvs s = some v → KDct K w a s (.str v)) :
    ∀ (k : Nat) (i : Nat) (t : DefT) (fd : FDef), ts[i]? = some (some t) → P.fs[i]? = some fd → FnG Pg w K mg base (L2.CX Pg w) (k + 2) (tab i).1 (tab i).2 t.ps (spG (cfg0 ⟨K, w⟩ P C (fldOf P)) fd.io fd.rf (callN shownD P k i)) := by
  intro k
  induction k with
  | zero =>
    intro i t fd _ _
    have no : ∀ vs H Q E, ¬ spG (cfg0 ⟨K, w⟩ P C (fldOf P)) fd.io fd.rf (callN shownD P 0 i) vs H Q E := fun vs H Q E ⟨_, _, _, _, _, _, _, q⟩ => q
    exact ⟨fun vs H Q E h => (no _ _ _ _ h).elim, fun A outer s H args us vs Q E _ _ _ _ _ h => (no _ _ _ _ h).elim⟩
  | succ k ih =>
    intro i t fd e1 e2
    obtain ⟨at_, hn, fd', e3, hc⟩ := hall i t e1
    rw [e2] at e3
    cases e3
    obtain ⟨name, qual, params, dV, kV, doc, pm, cdv, ct, oc, an, od, osl, h1, h2, h3⟩ := at_.at_
    rw [h1] at h2 ⊢
    have hc2 := hc
    unfold chkDef at hc2
    simp only [Bool.and_eq_true, decide_eq_true_eq] at hc2
    refine fnG_of h2 h3 (scope_of hc2.1.1.1.1) (fun vs H Q E ⟨_, _, _, _, _, ar, _⟩ => by rw [ar.lens.1, hc2.1.1.2]) fun A outer s H vs Q E room gu sp => ?_
    refine body_ok hsm (C := C) (cf := callN shownD P k) hc hxc bt gl gd (fun j fdj x z1 z2 z3 => ?_) A outer s H vs Q E room gu ?_
    · have hj : j < ts.length := by rw [← hlen]; exact (List.getElem?_eq_some_iff.mp z1).1
      have e4 : ts[j]? = some ts[j] := List.getElem?_eq_getElem hj
      cases e5 : ts[j] with
      | none =>
        rw [e5] at e4
        rw [hno j e4] at z2
        cases z2
        exact absurd rfl z3
      | some t2 =>
        rw [e5] at e4
        obtain ⟨a2, n2, _⟩ := hall j _ e4
        rw [n2] at z2
        cases z2
        exact ⟨_, _, _, a2.mg, a2.keep, a2.bi, ih j _ fdj e4 z1⟩
    · have e : callN shownD P (k + 1) i = fd.run shownD P (callN shownD P k) := by
        funext ds
        show (match P.fs[i]? with
          | some fd => fd.run shownD P (callN shownD P k) ds
          | none => .stk) = _
        rw [e2]
      rw [e] at sp
      exact sp
end

/-! ### the law's own call -/
theorem rvs_ints {K : KW} {G : Hp} : ∀ ns : List Int, RVs K G (ns.map D.int) (ns.map V.int)
  | [] => rfl
  | n :: ns => RVs.cons rfl (rvs_ints ns)
/-- the state behind the top, the script frozen -/
theorem law_run {Pg : Program} {w : World} {K : PySem.W.Frag} {mg mb : Str → Option Value} {k : Nat} {fa a : Addr} {fd : FuncData} {x : Str} {c : Cfg} {rf : Bool} {run : List D → VL.CR} {t : Shared} {us : List Value} {ns : List Int}
    (inK : K.In t.heap) (nsG : t.heap.Ns mainGlobals mg) (nsB : t.heap.Ns builtinsNs mb) (eqB : ∀ x : Str, x ≠ "__name__" → mb x = bootBuiltins x) (lim : t.heap.NoLimit) (sysm : SysM t.heap) (noGen : t.gens = #[])
    (atA : t.heap.get? a = some { cls := .type "list", data := .seq us.toArray }) (hInts : PyProof.Rows.IntsAre us ns) (short : ns.length ≤ sizeLine) (room : Room k callerA) (cK : c.K.K = K)
    (F : ∀ base : Heap, K.In base → base.Ns mainGlobals mg → SysM base → FnG Pg w K mg base (L2.CX Pg w) k fa fd [x] (spG c [false] rf run)) (bi : Binds K fd [x] [])
    (good : ∃ outs, run [.lst (ns.map .int)] = .ok (.bl true) outs) :
    codeAny (model Pg w) callerA (.call (.ref fa) ⟨[.ref a], []⟩) (fun r t' => r = .ok (.ret (.bool true)) ∧ OldK t.heap t'.heap ∧ t'.os = t.os ∧ PyProof.Rows.AllBare t'.gens) t := by
  have rel := vals_ints hInts
  have lenU := hInts.length
  let lst : Obj := { cls := .type "list", data := .seq us.toArray }
  let H : Hp := fun b => if b = a ∧ K.lookup a = none then some (.frz lst (.lst (ns.map V.int))) else none
  have inv : ∀ {b u}, H b = some u → b = a ∧ K.lookup a = none ∧ u = .frz lst (.lst (ns.map V.int)) := fun {b u} e => by
    by_cases z : b = a ∧ K.lookup a = none
    · have e2 : H b = some _ := if_pos z
      rw [e] at e2
      exact ⟨z.1, z.2, Option.some.inj e2⟩
    · have e2 : H b = none := if_neg z
      rw [e] at e2
      cases e2
  have none_of : ∀ {b}, (b = a → K.lookup a ≠ none) → H b = none := fun {b} z => if_neg fun q => z q.1 q.2
  have ns_of : ∀ {b m}, t.heap.Ns b m → (hidT t.heap H).Ns b m := fun {b m} ⟨o, es, ep, e, d, q⟩ => by
    refine ⟨o, es, ep, hidT_get e (none_of fun z _ => ?_), d, q⟩
    subst z
    rw [atA] at e
    cases e
    cases d
  have inB : K.In (hidT t.heap H) := fun b o e => hidT_get (inK b o e) (none_of fun z y => by rw [z, y] at e; cases e)
  have mod : Mod K mg (hidT t.heap H) := ⟨inB, ns_of nsG, ⟨mb, ns_of nsB, eqB⟩, by obtain ⟨mc, q1, q2⟩ := lim; exact ⟨mc, ns_of q1, q2⟩⟩
  have okH : HOk Pg w H t.heap := fun b u e => by
    obtain ⟨rfl, _, rfl⟩ := inv e
    exact ⟨atA, by rw [List.length_map]; exact short, us, _, rel, atA⟩
  have seq : SqL K H a (ns.map V.int) := by
    cases e : K.lookup a with
    | some o =>
      have q := inK a o e
      rw [atA] at q
      cases q
      exact .inr ⟨_, us.toArray, _, e, rfl, rfl, rfl, by rw [List.size_toArray, lenU]; exact short, by simpa using rel⟩
    | none => exact .inl (.inr ⟨lst, if_pos ⟨rfl, e⟩⟩)
  have env : Env0 Pg w K mg (hidT t.heap H) callerA [] t H := ⟨rfl, mod, fun b o e => of_hidT e, Nat.le_of_eq (hidT_size _ _), trivial, fun b hb => (nomatch hb), okH, .of_eq noGen⟩
  obtain ⟨outs, good⟩ := good
  have want : spG c [false] rf run [.ref a] H (fun v _ => v = .bl true) fun _ _ _ => False := by
    refine ⟨fun _ => none, H, [.lst (ns.map .int)], Same.refl _, fun _ _ z => (nomatch z), ⟨_, [], _, [], rfl, rfl, ⟨a, _, rfl, by rw [cK]; exact seq, rvs_ints ns⟩, rfl, rfl⟩, List.nodup_nil, ?_⟩
    rw [good]
    intro v H' G' _ _ rv
    unfold ResV at rv
    rw [if_neg (by cases rf <;> exact Bool.false_ne_true)] at rv
    exact rv
  refine codeAny_mono ((F _ inB (ns_of nsG) (let ⟨_, q⟩ := sysm; ⟨_, ns_of q⟩)).run callerA [] t H ⟨[.ref a], []⟩ [.ref a] [.ref a] _ _ room rfl env (bi t [.ref a] inK rfl) (.cons rfl .nil) want) ?_
  rintro (e | fl) t' h
  · obtain ⟨_, _, _, _, _, _, _, _, _, _, _, _, q⟩ := h
    exact q.elim
  · cases fl <;> try (exact False.elim h)
    rename_i u
    obtain ⟨v, H', os, bare, un, okH', rv, q⟩ := h
    have q : v = .bl true := q
    subst q
    cases (show u = Value.bool true from rv)
    refine ⟨rfl, OldK.of_keep fun b o e => ?_, os, bare⟩
    cases eb : H b with
    | none => exact un.keep b o e eb (fun z => (nomatch z)) (by simp)
    | some y =>
      obtain ⟨rfl, _, rfl⟩ := inv eb
      obtain ⟨e2, _⟩ := okH' b _ (un.frzs b lst _ eb)
      rw [atA] at e
      cases e
      exact e2
/-- what k_head leaves of a law -/
theorem law_walk {l : PySem.W.OpenLaw} {n k : Nat} {q : Program} {loose : List Str} {XP : (Str → Option Value) → Heap → Prop} {YP : World → Heap → Prop} {d : DefRec} {K : Params → PySem.W.Frag} {x : Str} {rf : Bool} {run : List D → VL.CR}
    (most : l.most = some n) (small : n ≤ sizeLine) (nodef : d.params.defaults = []) (room : Room k callerA) (imp : PyProof.Rows.importsNone q = true) (hY : ∀ (w : World) (h : Heap), YP w h → (K w.params).In h)
    (F : ∀ (w : World) (mg : Str → Option Value) (fa : Addr) (h : Heap), (K w.params).In h → h.Ns mainGlobals mg → mg d.name = some (.ref fa) →
      ∃ (fd : FuncData) (c : Cfg), c.K.K = K w.params ∧ Binds (K w.params) fd [x] [] ∧ ∀ base : Heap, (K w.params).In base → base.Ns mainGlobals mg → SysM base → FnG l.prog w (K w.params) mg base (L2.CX l.prog w) k fa fd [x] (spG c [false] rf run))
    (good : ∀ ns : List Int, ns.length ≤ n → ∃ outs, run [.lst (ns.map .int)] = .ok (.bl true) outs) :
    PySem.W.WalkO q loose XP YP l.row.toRowW d [] (fun f vs => PySem.call f vs) := by
  refine Att.attach_call most nodef ?_
  intro w s0 s1 mg mb fa o pm cd doc a us ns G Y _ _ _ named atA hInts len noGen
  obtain ⟨fd, c, cK, bi, F⟩ := F w mg fa _ (hY w _ Y) G.T.g named
  exact law_run (hY w _ Y) G.T.g G.T.b G.T.builtins G.T.nolimit ⟨_, (G.T.seer imp).mods.choose_spec.1⟩ noGen atA hInts (Nat.le_trans len small) room cK F bi (good ns len)
end VL

/-! VL18: what the top has left, the whole. -/
namespace VL
open PySem PySem.Spec L2
def AllAt (K : PySem.W.Frag) (mg : Str → Option Value) : List (Option DefT) → List (Addr × FuncData) → Prop
  | [], ps => ps = []
  | some t :: ts, ps => ∃ f fd r, ps = (f, fd) :: r ∧ AtK K mg t f fd ∧ AllAt K mg ts r
  | none :: ts, ps => ∃ p r, ps = p :: r ∧ AllAt K mg ts r
def fd0 : Addr × FuncData := (0, ⟨"", "", ⟨[], [], none, [], [], none, []⟩, .stmts [], ⟨.function, [], false, false, []⟩, 0, [], .none, .none, .none, .none, none, .none, .none, 0⟩)
noncomputable def tabOf (l : List (Addr × FuncData)) (i : Nat) : Addr × FuncData := l.getD i fd0
theorem AllAt.get {K : PySem.W.Frag} {mg : Str → Option Value} : ∀ {ts : List (Option DefT)} {l : List (Addr × FuncData)} {i : Nat} {t : DefT}, AllAt K mg ts l → ts[i]? = some (some t) → AtK K mg t (tabOf l i).1 (tabOf l i).2
  | [], _, _, _, _, e => by simp at e
  | some t :: ts, _, 0, _, ⟨f, fd, r, e1, h1, h2⟩, e => by
    simp at e
    subst e e1
    exact h1
  | none :: ts, _, 0, _, ⟨p, r, e1, h2⟩, e => by simp at e
  | some t :: ts, _, i + 1, _, ⟨f, fd, r, e1, h1, h2⟩, e => by
    subst e1
    exact AllAt.get (i := i) h2 (by simpa using e)
  | none :: ts, _, i + 1, _, ⟨p, r, e1, h2⟩, e => by
    subst e1
    exact AllAt.get (i := i) h2 (by simpa using e)
section
variable {K : PySem.W.Frag} {w : World} {h : Heap} {mg : Str → Option Value}
theorem at_mk (X : K.In h) (G : h.Ns mainGlobals mg) {name : Str} {N ps : List Str} {st : Stmt} {f : Addr} {oc kV dc pm cd ct : Value} {od an : Option Addr} {sl : Array (Option Value)}
    (b : ∀ (kV doc pm : Value) (an : Option Addr) (cdv ct : Value) (us : List Value), us.length = ps.length → bindArgs (PySem.W.fnOf name name (defArgs st) (defBody st) (defScope st) .none kV doc pm an cdv ct) ⟨us, []⟩ = pure (ps.zip us))
    (a : PySem.W.nsIn K mainGlobals name = some (some (.ref f))) (l : K.lookup f = some ⟨oc, od, .func (PySem.W.fnOf name name (defArgs st) (defBody st) (defScope st) .none kV dc pm an cd ct), sl⟩) (c : PySem.W.codeIn K cd name = true) (kp : PySem.W.keepIn K (.ref f) = true) :
    AtK K mg ⟨name, N, ps, defScope st, defBody st⟩ f (PySem.W.fnOf name name (defArgs st) (defBody st) (defScope st) .none kV dc pm an cd ct) :=
  ⟨PySem.W.mg_of X G a, kp, .all (b kV dc pm an cd ct), name, name, defArgs st, .none, kV, dc, pm, cd, ct, oc, an, od, sl, rfl, l, c⟩
/-- a module's constant -/
theorem gl_str (X : K.In h) (G : h.Ns mainGlobals mg) {x s : Str} {t : Tok} (a : PySem.W.nsIn K mainGlobals x = some (some (.str s t))) : ∃ (u : Value) (v : V), mg x = some u ∧ RelV v u ∧ ∀ G, RV ⟨K, w⟩ G (.str s) v := ⟨_, .str s, PySem.W.mg_of X G a, ⟨t, rfl⟩, fun _ => rfl⟩
theorem gl_int (X : K.In h) (G : h.Ns mainGlobals mg) {x : Str} {i : Int} {t : Tok} (a : PySem.W.nsIn K mainGlobals x = some (some (.int i t))) : ∃ (u : Value) (v : V), mg x = some u ∧ RelV v u ∧ ∀ G, RV ⟨K, w⟩ G (.int i) v := ⟨_, .int i, PySem.W.mg_of X G a, ⟨t, rfl⟩, fun _ => rfl⟩
/-- strs of a constant tuple -/
def strsOk : List Str → List Value → Bool
  | [], [] => true
  | s :: ss, .str z _ :: vs => decide (s = z) && strsOk ss vs
  | _, _ => false
theorem strsOk_vals : ∀ {ss : List Str} {vs : List Value}, strsOk ss vs = true → Vals (ss.map V.str) vs
  | [], [], _ => .nil
  | [], _ :: _, h => by cases h
  | _ :: _, [], h => by cases h
  | s :: ss, v :: vs, h => by
    cases v <;> try (cases h; done)
    rename_i z t
    have h : (decide (s = z) && strsOk ss vs) = true := h
    simp only [Bool.and_eq_true, decide_eq_true_eq] at h
    obtain ⟨h1, h2⟩ := h
    subst h1
    exact .cons ⟨t, rfl⟩ (strsOk_vals h2)
theorem rvs_strs {G : Hp} : ∀ ss : List Str, RVs ⟨K, w⟩ G (ss.map D.str) (ss.map V.str)
  | [] => rfl
  | s :: ss => RVs.cons rfl (rvs_strs ss)
theorem gl_tup (X : K.In h) (G : h.Ns mainGlobals mg) {x : Str} {ss : List Str} {b : Addr} {od : Option Addr} {its : List Value} {n : Nat} {sl : Array (Option Value)} (a : PySem.W.nsIn K mainGlobals x = some (some (.ref b)))
    (l : K.lookup b = some ⟨.type "tuple", od, .seq its.toArray n, sl⟩) (s : strsOk ss its = true) (z : its.length ≤ 1000) : ∃ (u : Value) (v : V), mg x = some u ∧ RelV v u ∧ ∀ G, RV ⟨K, w⟩ G (.tup (ss.map D.str)) v := by
  refine ⟨_, .ref b, PySem.W.mg_of X G a, rfl, fun G => ⟨b, ss.map V.str, rfl, .inr ⟨_, its.toArray, n, l, rfl, rfl, ?_, ?_⟩, rvs_strs ss⟩⟩
  · rw [List.size_toArray, sizeLine_eq]
    exact Nat.le_trans z (by decide)
  · simpa using strsOk_vals s
/-- the law's function, k deep -/
theorem law_F {Pg : Program} {w : World} {P : Prog} {FN : List Str} {ts : List (Option DefT)} {l : List (Addr × FuncData)} {k iL : Nat} {tL : DefT} {fdL : FDef} {x : Str} {fa : Addr} (hall : AllAt K mg ts l) (hc : chkAll P FN ts = true) (bt : ∀ x ∈ bnames, mg x = none) {C : Nat → Addr} (hxc : ∀ (n : Nat) (xc : XC), P.xs.lookup n = some xc → n ∈ P.xp → XcK K mg C P.xs P.xp n xc)
    (gl : ∀ (i : Nat) (x : Str) (d : D), P.gt.lookup i = some (x, d) → i ∈ P.gp → ∃ (u : Value) (v : V), mg x = some u ∧ RelV v u ∧ ∀ G, RV ⟨K, w⟩ G d v) (gd : ∀ (i : Nat) (x : Str) (kvs : List (D × D)), P.gt.lookup i = some (x, .dct kvs) → i ∈ P.gd → ∃ a : Addr, mg x = some (.ref a) ∧ ∀ s v, findS kvs s = some v → KDct K w a s (.str v)) (hL : ts[iL]? = some (some tL)) (hfL : P.fs[iL]? = some fdL) (hp : tL.ps = [x]) (hio : fdL.io = [false]) (hfa : mg tL.name = some (.ref fa)) :
    ∃ (fd : FuncData) (c : Cfg), c.K.K = K ∧ Binds K fd [x] [] ∧ ∀ base : Heap, K.In base → base.Ns mainGlobals mg → SysM base → FnG Pg w K mg base (L2.CX Pg w) (k + 2) fa fd [x] (spG c [false] fdL.rf (callN shownD P k iL)) := by
  obtain ⟨h1, h0, h2⟩ := chkAll_at hc
  have aL := hall.get hL
  have e := aL.mg.symm.trans hfa
  cases e
  refine ⟨(tabOf l iL).2, cfg0 ⟨K, w⟩ P C (fldOf P), rfl, ?_, fun base _ _ hsm => ?_⟩
  · rw [← hp]; exact aL.bi
  · rw [← hp, ← hio]
    exact prog_ok hsm (P := P) (FN := FN) (tab := tabOf l) h0 (fun i t e => ⟨hall.get e, h2 i t e⟩) h1 hxc bt gl gd k iL tL fdL hL hfL
end
/-- isinstance, of own classes -/
theorem kit_own {K : PySem.W.Frag} {C D : Addr} {b : Bool} (hs : PySem.W.subIn K (.ref C) (.ref D) = some b) (hr : PySem.W.subIn K (.ref D) (.ref D) = some true) (hc : (PySem.W.clsIn K D).isSome = true) (ht : PySem.W.typeIn K (.ref D) = some (.type "type")) : PySem.W.kitOne K (.ref C) (.ref D) = some b := by
  unfold PySem.W.kitOne
  split
  · rename_i h
    have e : (Value.ref C) = .ref D := eq_of_beq h
    rw [e, hr] at hs
    exact hs
  · unfold PySem.W.kitCls
    dsimp only
    rw [if_pos (by rw [hc, ht]; rfl)]
    exact hs
theorem kit_ty {K : PySem.W.Frag} {C : Addr} {z : String} {b : Bool} (hm : PySem.W.kitMeta z = true) (hs : PySem.W.subIn K (.ref C) (.type z) = some b) : PySem.W.kitOne K (.ref C) (.type z) = some b := by
  unfold PySem.W.kitOne
  rw [if_neg (fun h => nomatch (eq_of_beq h : Value.ref C = .type z))]
  unfold PySem.W.kitCls
  dsimp only
  rw [if_pos hm]
  exact hs
theorem xo_mk {K : PySem.W.Frag} {C : Addr} {nm q : Str} {N : Addr} {bs bm : List Value} {sn : List Str} {sub : List Value} {ab : Bool} {col : Option Bool} {dd : Option Addr} {k0 k1 k2 k3 k5 : Option Value}
    (h : K.lookup C = some (excClassObj nm q C N bs bm true sn sub ab col dd k0 k1 k2 k3 k5 "ValueError.__new__")) (hr : PySem.HandSPX.refsVE bm = true) :
    ∃ nm q N bs bm sn sub ab col dd k0 k1 k2 k3 k5, K.lookup C = some (excClassObj nm q C N bs bm true sn sub ab col dd k0 k1 k2 k3 k5 "ValueError.__new__") ∧ PySem.HandSPX.refsVE bm = true := ⟨_, _, _, _, _, _, _, _, _, _, _, _, _, _, _, h, hr⟩
def clsInit (s : Stmt) : Stmt := match s with
  | .ClassDef _ _ _ body _ _ _ _ _ _ _ => body.getD 0 s
  | _ => s
end VL

/-! VLS: the evaluator for simp. -/
namespace VL
open PySem PySem.Spec L2
/-- what goes on behind: an instance, so that simp does not look into it -/
class Hid (γ : Type) where
  out : γ
def optk {α β : Type} (o : Option α) [k : Hid (α → Out β)] : Out β := match o with | some a => k.out a | none => .stk
def bd {α β : Type} (x : Out α) [k : Hid (α → Env → Out β)] : Out β := x.bind k.out
def one {α β : Type} (x : List α) [k : Hid (α → Out β)] : Out β := match x with | [a] => k.out a | _ => .stk
def two {α β : Type} (x : List α) [k : Hid (α → α → Out β)] : Out β := match x with | [a, b] => k.out a b | _ => .stk
@[simp] theorem two_two {α β : Type} (a b : α) [k : Hid (α → α → Out β)] : two [a, b] = k.out a b := rfl
def one2 {β : Type} (d : D) [k : Hid (Out β)] [k2 : Hid (Out β)] : Out β := match d with
  | .bl true => k.out
  | .bl false => k2.out
  | _ => .stk
@[simp] theorem one2_t {β : Type} [k : Hid (Out β)] [k2 : Hid (Out β)] : one2 (.bl true) (k := k) (k2 := k2) = k.out := rfl
@[simp] theorem one2_f {β : Type} [k : Hid (Out β)] [k2 : Hid (Out β)] : one2 (.bl false) (k := k) (k2 := k2) = k2.out := rfl
def repk {β : Type} (n : Nat) (d : D) [k : Hid (List D → Out β)] : Out β := match d with
  | .lst xs => if xs.length * n ≤ line ∧ n ≤ 1000000 then k.out (List.replicate n xs).flatten else .stk
  | _ => .stk
def iteB {α : Type} (b : Bool) [k : Hid α] [k2 : Hid α] : α := match b with | true => k.out | false => k2.out
@[simp] theorem iteB_t {α : Type} [k : Hid α] [k2 : Hid α] : iteB true (k := k) (k2 := k2) = k.out := rfl
@[simp] theorem iteB_f {α : Type} [k : Hid α] [k2 : Hid α] : iteB false (k := k) (k2 := k2) = k2.out := rfl
@[simp] theorem optk_some {α β : Type} (a : α) [k : Hid (α → Out β)] : optk (some a) = k.out a := rfl
@[simp] theorem optk_none {α β : Type} [k : Hid (α → Out β)] : optk (k := k) none = Out.stk := rfl
@[simp] theorem bd_ok {α β : Type} (a : α) (r : Env) [k : Hid (α → Env → Out β)] : bd (.ok a r) = k.out a r := rfl
@[simp] theorem bd_err {α β : Type} (c : Nat) (fs : List D) (r : Env) [k : Hid (α → Env → Out β)] : bd (k := k) (.err c fs r) = Out.err c fs r := rfl
@[simp] theorem bd_stk {α β : Type} [k : Hid (α → Env → Out β)] : bd (k := k) .stk = Out.stk := rfl
@[simp] theorem one_one {α β : Type} (a : α) [k : Hid (α → Out β)] : one [a] = k.out a := rfl
@[simp] theorem Hid_out {γ : Type} (g : γ) : (Hid.mk g).out = g := rfl
section
variable {P : Prog} {cf : Nat → List D → VL.CR} {r : Env}
@[simp] theorem ev_kst (d : D) : (ME.kst d).ev shownD P cf r = .ok [d] r := rfl
@[simp] theorem ev_glb (i : Nat) : (ME.glb i).ev shownD P cf r = optk (P.gt.lookup i) (k := ⟨fun x => .ok [x.2] r⟩) := by
  show (match P.gt.lookup i with | some x => _ | none => _) = _
  cases P.gt.lookup i <;> rfl
@[simp] theorem ev_nm (j : Nat) : (ME.nm j).ev shownD P cf r = optk (peek r j) (k := ⟨fun d => .ok [d] r⟩) := by
  show (match peek r j with | some x => _ | none => _) = _
  cases peek r j <;> rfl
@[simp] theorem ev_cap (j : Nat) : (ME.cap j).ev shownD P cf r = optk (capE r j) (k := ⟨fun p => .ok [p.1] p.2⟩) := by
  show (match capE r j with | some (d, r') => Out.ok [d] r' | none => .stk) = _
  cases capE r j <;> rfl
@[simp] theorem ev_nil : ME.nil.ev shownD P cf r = .ok [] r := rfl
@[simp] theorem ev_cons (a m : ME) : (ME.cons a m).ev shownD P cf r = bd (a.ev shownD P cf r) (k := ⟨fun x r1 => bd (m.ev shownD P cf r1) (k := ⟨fun y r2 => .ok (x ++ y) r2⟩)⟩) := rfl
@[simp] theorem ev_op (o : Op) (a : ME) : (ME.op o a).ev shownD P cf r = bd (a.ev shownD P cf r) (k := ⟨fun x r1 => optk (a.fresh x r1) (k := ⟨fun x => optk (o.ap shownD x) (k := ⟨fun d => .ok [d] r1⟩)⟩)⟩) := by
  show ((a.ev shownD P cf r).bind fun x r1 => match a.fresh x r1 with
    | some x => match o.ap shownD x with
      | some d => Out.ok [d] r1
      | none => .stk
    | none => .stk) = _
  unfold bd
  congr 1
  funext x r1
  dsimp only
  cases a.fresh x r1 with
  | none => rfl
  | some x =>
    show (match o.ap shownD x with
      | some d => Out.ok [d] r1
      | none => .stk) = optk (o.ap shownD x) (k := _)
    cases o.ap shownD x <;> rfl
@[simp] theorem ev_and (a b : ME) : (ME.and_ a b).ev shownD P cf r = bd (a.ev shownD P cf r) (k := ⟨fun x r1 => one x (k := ⟨fun x => optk x.tru (k := ⟨fun t => iteB t (k := ⟨b.ev shownD P cf r1⟩) (k2 := ⟨.ok [x] r1⟩)⟩)⟩)⟩) := by
  show ((a.ev shownD P cf r).bind fun x r1 => match x with
    | [x] => match x.tru with
      | some true => b.ev shownD P cf r1
      | some false => Out.ok [x] r1
      | none => .stk
    | _ => .stk) = _
  unfold bd
  congr 1
  funext x r1
  dsimp only
  match x with
  | [] => rfl
  | _ :: _ :: _ => rfl
  | [x] =>
    show (match x.tru with
      | some true => b.ev shownD P cf r1
      | some false => Out.ok [x] r1
      | none => .stk) = optk x.tru (k := _)
    cases x.tru with
    | none => rfl
    | some t => cases t <;> rfl
@[simp] theorem ev_or (a b : ME) : (ME.or_ a b).ev shownD P cf r = bd (a.ev shownD P cf r) (k := ⟨fun x r1 => one x (k := ⟨fun x => optk x.tru (k := ⟨fun t => iteB t (k := ⟨.ok [x] r1⟩) (k2 := ⟨b.ev shownD P cf r1⟩)⟩)⟩)⟩) := by
  show ((a.ev shownD P cf r).bind fun x r1 => match x with
    | [x] => match x.tru with
      | some true => Out.ok [x] r1
      | some false => b.ev shownD P cf r1
      | none => .stk
    | _ => .stk) = _
  unfold bd
  congr 1
  funext x r1
  dsimp only
  match x with
  | [] => rfl
  | _ :: _ :: _ => rfl
  | [x] =>
    show (match x.tru with
      | some true => Out.ok [x] r1
      | some false => b.ev shownD P cf r1
      | none => .stk) = optk x.tru (k := _)
    cases x.tru with
    | none => rfl
    | some t => cases t <;> rfl
def crk {α : Type} (x : VL.CR) [k : Hid (D → List D → Out α)] [k2 : Hid (Nat → List D → List D → Out α)] : Out α := match x with
  | .ok d outs => k.out d outs
  | .err c fs outs => k2.out c fs outs
  | .stk => .stk
@[simp] theorem crk_ok {α : Type} (d : D) (outs : List D) [k : Hid (D → List D → Out α)] [k2 : Hid (Nat → List D → List D → Out α)] : crk (.ok d outs) = k.out d outs := rfl
@[simp] theorem crk_err {α : Type} (c : Nat) (fs outs : List D) [k : Hid (D → List D → Out α)] [k2 : Hid (Nat → List D → List D → Out α)] : crk (.err c fs outs) = k2.out c fs outs := rfl
@[simp] theorem ev_call (f : Nat) (sl : List Nat) (a : ME) : (ME.call f sl a).ev shownD P cf r = bd (a.ev shownD P cf r) (k := ⟨fun x r1 => optk (a.fresh x r1) (k := ⟨fun x => crk (cf f x) (k := ⟨fun d outs => optk (setOw r1 sl outs) (k := ⟨fun r2 => .ok [d] r2⟩)⟩) (k2 := ⟨fun c fs outs => optk (setOw r1 sl outs) (k := ⟨fun r2 => .err c fs r2⟩)⟩)⟩)⟩) := by
  show ((a.ev shownD P cf r).bind fun x r1 => match a.fresh x r1 with
    | some x => match cf f x with
      | .ok d outs => match setOw r1 sl outs with
        | some r2 => Out.ok [d] r2
        | none => .stk
      | .err c fs outs => match setOw r1 sl outs with
        | some r2 => .err c fs r2
        | none => .stk
      | .stk => .stk
    | none => .stk) = _
  unfold bd
  congr 1
  funext x r1
  dsimp only
  cases a.fresh x r1 with
  | none => rfl
  | some x =>
    show (match cf f x with
      | .ok d outs => match setOw r1 sl outs with
        | some r2 => Out.ok [d] r2
        | none => .stk
      | .err c fs outs => match setOw r1 sl outs with
        | some r2 => .err c fs r2
        | none => .stk
      | .stk => .stk) = crk (cf f x) (k := _) (k2 := _)
    cases cf f x with
    | stk => rfl
    | ok d outs =>
      show (match setOw r1 sl outs with | some r2 => Out.ok [d] r2 | none => .stk) = optk (setOw r1 sl outs) (k := _)
      cases setOw r1 sl outs <;> rfl
    | err c fs outs =>
      show (match setOw r1 sl outs with | some r2 => Out.err c fs r2 | none => .stk) = optk (setOw r1 sl outs) (k := _)
      cases setOw r1 sl outs <;> rfl
@[simp] theorem evC_def (m : ME) : evC shownD P cf m r = bd (m.ev shownD P cf r) (k := ⟨fun x r1 => one x (k := ⟨fun x => optk x.tru (k := ⟨fun t => .ok t r1⟩)⟩)⟩) := by
  show ((m.ev shownD P cf r).bind fun x r1 => match x with
    | [x] => match x.tru with
      | some t => Out.ok t r1
      | none => .stk
    | _ => .stk) = _
  unfold bd
  congr 1
  funext x r1
  dsimp only
  match x with
  | [] => rfl
  | _ :: _ :: _ => rfl
  | [x] =>
    show (match x.tru with
      | some t => Out.ok t r1
      | none => .stk) = optk x.tru (k := _)
    cases x.tru <;> rfl
variable {rf : Bool}
def flk (f : Fl) (r : Env) [k : Hid (Env → Out Fl)] : Out Fl := match f with
  | .nx => k.out r
  | f => .ok f r
@[simp] theorem flk_nx (r : Env) [k : Hid (Env → Out Fl)] : flk .nx r = k.out r := rfl
@[simp] theorem flk_ret (d : D) (r : Env) [k : Hid (Env → Out Fl)] : flk (.ret d) r = .ok (.ret d) r := rfl
@[simp] theorem flk_bk (r : Env) [k : Hid (Env → Out Fl)] : flk .bk r = .ok .bk r := rfl
@[simp] theorem flk_ct (r : Env) [k : Hid (Env → Out Fl)] : flk .ct r = .ok .ct r := rfl
@[simp] theorem sv_nil : MS.nil.ev shownD P cf rf r = .ok .nx r := rfl
@[simp] theorem sv_seq (s t : MS) : (MS.seq s t).ev shownD P cf rf r = bd (s.ev shownD P cf rf r) (k := ⟨fun f r1 => flk f r1 (k := ⟨fun r1 => t.ev shownD P cf rf r1⟩)⟩) := by
  show ((s.ev shownD P cf rf r).bind fun f r1 => match f with
    | .nx => t.ev shownD P cf rf r1
    | f => .ok f r1) = _
  unfold bd
  congr 1
@[simp] theorem sv_ife (cc : ME) (a b : MS) : (MS.ife cc a b).ev shownD P cf rf r = bd (evC shownD P cf cc r) (k := ⟨fun t r1 => iteB t (k := ⟨a.ev shownD P cf rf r1⟩) (k2 := ⟨b.ev shownD P cf rf r1⟩)⟩) := by
  show ((evC shownD P cf cc r).bind fun t r1 => if t then a.ev shownD P cf rf r1 else b.ev shownD P cf rf r1) = _
  unfold bd
  congr 1
  funext t r1
  dsimp only
  cases t <;> rfl
@[simp] theorem sv_expr (e : ME) : (MS.expr e).ev shownD P cf rf r = bd (e.ev shownD P cf r) (k := ⟨fun _ r1 => .ok .nx r1⟩) := rfl
@[simp] theorem sv_asg (g : MG) (e : ME) : (MS.asg g e).ev shownD P cf rf r = bd (e.ev shownD P cf r) (k := ⟨fun x r1 => one x (k := ⟨fun d => optk (asgE g (e.fr P) d r1) (k := ⟨fun r2 => .ok .nx r2⟩)⟩)⟩) := by
  show ((e.ev shownD P cf r).bind fun x r1 => match x with
    | [d] => match asgE g (e.fr P) d r1 with
      | some r2 => Out.ok Fl.nx r2
      | none => .stk
    | _ => .stk) = _
  unfold bd
  congr 1
  funext x r1
  dsimp only
  match x with
  | [] => rfl
  | _ :: _ :: _ => rfl
  | [x] =>
    show (match asgE g (e.fr P) x r1 with
      | some r2 => Out.ok Fl.nx r2
      | none => .stk) = optk (asgE g (e.fr P) x r1) (k := _)
    cases asgE g (e.fr P) x r1 <;> rfl
def retk (rf fr : Bool) (d : D) (r : Env) : Out Fl := if rf && !fr && d.mutb then .stk else .ok (.ret d) r
theorem sv_ret (e : ME) (h : (match e with | .nm _ => true | _ => false) = false) : (MS.ret e).ev shownD P cf rf r = bd (e.ev shownD P cf r) (k := ⟨fun x r1 => one x (k := ⟨fun d => retk rf (e.fr P) d r1⟩)⟩) := by
  have h : (MS.ret e).ev shownD P cf rf r = ((e.ev shownD P cf r).bind fun x r1 => match x with
      | [d] => if rf && !e.fr P && d.mutb then Out.stk else .ok (Fl.ret d) r1
      | _ => .stk) := by cases e <;> first | rfl | cases h
  rw [h]
  unfold bd
  congr 1
  funext x r1
  dsimp only
  match x with
  | [] => rfl
  | _ :: _ :: _ => rfl
  | [x] => rfl
@[simp] theorem sv_ret_kst (d : D) : (MS.ret (.kst d)).ev shownD P cf rf r = .ok (.ret d) r := by
  rw [sv_ret _ rfl]
  simp only [ev_kst, bd_ok, one_one, retk, ME.fr]
  cases rf <;> rfl
@[simp] theorem sv_ret_op (o : Op) (a : ME) : (MS.ret (.op o a)).ev shownD P cf rf r = bd ((ME.op o a).ev shownD P cf r) (k := ⟨fun x r1 => one x (k := ⟨fun d => retk rf ((ME.op o a).fr P) d r1⟩)⟩) := sv_ret _ rfl
@[simp] theorem sv_ret_and (a b : ME) : (MS.ret (.and_ a b)).ev shownD P cf rf r = bd ((ME.and_ a b).ev shownD P cf r) (k := ⟨fun x r1 => one x (k := ⟨fun d => retk rf ((ME.and_ a b).fr P) d r1⟩)⟩) := sv_ret _ rfl
@[simp] theorem sv_ret_or (a b : ME) : (MS.ret (.or_ a b)).ev shownD P cf rf r = bd ((ME.or_ a b).ev shownD P cf r) (k := ⟨fun x r1 => one x (k := ⟨fun d => retk rf ((ME.or_ a b).fr P) d r1⟩)⟩) := sv_ret _ rfl
@[simp] theorem sv_ret_call (f : Nat) (sl : List Nat) (b : ME) : (MS.ret (.call f sl b)).ev shownD P cf rf r = bd ((ME.call f sl b).ev shownD P cf r) (k := ⟨fun x r1 => one x (k := ⟨fun d => retk rf ((ME.call f sl b).fr P) d r1⟩)⟩) := sv_ret _ rfl
def cixk {β : Type} (o : Option (Str × D)) (d : D) [k : Hid (Str → Out β)] : Out β := match d with
  | .str s => optk (cixD o s)
  | _ => .stk
@[simp] theorem cixk_str {β : Type} (o : Option (Str × D)) (s : Str) [k : Hid (Str → Out β)] : cixk o (.str s) = optk (cixD o s) (k := k) := rfl
@[simp] theorem cixD_some (x : Str) (kvs : List (D × D)) (s : Str) : cixD (some (x, .dct kvs)) s = findS kvs s := rfl
@[simp] theorem findS_nil (s : Str) : findS [] s = none := rfl
@[simp] theorem findS_cons (k v : Str) (r : List (D × D)) (s : Str) : findS ((.str k, .str v) :: r) s = if k = s then some v else findS r s := rfl
/-- comprehensions, loops, the rest -/
@[simp] theorem ev_chain (o1 o2 : Op) (ab z : ME) : (ME.chain o1 o2 ab z).ev shownD P cf r = bd (ab.ev shownD P cf r) (k := ⟨fun x r1 => optk (ab.fresh x r1) (k := ⟨fun x => optk (o1.ap shownD x) (k := ⟨fun d => one2 d
    (k := ⟨bd (z.ev shownD P cf r1) (k := ⟨fun w r2 => optk (ab.fresh x r2) (k := ⟨fun x2 => two x2 (k := ⟨fun _ y => optk ((ME.cons z .nil).fresh w r2) (k := ⟨fun w => one w (k := ⟨fun w => optk (o2.ap shownD [y, w]) (k := ⟨fun d => .ok [d] r2⟩)⟩)⟩)⟩)⟩)⟩)⟩) (k2 := ⟨.ok [.bl false] r1⟩)⟩)⟩)⟩) := by
  show ((ab.ev shownD P cf r).bind fun x r1 => match ab.fresh x r1 with
    | some x => match o1.ap shownD x with
      | some (.bl true) => (z.ev shownD P cf r1).bind fun z' r2 => match ab.fresh x r2 with
        | some [_, y] => match (ME.cons z .nil).fresh z' r2 with
          | some [z] => match o2.ap shownD [y, z] with
            | some d => Out.ok [d] r2
            | none => .stk
          | _ => .stk
        | _ => .stk
      | some (.bl false) => .ok [.bl false] r1
      | _ => .stk
    | none => .stk) = _
  unfold bd
  congr 1
  funext x r1
  dsimp only
  cases ab.fresh x r1 with
  | none => rfl
  | some x =>
    simp only [optk_some]
    cases h : o1.ap shownD x with
    | none => rfl
    | some d =>
      cases d <;> try rfl
      rename_i b
      cases b
      · rfl
      · simp only [optk_some, one2]
        unfold Out.bind
        congr 1
        funext w r2
        dsimp only
        cases ab.fresh x r2 with
        | none => rfl
        | some x2 =>
          match x2 with
          | [] => rfl
          | [_] => rfl
          | _ :: _ :: _ :: _ => rfl
          | [p, y] =>
            simp only [two, optk_some]
            generalize (ME.cons z .nil).fresh w r2 = q
            cases q with
            | none => rfl
            | some w2 =>
              match w2 with
              | [] => rfl
              | _ :: _ :: _ => rfl
              | [q] =>
                simp only [optk_some, one_one]
                generalize o2.ap shownD [y, q] = q'
                cases q' <;> rfl
@[simp] theorem ev_ite (cc a b : ME) : (ME.ite cc a b).ev shownD P cf r = bd (cc.ev shownD P cf r) (k := ⟨fun x r1 => one x (k := ⟨fun x => optk x.tru (k := ⟨fun t => iteB t (k := ⟨a.ev shownD P cf r1⟩) (k2 := ⟨b.ev shownD P cf r1⟩)⟩)⟩)⟩) := by
  show ((cc.ev shownD P cf r).bind fun x r1 => match x with
    | [x] => match x.tru with
      | some true => a.ev shownD P cf r1
      | some false => b.ev shownD P cf r1
      | none => .stk
    | _ => .stk) = _
  unfold bd
  congr 1
  funext x r1
  dsimp only
  match x with
  | [] => rfl
  | _ :: _ :: _ => rfl
  | [x] =>
    simp only [one_one]
    cases x.tru with
    | none => rfl
    | some t => cases t <;> rfl
def owk {β : Type} (s : Option Slot) [k : Hid (Out β)] : Out β := match s with
  | some (.ow (.lst _)) => k.out
  | _ => .stk
@[simp] theorem owk_lst {β : Type} (xs : List D) [k : Hid (Out β)] : owk (some (.ow (.lst xs))) = k.out := rfl
@[simp] theorem ev_mop (o : MOp) (j : Nat) (a : ME) : (ME.mop o j a).ev shownD P cf r = owk r[j]? (k := ⟨bd (a.ev shownD P cf r) (k := ⟨fun x r1 => optk (a.fresh x r1) (k := ⟨fun x => optk (owned r1 j) (k := ⟨fun d => optk (o.ap d x) (k := ⟨fun p => .ok [p.1] (r1.set j (.ow p.2))⟩)⟩)⟩)⟩)⟩) := by
  show (match r[j]? with
    | some (.ow (.lst _)) => (a.ev shownD P cf r).bind fun x r1 => match a.fresh x r1, owned r1 j with
      | some x, some d => match o.ap d x with
        | some (y, d') => Out.ok [y] (r1.set j (.ow d'))
        | none => .stk
      | _, _ => .stk
    | _ => .stk) = _
  unfold owk
  split
  · unfold bd
    congr 1
    funext x r1
    dsimp only
    cases a.fresh x r1 with
    | none => rfl
    | some x =>
      simp only [optk_some]
      cases owned r1 j with
      | none => rfl
      | some d =>
        simp only [optk_some]
        cases o.ap d x with
        | none => rfl
        | some p => rfl
  · rfl
theorem ev_comp (own : List Nat) (tg : MG) (it c e : ME) : (ME.comp own tg it c e).ev shownD P cf r = bd (it.ev shownD P cf r) (k := ⟨fun x r1 => one x (k := ⟨fun x => optk (itemsD x) (k := ⟨fun xs => iteB (ownFree r1 own) (k := ⟨bd (compLoop own tg (c.ev shownD P cf) (e.ev shownD P cf) [] xs r1).nox (k := ⟨fun ys r2 => Out.ok [D.lst ys] (backE r1 r2 own)⟩)⟩) (k2 := ⟨.stk⟩)⟩)⟩)⟩) := by
  show ((it.ev shownD P cf r).bind fun x r1 => match x with
    | [x] => match itemsD x with
      | some xs => if ownFree r1 own then
          (compLoop own tg (c.ev shownD P cf) (e.ev shownD P cf) [] xs r1).nox.bind fun ys r2 => Out.ok [D.lst ys] (backE r1 r2 own)
        else .stk
      | none => .stk
    | _ => .stk) = _
  unfold bd
  congr 1
  funext x r1
  dsimp only
  match x with
  | [] => rfl
  | _ :: _ :: _ => rfl
  | [x] =>
    simp only [one_one]
    cases itemsD x with
    | none => rfl
    | some xs =>
      simp only [optk_some]
      cases ownFree r1 own <;> rfl
@[simp] theorem ev_rep (n : Nat) (a : ME) : (ME.rep n a).ev shownD P cf r = bd (a.ev shownD P cf r) (k := ⟨fun x r1 => one x (k := ⟨fun d => repk n d (k := ⟨fun l => Out.ok [D.lst l] r1⟩)⟩)⟩) := by
  show ((a.ev shownD P cf r).bind fun x r1 => match x with
    | [.lst xs] => if xs.length * n ≤ line ∧ n ≤ 1000000 then Out.ok [D.lst (List.replicate n xs).flatten] r1 else .stk
    | _ => .stk) = _
  unfold bd
  congr 1
  funext x r1
  dsimp only
  match x with
  | [] => rfl
  | x :: _ :: _ => cases x <;> rfl
  | [x] => cases x <;> rfl
@[simp] theorem ev_cix (i : Nat) (a : ME) : (ME.cix i a).ev shownD P cf r = bd (a.ev shownD P cf r) (k := ⟨fun x r1 => one x (k := ⟨fun d => cixk (P.gt.lookup i) d (k := ⟨fun z => Out.ok [D.str z] r1⟩)⟩)⟩) := by
  show ((a.ev shownD P cf r).bind fun x r1 => match x with
    | [.str s] => match cixD (P.gt.lookup i) s with
      | some z => Out.ok [D.str z] r1
      | none => .stk
    | _ => .stk) = _
  unfold bd
  congr 1
  funext x r1
  dsimp only
  match x with
  | [] => rfl
  | x :: _ :: _ => cases x <;> rfl
  | [x] =>
    cases x <;> try rfl
    simp only [one_one, cixk]
    rename_i s
    cases cixD (P.gt.lookup i) s <;> rfl
@[simp] theorem sv_scrub (js : List Nat) (s : MS) : (MS.scrub js s).ev shownD P cf rf r = bd (s.ev shownD P cf rf r) (k := ⟨fun f r1 => .ok f (wipeE r1 js)⟩) := rfl
@[simp] theorem sv_frz (js : List Nat) (s : MS) : (MS.frz js s).ev shownD P cf rf r = s.ev shownD P cf rf (frzE r js) := rfl
@[simp] theorem sv_raise (n : Nat) (a : ME) : (MS.raise n a).ev shownD P cf rf r = bd (a.ev shownD P cf r) (k := ⟨fun x r1 => .err n x r1⟩) := rfl
@[simp] theorem sv_retN : MS.retN.ev shownD P cf rf r = .ok (.ret .non) r := rfl
@[simp] theorem sv_brk : MS.brk.ev shownD P cf rf r = .ok .bk r := rfl
@[simp] theorem sv_cont : MS.cont.ev shownD P cf rf r = .ok .ct r := rfl
@[simp] theorem sv_pass : MS.pass.ev shownD P cf rf r = .ok .nx r := rfl
theorem sv_for (tg : MG) (it : ME) (body : MS) : (MS.for_ tg it body).ev shownD P cf rf r = bd (it.ev shownD P cf r) (k := ⟨fun x r1 => one x (k := ⟨fun x => optk (itemsD x) (k := ⟨fun xs => forLoop tg (body.ev shownD P cf rf) xs r1⟩)⟩)⟩) := by
  show ((it.ev shownD P cf r).bind fun x r1 => match x with
    | [x] => match itemsD x with
      | some xs => forLoop tg (body.ev shownD P cf rf) xs r1
      | none => .stk
    | _ => .stk) = _
  unfold bd
  congr 1
  funext x r1
  dsimp only
  match x with
  | [] => rfl
  | _ :: _ :: _ => rfl
  | [x] =>
    simp only [one_one]
    cases itemsD x <;> rfl
def tryk (x : Out Fl) [k : Hid (Nat → List D → Env → Out Fl)] : Out Fl := match x with
  | .ok f r => .ok f r
  | .err n fs r => k.out n fs r
  | .stk => .stk
@[simp] theorem tryk_ok (f : Fl) (r : Env) [k : Hid (Nat → List D → Env → Out Fl)] : tryk (.ok f r) = .ok f r := rfl
@[simp] theorem tryk_err (n : Nat) (fs : List D) (r : Env) [k : Hid (Nat → List D → Env → Out Fl)] : tryk (.err n fs r) = k.out n fs r := rfl
@[simp] theorem sv_tryx (body : MS) (n : Nat) (x : Option Nat) (h : HS) : (MS.tryx body n x h).ev shownD P cf rf r = tryk (body.ev shownD P cf rf r) (k := ⟨fun n' fs r1 => iteB (decide (n' = n)) (k := ⟨optk (P.xs.lookup n) (k := ⟨fun xc => iteB (hotOk r1 x) (k := ⟨optk (h.ev xc fs rf (hotE r1 x)) (k := ⟨fun p => .ok p.1 (hotE p.2 x)⟩)⟩) (k2 := ⟨.stk⟩)⟩)⟩) (k2 := ⟨optk (P.xs.lookup n') (k := ⟨fun xm => iteB (P.xp.contains n' && xm.apart n) (k := ⟨.err n' fs r1⟩) (k2 := ⟨.stk⟩)⟩)⟩)⟩) := by
  show (match body.ev shownD P cf rf r with
    | .ok f r1 => Out.ok f r1
    | .err n' fs r1 => if n' = n then (match P.xs.lookup n with
        | some xc => if hotOk r1 x then (match h.ev xc fs rf (hotE r1 x) with
          | some (f, r2) => .ok f (hotE r2 x)
          | none => .stk) else .stk
        | none => .stk) else (match P.xs.lookup n' with
        | some xm => if P.xp.contains n' && xm.apart n then .err n' fs r1 else .stk
        | none => .stk)
    | .stk => .stk) = _
  cases body.ev shownD P cf rf r with
  | stk => rfl
  | ok f r1 => rfl
  | err n' fs r1 =>
    simp only [tryk_err]
    by_cases hn : n' = n
    · subst hn
      rw [if_pos rfl, decide_eq_true rfl]
      cases P.xs.lookup n' with
      | none => rfl
      | some xc =>
        simp only [iteB_t, optk_some]
        cases hotOk r1 x with
        | false => rfl
        | true =>
          simp only [iteB_t, if_true]
          cases h.ev xc fs rf (hotE r1 x) with
          | none => rfl
          | some p => rfl
    · rw [if_neg hn, decide_eq_false hn]
      cases P.xs.lookup n' with
      | none => rfl
      | some xc =>
        simp only [iteB_f, optk_some]
        cases (P.xp.contains n' && xc.apart n) <;> rfl
@[simp] theorem sv_ret_ite (cc a b : ME) : (MS.ret (.ite cc a b)).ev shownD P cf rf r = bd ((ME.ite cc a b).ev shownD P cf r) (k := ⟨fun x r1 => one x (k := ⟨fun d => retk rf ((ME.ite cc a b).fr P) d r1⟩)⟩) := sv_ret _ rfl
@[simp] theorem sv_ret_comp (own : List Nat) (tg : MG) (it c e : ME) : (MS.ret (.comp own tg it c e)).ev shownD P cf rf r = bd ((ME.comp own tg it c e).ev shownD P cf r) (k := ⟨fun x r1 => one x (k := ⟨fun d => retk rf true d r1⟩)⟩) := sv_ret _ rfl
@[simp] theorem sv_ret_cix (i : Nat) (a : ME) : (MS.ret (.cix i a)).ev shownD P cf rf r = bd ((ME.cix i a).ev shownD P cf r) (k := ⟨fun x r1 => one x (k := ⟨fun d => retk rf true d r1⟩)⟩) := sv_ret _ rfl
@[simp] theorem sv_ret_rep (i : Nat) (a : ME) : (MS.ret (.rep i a)).ev shownD P cf rf r = bd ((ME.rep i a).ev shownD P cf r) (k := ⟨fun x r1 => one x (k := ⟨fun d => retk rf true d r1⟩)⟩) := sv_ret _ rfl
@[simp] theorem sv_ret_glb (i : Nat) : (MS.ret (.glb i)).ev shownD P cf rf r = bd ((ME.glb i).ev shownD P cf r) (k := ⟨fun x r1 => one x (k := ⟨fun d => retk rf false d r1⟩)⟩) := sv_ret _ rfl
@[simp] theorem sv_ret_chain (o1 o2 : Op) (ab z : ME) : (MS.ret (.chain o1 o2 ab z)).ev shownD P cf rf r = bd ((ME.chain o1 o2 ab z).ev shownD P cf r) (k := ⟨fun x r1 => one x (k := ⟨fun d => retk rf true d r1⟩)⟩) := sv_ret _ rfl
def retS (rf : Bool) (j : Nat) (s : Option Slot) (r : Env) : Out Fl := match rf, s with
  | true, some (.ow d) => .ok (.ret d) r
  | true, some (.fz d) => if d.mutb then .stk else .ok (.ret d) r
  | false, some (.ow d) => .ok (.ret d) (r.set j (.fz d))
  | false, some (.fz d) => .ok (.ret d) r
  | _, _ => .stk
@[simp] theorem sv_ret_nm (j : Nat) : (MS.ret (.nm j)).ev shownD P cf rf r = retS rf j r[j]? r := rfl
@[simp] theorem retS_ow_t (j : Nat) (d : D) (r : Env) : retS true j (some (.ow d)) r = .ok (.ret d) r := rfl
@[simp] theorem retS_fz_f (j : Nat) (d : D) (r : Env) : retS false j (some (.fz d)) r = .ok (.ret d) r := rfl
@[simp] theorem retS_ow_f (j : Nat) (d : D) (r : Env) : retS false j (some (.ow d)) r = .ok (.ret d) (r.set j (.fz d)) := rfl
@[simp] theorem retS_fz_bl (j : Nat) (b : Bool) (r : Env) : retS true j (some (.fz (.bl b))) r = .ok (.ret (.bl b)) r := rfl
@[simp] theorem retS_fz_int (j : Nat) (b : Int) (r : Env) : retS true j (some (.fz (.int b))) r = .ok (.ret (.int b)) r := rfl
@[simp] theorem retS_fz_str (j : Nat) (b : Str) (r : Env) : retS true j (some (.fz (.str b))) r = .ok (.ret (.str b)) r := rfl
@[simp] theorem retS_fz_non (j : Nat) (r : Env) : retS true j (some (.fz .non)) r = .ok (.ret .non) r := rfl
@[simp] theorem retS_fz_tup (j : Nat) (xs : List D) (r : Env) : retS true j (some (.fz (.tup xs))) r = .ok (.ret (.tup xs)) r := rfl
@[simp] theorem retk_t (rf : Bool) (d : D) (r : Env) : retk rf true d r = .ok (.ret d) r := by unfold retk; cases rf <;> rfl
@[simp] theorem retk_ff (fr : Bool) (d : D) (r : Env) : retk false fr d r = .ok (.ret d) r := rfl
theorem retk_n (fr : Bool) {d : D} (h : d.mutb = false) (r : Env) : retk true fr d r = .ok (.ret d) r := by unfold retk; rw [h]; cases fr <;> rfl
@[simp] theorem retk_bl (fr : Bool) (b : Bool) (r : Env) : retk true fr (.bl b) r = .ok (.ret (.bl b)) r := retk_n fr rfl r
@[simp] theorem retk_int (fr : Bool) (b : Int) (r : Env) : retk true fr (.int b) r = .ok (.ret (.int b)) r := retk_n fr rfl r
@[simp] theorem retk_str (fr : Bool) (b : Str) (r : Env) : retk true fr (.str b) r = .ok (.ret (.str b)) r := retk_n fr rfl r
@[simp] theorem retk_tup (fr : Bool) (b : List D) (r : Env) : retk true fr (.tup b) r = .ok (.ret (.tup b)) r := retk_n fr rfl r
@[simp] theorem retk_non (fr : Bool) (r : Env) : retk true fr .non r = .ok (.ret .non) r := retk_n fr rfl r
/-- fresh -/
@[simp] theorem fr_nil : ME.nil.fresh [] r = some [] := rfl
@[simp] theorem fr_nm (j : Nat) (m : ME) (d : D) (ds : List D) : (ME.cons (.nm j) m).fresh (d :: ds) r = (peek r j).bind fun d => (m.fresh ds r).map (d :: ·) := by
  show (match peek r j, m.fresh ds r with
    | some d, some l => some (d :: l)
    | _, _ => none) = _
  cases peek r j with
  | none => rfl
  | some d => cases m.fresh ds r <;> rfl
@[simp] theorem fr_kst (k : D) (m : ME) (d : D) (ds : List D) : (ME.cons (.kst k) m).fresh (d :: ds) r = (m.fresh ds r).map (d :: ·) := rfl
@[simp] theorem fr_cap (k : Nat) (m : ME) (d : D) (ds : List D) : (ME.cons (.cap k) m).fresh (d :: ds) r = (m.fresh ds r).map (d :: ·) := rfl
@[simp] theorem fr_glb (k : Nat) (m : ME) (d : D) (ds : List D) : (ME.cons (.glb k) m).fresh (d :: ds) r = (m.fresh ds r).map (d :: ·) := rfl
@[simp] theorem fr_op (o : Op) (a m : ME) (d : D) (ds : List D) : (ME.cons (.op o a) m).fresh (d :: ds) r = (m.fresh ds r).map (d :: ·) := rfl
@[simp] theorem fr_call (f : Nat) (sl : List Nat) (a m : ME) (d : D) (ds : List D) : (ME.cons (.call f sl a) m).fresh (d :: ds) r = (m.fresh ds r).map (d :: ·) := rfl
@[simp] theorem fr_and (a b m : ME) (d : D) (ds : List D) : (ME.cons (.and_ a b) m).fresh (d :: ds) r = (m.fresh ds r).map (d :: ·) := rfl
@[simp] theorem fr_or (a b m : ME) (d : D) (ds : List D) : (ME.cons (.or_ a b) m).fresh (d :: ds) r = (m.fresh ds r).map (d :: ·) := rfl
@[simp] theorem fr_ite (c a b m : ME) (d : D) (ds : List D) : (ME.cons (.ite c a b) m).fresh (d :: ds) r = (m.fresh ds r).map (d :: ·) := rfl
@[simp] theorem fr_chain (o1 o2 : Op) (a b m : ME) (d : D) (ds : List D) : (ME.cons (.chain o1 o2 a b) m).fresh (d :: ds) r = (m.fresh ds r).map (d :: ·) := rfl
@[simp] theorem fr_comp (own : List Nat) (tg : MG) (it c e m : ME) (d : D) (ds : List D) : (ME.cons (.comp own tg it c e) m).fresh (d :: ds) r = (m.fresh ds r).map (d :: ·) := rfl
@[simp] theorem fr_mop (o : MOp) (j : Nat) (a m : ME) (d : D) (ds : List D) : (ME.cons (.mop o j a) m).fresh (d :: ds) r = (m.fresh ds r).map (d :: ·) := rfl
@[simp] theorem fr_cix (n : Nat) (a m : ME) (d : D) (ds : List D) : (ME.cons (.cix n a) m).fresh (d :: ds) r = (m.fresh ds r).map (d :: ·) := rfl
@[simp] theorem fr_rep (n : Nat) (a m : ME) (d : D) (ds : List D) : (ME.cons (.rep n a) m).fresh (d :: ds) r = (m.fresh ds r).map (d :: ·) := rfl
/-- calls -/
def endk (io : List Bool) (x : Out Fl) : VL.CR := match x with
    | .ok f r => match f, iosOf io r with
      | .nx, some outs => .ok .non outs
      | .ret d, some outs => .ok d outs
      | _, _ => .stk
    | .err c fs r => match iosOf io r with
      | some outs => .err c fs outs
      | none => .stk
    | .stk => .stk
def ofk (x : Option (List D)) [k : Hid (List D → VL.CR)] : VL.CR := match x with
  | some outs => k.out outs
  | none => .stk
@[simp] theorem ofk_some (outs : List D) [k : Hid (List D → VL.CR)] : ofk (some outs) = k.out outs := rfl
@[simp] theorem endk_nx (io : List Bool) (r : Env) : endk io (.ok .nx r) = ofk (iosOf io r) (k := ⟨fun outs => .ok .non outs⟩) := by
  show (match Fl.nx, iosOf io r with
      | .nx, some outs => VL.CR.ok .non outs
      | .ret d, some outs => .ok d outs
      | _, _ => .stk) = _
  cases iosOf io r <;> rfl
@[simp] theorem endk_ret (io : List Bool) (d : D) (r : Env) : endk io (.ok (.ret d) r) = ofk (iosOf io r) (k := ⟨fun outs => .ok d outs⟩) := by
  show (match Fl.ret d, iosOf io r with
      | .nx, some outs => VL.CR.ok .non outs
      | .ret d, some outs => .ok d outs
      | _, _ => .stk) = _
  cases iosOf io r <;> rfl
@[simp] theorem endk_err (io : List Bool) (c : Nat) (fs : List D) (r : Env) : endk io (.err c fs r) = ofk (iosOf io r) (k := ⟨fun outs => .err c fs outs⟩) := by
  show (match iosOf io r with
      | some outs => VL.CR.err c fs outs
      | none => .stk) = _
  cases iosOf io r <;> rfl
theorem callN_def {k i : Nat} {ds : List D} {fd : FDef} (h : P.fs[i]? = some fd) (hl : ds.length = fd.io.length) : callN shownD P (k + 1) i ds = endk fd.io (fd.body.ev shownD P (callN shownD P k) fd.rf (startE fd.nslots fd.io ds)) := by
  show (match P.fs[i]? with
    | some fd => fd.run shownD P (callN shownD P k) ds
    | none => .stk) = _
  rw [h]
  show (if ds.length = fd.io.length then _ else _) = _
  rw [if_pos hl]
  rfl
end
end VL

/-! VLT: operations, slots, walks for simp. -/
namespace VL
open PySem PySem.Spec L2
abbrev apS (o : Op) (ds : List D) : Option D := o.ap shownD ds
@[simp] theorem isi_str_non  : Op.ap shownD (.isi .str) [.non] = some (.bl false) := rfl
@[simp] theorem isi_str_bl (b : Bool) : Op.ap shownD (.isi .str) [(.bl b)] = some (.bl false) := rfl
@[simp] theorem isi_str_int (i : Int) : Op.ap shownD (.isi .str) [(.int i)] = some (.bl false) := rfl
@[simp] theorem isi_str_str (s : Str) : Op.ap shownD (.isi .str) [(.str s)] = some (.bl true) := rfl
@[simp] theorem isi_str_tup (xs : List D) : Op.ap shownD (.isi .str) [(.tup xs)] = some (.bl false) := rfl
@[simp] theorem isi_str_lst (xs : List D) : Op.ap shownD (.isi .str) [(.lst xs)] = some (.bl false) := rfl
@[simp] theorem isi_str_dct (kvs : List (D × D)) : Op.ap shownD (.isi .str) [(.dct kvs)] = some (.bl false) := rfl
@[simp] theorem isi_tuple_non  : Op.ap shownD (.isi .tuple) [.non] = some (.bl false) := rfl
@[simp] theorem isi_tuple_bl (b : Bool) : Op.ap shownD (.isi .tuple) [(.bl b)] = some (.bl false) := rfl
@[simp] theorem isi_tuple_int (i : Int) : Op.ap shownD (.isi .tuple) [(.int i)] = some (.bl false) := rfl
@[simp] theorem isi_tuple_str (s : Str) : Op.ap shownD (.isi .tuple) [(.str s)] = some (.bl false) := rfl
@[simp] theorem isi_tuple_tup (xs : List D) : Op.ap shownD (.isi .tuple) [(.tup xs)] = some (.bl true) := rfl
@[simp] theorem isi_tuple_lst (xs : List D) : Op.ap shownD (.isi .tuple) [(.lst xs)] = some (.bl false) := rfl
@[simp] theorem isi_tuple_dct (kvs : List (D × D)) : Op.ap shownD (.isi .tuple) [(.dct kvs)] = some (.bl false) := rfl
@[simp] theorem isi_list_non  : Op.ap shownD (.isi .list) [.non] = some (.bl false) := rfl
@[simp] theorem isi_list_bl (b : Bool) : Op.ap shownD (.isi .list) [(.bl b)] = some (.bl false) := rfl
@[simp] theorem isi_list_int (i : Int) : Op.ap shownD (.isi .list) [(.int i)] = some (.bl false) := rfl
@[simp] theorem isi_list_str (s : Str) : Op.ap shownD (.isi .list) [(.str s)] = some (.bl false) := rfl
@[simp] theorem isi_list_tup (xs : List D) : Op.ap shownD (.isi .list) [(.tup xs)] = some (.bl false) := rfl
@[simp] theorem isi_list_lst (xs : List D) : Op.ap shownD (.isi .list) [(.lst xs)] = some (.bl true) := rfl
@[simp] theorem isi_list_dct (kvs : List (D × D)) : Op.ap shownD (.isi .list) [(.dct kvs)] = some (.bl false) := rfl
@[simp] theorem isi_int_non  : Op.ap shownD (.isi .int) [.non] = some (.bl false) := rfl
@[simp] theorem isi_int_bl (b : Bool) : Op.ap shownD (.isi .int) [(.bl b)] = some (.bl true) := rfl
@[simp] theorem isi_int_int (i : Int) : Op.ap shownD (.isi .int) [(.int i)] = some (.bl true) := rfl
@[simp] theorem isi_int_str (s : Str) : Op.ap shownD (.isi .int) [(.str s)] = some (.bl false) := rfl
@[simp] theorem isi_int_tup (xs : List D) : Op.ap shownD (.isi .int) [(.tup xs)] = some (.bl false) := rfl
@[simp] theorem isi_int_lst (xs : List D) : Op.ap shownD (.isi .int) [(.lst xs)] = some (.bl false) := rfl
@[simp] theorem isi_int_dct (kvs : List (D × D)) : Op.ap shownD (.isi .int) [(.dct kvs)] = some (.bl false) := rfl
@[simp] theorem isi_bool_non  : Op.ap shownD (.isi .bool) [.non] = some (.bl false) := rfl
@[simp] theorem isi_bool_bl (b : Bool) : Op.ap shownD (.isi .bool) [(.bl b)] = some (.bl true) := rfl
@[simp] theorem isi_bool_int (i : Int) : Op.ap shownD (.isi .bool) [(.int i)] = some (.bl false) := rfl
@[simp] theorem isi_bool_str (s : Str) : Op.ap shownD (.isi .bool) [(.str s)] = some (.bl false) := rfl
@[simp] theorem isi_bool_tup (xs : List D) : Op.ap shownD (.isi .bool) [(.tup xs)] = some (.bl false) := rfl
@[simp] theorem isi_bool_lst (xs : List D) : Op.ap shownD (.isi .bool) [(.lst xs)] = some (.bl false) := rfl
@[simp] theorem isi_bool_dct (kvs : List (D × D)) : Op.ap shownD (.isi .bool) [(.dct kvs)] = some (.bl false) := rfl
@[simp] theorem isi_dict_non  : Op.ap shownD (.isi .dict) [.non] = some (.bl false) := rfl
@[simp] theorem isi_dict_bl (b : Bool) : Op.ap shownD (.isi .dict) [(.bl b)] = some (.bl false) := rfl
@[simp] theorem isi_dict_int (i : Int) : Op.ap shownD (.isi .dict) [(.int i)] = some (.bl false) := rfl
@[simp] theorem isi_dict_str (s : Str) : Op.ap shownD (.isi .dict) [(.str s)] = some (.bl false) := rfl
@[simp] theorem isi_dict_tup (xs : List D) : Op.ap shownD (.isi .dict) [(.tup xs)] = some (.bl false) := rfl
@[simp] theorem isi_dict_lst (xs : List D) : Op.ap shownD (.isi .dict) [(.lst xs)] = some (.bl false) := rfl
@[simp] theorem isi_dict_dct (kvs : List (D × D)) : Op.ap shownD (.isi .dict) [(.dct kvs)] = some (.bl true) := rfl
theorem az_tupL (ds : List D) (h : ds.length ≤ line) : Op.ap shownD .tup ds = some (.tup ds) := if_pos h
theorem az_lstL (ds : List D) (h : ds.length ≤ line) : Op.ap shownD .lst ds = some (.lst ds) := if_pos h
@[simp] theorem az_tup0  : Op.ap shownD .tup [] = some (.tup []) := rfl
@[simp] theorem az_lst0  : Op.ap shownD .lst [] = some (.lst []) := rfl
@[simp] theorem az_tup1 (x0 : D) : Op.ap shownD .tup [x0] = some (.tup [x0]) := rfl
@[simp] theorem az_lst1 (x0 : D) : Op.ap shownD .lst [x0] = some (.lst [x0]) := rfl
@[simp] theorem az_tup2 (x0 x1 : D) : Op.ap shownD .tup [x0, x1] = some (.tup [x0, x1]) := rfl
@[simp] theorem az_lst2 (x0 x1 : D) : Op.ap shownD .lst [x0, x1] = some (.lst [x0, x1]) := rfl
@[simp] theorem az_tup3 (x0 x1 x2 : D) : Op.ap shownD .tup [x0, x1, x2] = some (.tup [x0, x1, x2]) := rfl
@[simp] theorem az_lst3 (x0 x1 x2 : D) : Op.ap shownD .lst [x0, x1, x2] = some (.lst [x0, x1, x2]) := rfl
@[simp] theorem az_tup4 (x0 x1 x2 x3 : D) : Op.ap shownD .tup [x0, x1, x2, x3] = some (.tup [x0, x1, x2, x3]) := rfl
@[simp] theorem az_lst4 (x0 x1 x2 x3 : D) : Op.ap shownD .lst [x0, x1, x2, x3] = some (.lst [x0, x1, x2, x3]) := rfl
@[simp] theorem az_tup5 (x0 x1 x2 x3 x4 : D) : Op.ap shownD .tup [x0, x1, x2, x3, x4] = some (.tup [x0, x1, x2, x3, x4]) := rfl
@[simp] theorem az_lst5 (x0 x1 x2 x3 x4 : D) : Op.ap shownD .lst [x0, x1, x2, x3, x4] = some (.lst [x0, x1, x2, x3, x4]) := rfl
@[simp] theorem az_tup6 (x0 x1 x2 x3 x4 x5 : D) : Op.ap shownD .tup [x0, x1, x2, x3, x4, x5] = some (.tup [x0, x1, x2, x3, x4, x5]) := rfl
@[simp] theorem az_lst6 (x0 x1 x2 x3 x4 x5 : D) : Op.ap shownD .lst [x0, x1, x2, x3, x4, x5] = some (.lst [x0, x1, x2, x3, x4, x5]) := rfl
@[simp] theorem az_tup7 (x0 x1 x2 x3 x4 x5 x6 : D) : Op.ap shownD .tup [x0, x1, x2, x3, x4, x5, x6] = some (.tup [x0, x1, x2, x3, x4, x5, x6]) := rfl
@[simp] theorem az_lst7 (x0 x1 x2 x3 x4 x5 x6 : D) : Op.ap shownD .lst [x0, x1, x2, x3, x4, x5, x6] = some (.lst [x0, x1, x2, x3, x4, x5, x6]) := rfl
@[simp] theorem az_tup8 (x0 x1 x2 x3 x4 x5 x6 x7 : D) : Op.ap shownD .tup [x0, x1, x2, x3, x4, x5, x6, x7] = some (.tup [x0, x1, x2, x3, x4, x5, x6, x7]) := rfl
@[simp] theorem az_lst8 (x0 x1 x2 x3 x4 x5 x6 x7 : D) : Op.ap shownD .lst [x0, x1, x2, x3, x4, x5, x6, x7] = some (.lst [x0, x1, x2, x3, x4, x5, x6, x7]) := rfl
@[simp] theorem az_tup9 (x0 x1 x2 x3 x4 x5 x6 x7 x8 : D) : Op.ap shownD .tup [x0, x1, x2, x3, x4, x5, x6, x7, x8] = some (.tup [x0, x1, x2, x3, x4, x5, x6, x7, x8]) := rfl
@[simp] theorem az_lst9 (x0 x1 x2 x3 x4 x5 x6 x7 x8 : D) : Op.ap shownD .lst [x0, x1, x2, x3, x4, x5, x6, x7, x8] = some (.lst [x0, x1, x2, x3, x4, x5, x6, x7, x8]) := rfl
@[simp] theorem az_tup10 (x0 x1 x2 x3 x4 x5 x6 x7 x8 x9 : D) : Op.ap shownD .tup [x0, x1, x2, x3, x4, x5, x6, x7, x8, x9] = some (.tup [x0, x1, x2, x3, x4, x5, x6, x7, x8, x9]) := rfl
@[simp] theorem az_lst10 (x0 x1 x2 x3 x4 x5 x6 x7 x8 x9 : D) : Op.ap shownD .lst [x0, x1, x2, x3, x4, x5, x6, x7, x8, x9] = some (.lst [x0, x1, x2, x3, x4, x5, x6, x7, x8, x9]) := rfl
@[simp] theorem az_tup11 (x0 x1 x2 x3 x4 x5 x6 x7 x8 x9 x10 : D) : Op.ap shownD .tup [x0, x1, x2, x3, x4, x5, x6, x7, x8, x9, x10] = some (.tup [x0, x1, x2, x3, x4, x5, x6, x7, x8, x9, x10]) := rfl
@[simp] theorem az_lst11 (x0 x1 x2 x3 x4 x5 x6 x7 x8 x9 x10 : D) : Op.ap shownD .lst [x0, x1, x2, x3, x4, x5, x6, x7, x8, x9, x10] = some (.lst [x0, x1, x2, x3, x4, x5, x6, x7, x8, x9, x10]) := rfl
@[simp] theorem az_tup12 (x0 x1 x2 x3 x4 x5 x6 x7 x8 x9 x10 x11 : D) : Op.ap shownD .tup [x0, x1, x2, x3, x4, x5, x6, x7, x8, x9, x10, x11] = some (.tup [x0, x1, x2, x3, x4, x5, x6, x7, x8, x9, x10, x11]) := rfl
@[simp] theorem az_lst12 (x0 x1 x2 x3 x4 x5 x6 x7 x8 x9 x10 x11 : D) : Op.ap shownD .lst [x0, x1, x2, x3, x4, x5, x6, x7, x8, x9, x10, x11] = some (.lst [x0, x1, x2, x3, x4, x5, x6, x7, x8, x9, x10, x11]) := rfl
@[simp] theorem az_tup13 (x0 x1 x2 x3 x4 x5 x6 x7 x8 x9 x10 x11 x12 : D) : Op.ap shownD .tup [x0, x1, x2, x3, x4, x5, x6, x7, x8, x9, x10, x11, x12] = some (.tup [x0, x1, x2, x3, x4, x5, x6, x7, x8, x9, x10, x11, x12]) := rfl
@[simp] theorem az_lst13 (x0 x1 x2 x3 x4 x5 x6 x7 x8 x9 x10 x11 x12 : D) : Op.ap shownD .lst [x0, x1, x2, x3, x4, x5, x6, x7, x8, x9, x10, x11, x12] = some (.lst [x0, x1, x2, x3, x4, x5, x6, x7, x8, x9, x10, x11, x12]) := rfl
@[simp] theorem az_tup14 (x0 x1 x2 x3 x4 x5 x6 x7 x8 x9 x10 x11 x12 x13 : D) : Op.ap shownD .tup [x0, x1, x2, x3, x4, x5, x6, x7, x8, x9, x10, x11, x12, x13] = some (.tup [x0, x1, x2, x3, x4, x5, x6, x7, x8, x9, x10, x11, x12, x13]) := rfl
@[simp] theorem az_lst14 (x0 x1 x2 x3 x4 x5 x6 x7 x8 x9 x10 x11 x12 x13 : D) : Op.ap shownD .lst [x0, x1, x2, x3, x4, x5, x6, x7, x8, x9, x10, x11, x12, x13] = some (.lst [x0, x1, x2, x3, x4, x5, x6, x7, x8, x9, x10, x11, x12, x13]) := rfl
@[simp] theorem az_tup15 (x0 x1 x2 x3 x4 x5 x6 x7 x8 x9 x10 x11 x12 x13 x14 : D) : Op.ap shownD .tup [x0, x1, x2, x3, x4, x5, x6, x7, x8, x9, x10, x11, x12, x13, x14] = some (.tup [x0, x1, x2, x3, x4, x5, x6, x7, x8, x9, x10, x11, x12, x13, x14]) := rfl
@[simp] theorem az_lst15 (x0 x1 x2 x3 x4 x5 x6 x7 x8 x9 x10 x11 x12 x13 x14 : D) : Op.ap shownD .lst [x0, x1, x2, x3, x4, x5, x6, x7, x8, x9, x10, x11, x12, x13, x14] = some (.lst [x0, x1, x2, x3, x4, x5, x6, x7, x8, x9, x10, x11, x12, x13, x14]) := rfl
@[simp] theorem az_tup16 (x0 x1 x2 x3 x4 x5 x6 x7 x8 x9 x10 x11 x12 x13 x14 x15 : D) : Op.ap shownD .tup [x0, x1, x2, x3, x4, x5, x6, x7, x8, x9, x10, x11, x12, x13, x14, x15] = some (.tup [x0, x1, x2, x3, x4, x5, x6, x7, x8, x9, x10, x11, x12, x13, x14, x15]) := rfl
@[simp] theorem az_lst16 (x0 x1 x2 x3 x4 x5 x6 x7 x8 x9 x10 x11 x12 x13 x14 x15 : D) : Op.ap shownD .lst [x0, x1, x2, x3, x4, x5, x6, x7, x8, x9, x10, x11, x12, x13, x14, x15] = some (.lst [x0, x1, x2, x3, x4, x5, x6, x7, x8, x9, x10, x11, x12, x13, x14, x15]) := rfl
@[simp] theorem az_tup17 (x0 x1 x2 x3 x4 x5 x6 x7 x8 x9 x10 x11 x12 x13 x14 x15 x16 : D) : Op.ap shownD .tup [x0, x1, x2, x3, x4, x5, x6, x7, x8, x9, x10, x11, x12, x13, x14, x15, x16] = some (.tup [x0, x1, x2, x3, x4, x5, x6, x7, x8, x9, x10, x11, x12, x13, x14, x15, x16]) := rfl
@[simp] theorem az_lst17 (x0 x1 x2 x3 x4 x5 x6 x7 x8 x9 x10 x11 x12 x13 x14 x15 x16 : D) : Op.ap shownD .lst [x0, x1, x2, x3, x4, x5, x6, x7, x8, x9, x10, x11, x12, x13, x14, x15, x16] = some (.lst [x0, x1, x2, x3, x4, x5, x6, x7, x8, x9, x10, x11, x12, x13, x14, x15, x16]) := rfl
@[simp] theorem az_tup18 (x0 x1 x2 x3 x4 x5 x6 x7 x8 x9 x10 x11 x12 x13 x14 x15 x16 x17 : D) : Op.ap shownD .tup [x0, x1, x2, x3, x4, x5, x6, x7, x8, x9, x10, x11, x12, x13, x14, x15, x16, x17] = some (.tup [x0, x1, x2, x3, x4, x5, x6, x7, x8, x9, x10, x11, x12, x13, x14, x15, x16, x17]) := rfl
@[simp] theorem az_lst18 (x0 x1 x2 x3 x4 x5 x6 x7 x8 x9 x10 x11 x12 x13 x14 x15 x16 x17 : D) : Op.ap shownD .lst [x0, x1, x2, x3, x4, x5, x6, x7, x8, x9, x10, x11, x12, x13, x14, x15, x16, x17] = some (.lst [x0, x1, x2, x3, x4, x5, x6, x7, x8, x9, x10, x11, x12, x13, x14, x15, x16, x17]) := rfl
@[simp] theorem az_tup19 (x0 x1 x2 x3 x4 x5 x6 x7 x8 x9 x10 x11 x12 x13 x14 x15 x16 x17 x18 : D) : Op.ap shownD .tup [x0, x1, x2, x3, x4, x5, x6, x7, x8, x9, x10, x11, x12, x13, x14, x15, x16, x17, x18] = some (.tup [x0, x1, x2, x3, x4, x5, x6, x7, x8, x9, x10, x11, x12, x13, x14, x15, x16, x17, x18]) := rfl
@[simp] theorem az_lst19 (x0 x1 x2 x3 x4 x5 x6 x7 x8 x9 x10 x11 x12 x13 x14 x15 x16 x17 x18 : D) : Op.ap shownD .lst [x0, x1, x2, x3, x4, x5, x6, x7, x8, x9, x10, x11, x12, x13, x14, x15, x16, x17, x18] = some (.lst [x0, x1, x2, x3, x4, x5, x6, x7, x8, x9, x10, x11, x12, x13, x14, x15, x16, x17, x18]) := rfl
@[simp] theorem az_tup20 (x0 x1 x2 x3 x4 x5 x6 x7 x8 x9 x10 x11 x12 x13 x14 x15 x16 x17 x18 x19 : D) : Op.ap shownD .tup [x0, x1, x2, x3, x4, x5, x6, x7, x8, x9, x10, x11, x12, x13, x14, x15, x16, x17, x18, x19] = some (.tup [x0, x1, x2, x3, x4, x5, x6, x7, x8, x9, x10, x11, x12, x13, x14, x15, x16, x17, x18, x19]) := rfl
@[simp] theorem az_lst20 (x0 x1 x2 x3 x4 x5 x6 x7 x8 x9 x10 x11 x12 x13 x14 x15 x16 x17 x18 x19 : D) : Op.ap shownD .lst [x0, x1, x2, x3, x4, x5, x6, x7, x8, x9, x10, x11, x12, x13, x14, x15, x16, x17, x18, x19] = some (.lst [x0, x1, x2, x3, x4, x5, x6, x7, x8, x9, x10, x11, x12, x13, x14, x15, x16, x17, x18, x19]) := rfl
@[simp] theorem az_len_lst (xs : List D) : Op.ap shownD .len [.lst xs] = some (.int xs.length) := rfl
@[simp] theorem az_len_tup (xs : List D) : Op.ap shownD .len [.tup xs] = some (.int xs.length) := rfl
@[simp] theorem az_len_dct (xs : List (D × D)) : Op.ap shownD .len [.dct xs] = some (.int xs.length) := rfl
@[simp] theorem az_len_str (s : Str) (h : s.length ≤ line) : Op.ap shownD .len [.str s] = some (.int s.length) := if_pos h
@[simp] theorem az_all (xs : List D) : Op.ap shownD .all [.lst xs] = (D.bools xs).map fun bs => .bl (bs.all id) := rfl
@[simp] theorem az_any (xs : List D) : Op.ap shownD .any [.lst xs] = (D.bools xs).map fun bs => .bl (bs.any id) := rfl
@[simp] theorem az_isN (d : D) : Op.ap shownD .isN [d] = some (.bl d.isNon) := rfl
@[simp] theorem az_notN (d : D) : Op.ap shownD .notN [d] = some (.bl (!d.isNon)) := rfl
@[simp] theorem az_isB (b : Bool) (d : D) : Op.ap shownD (.isB b) [d] = some (.bl (d.isB b)) := rfl
@[simp] theorem az_isntB (b : Bool) (d : D) : Op.ap shownD (.isntB b) [d] = some (.bl (!d.isB b)) := rfl
@[simp] theorem az_neg (i : Int) : Op.ap shownD .neg [.int i] = some (.int (-i)) := rfl
@[simp] theorem az_not (d : D) : Op.ap shownD .not_ [d] = d.tru.map fun b => .bl (!b) := rfl
@[simp] theorem az_toInt_i (i : Int) : Op.ap shownD .toInt [.int i] = some (.int i) := rfl
@[simp] theorem az_toInt_b (b : Bool) : Op.ap shownD .toInt [.bl b] = some (.int (b2i b)) := rfl
@[simp] theorem b2i_t : b2i true = 1 := rfl
@[simp] theorem b2i_f : b2i false = 0 := rfl
@[simp] theorem az_toList_l (xs : List D) : Op.ap shownD .toList [.lst xs] = some (.lst xs) := rfl
@[simp] theorem az_toList_t (xs : List D) : Op.ap shownD .toList [.tup xs] = some (.lst xs) := rfl
@[simp] theorem az_toTuple_l (xs : List D) : Op.ap shownD .toTuple [.lst xs] = some (.tup xs) := rfl
@[simp] theorem az_toTuple_t (xs : List D) : Op.ap shownD .toTuple [.tup xs] = some (.tup xs) := rfl
@[simp] theorem az_repr (d : D) : Op.ap shownD .repr [d] = (shownD d).map .str := rfl
@[simp] theorem az_enum (xs : List D) : Op.ap shownD .enum [.lst xs] = some (.lst (enumD 0 xs)) := rfl
@[simp] theorem az_enumT (xs : List D) : Op.ap shownD .enum [.tup xs] = some (.lst (enumD 0 xs)) := rfl
theorem az_sorted (xs : List D) (h : sortOk xs = true) : Op.ap shownD .sorted [.lst xs] = some (.lst (sortD xs)) := if_pos h
@[simp] theorem az_range1 (i : Int) (h : rngOk i = true) : Op.ap shownD .range1 [.int i] = some (.lst (iota 0 i.toNat)) := if_pos h
@[simp] theorem az_range2 (i j : Int) (h : rngOk i = true) (h2 : rngOk j = true) : Op.ap shownD .range2 [.int i, .int j] = some (.lst (iota i (j - i).toNat)) := if_pos (by rw [h, h2]; rfl)
@[simp] theorem az_lt (i j : Int) : Op.ap shownD .lt [.int i, .int j] = some (.bl (decide (i < j))) := rfl
@[simp] theorem az_le (i j : Int) : Op.ap shownD .le [.int i, .int j] = some (.bl (decide (i ≤ j))) := rfl
@[simp] theorem az_gt (i j : Int) : Op.ap shownD .gt [.int i, .int j] = some (.bl (decide (j < i))) := rfl
@[simp] theorem az_ge (i j : Int) : Op.ap shownD .ge [.int i, .int j] = some (.bl (decide (j ≤ i))) := rfl
@[simp] theorem az_add_i (i j : Int) : Op.ap shownD .add [.int i, .int j] = some (.int (i + j)) := rfl
theorem az_add_s (a b : Str) (h : a.length + b.length ≤ line) : Op.ap shownD .add [.str a, .str b] = some (.str (a ++ b)) := if_pos h
theorem az_add_l (a b : List D) (h : a.length + b.length ≤ line) : Op.ap shownD .add [.lst a, .lst b] = some (.lst (a ++ b)) := if_pos h
theorem az_add_t (a b : List D) (h : a.length + b.length ≤ line) : Op.ap shownD .add [.tup a, .tup b] = some (.tup (a ++ b)) := if_pos h
@[simp] theorem az_sub (i j : Int) : Op.ap shownD .sub [.int i, .int j] = some (.int (i - j)) := rfl
theorem az_mul (i j : Int) (h : mulOk i j = true) : Op.ap shownD .mul [.int i, .int j] = some (.int (i * j)) := if_pos h
theorem az_mod (i j : Int) (h : j ≠ 0) : Op.ap shownD .mod [.int i, .int j] = some (.int (i.fmod j)) := if_neg h
theorem az_fdiv (i j : Int) (h : divOk j = true) : Op.ap shownD .fdiv [.int i, .int j] = some (.int (i.fdiv j)) := if_pos h
theorem az_pow (i j : Int) (h : powOk i j = true) : Op.ap shownD .pow [.int i, .int j] = some (.int (i ^ j.toNat)) := if_pos h
@[simp] theorem az_max2 (i j : Int) : Op.ap shownD .max2 [.int i, .int j] = some (.int (if j > i then j else i)) := rfl
@[simp] theorem az_min2 (i j : Int) : Op.ap shownD .min2 [.int i, .int j] = some (.int (if j < i then j else i)) := rfl
@[simp] theorem az_ix_l (xs : List D) (i : Int) : Op.ap shownD .ix [.lst xs, .int i] = ixD xs i := rfl
@[simp] theorem az_ix_t (xs : List D) (i : Int) : Op.ap shownD .ix [.tup xs, .int i] = ixD xs i := rfl
theorem az_ix_s (s : Str) (i : Int) (h : s.length ≤ line) : Op.ap shownD .ix [.str s, .int i] = (ixD s.cps.toList i).map chr1 := if_pos h
@[simp] theorem az_sl_l_ff (xs : List D) : Op.ap shownD (.sl false false) [.lst xs] = some (.lst (cutD xs none none)) := rfl
@[simp] theorem az_sl_l_tf (xs : List D) (i : Int) : Op.ap shownD (.sl true false) [.lst xs, .int i] = some (.lst (cutD xs (some i) none)) := rfl
@[simp] theorem az_sl_l_ft (xs : List D) (i : Int) : Op.ap shownD (.sl false true) [.lst xs, .int i] = some (.lst (cutD xs none (some i))) := rfl
@[simp] theorem az_sl_t_ff (xs : List D) : Op.ap shownD (.sl false false) [.tup xs] = some (.tup (cutD xs none none)) := rfl
@[simp] theorem az_sl_t_tf (xs : List D) (i : Int) : Op.ap shownD (.sl true false) [.tup xs, .int i] = some (.tup (cutD xs (some i) none)) := rfl
@[simp] theorem az_sl_t_ft (xs : List D) (i : Int) : Op.ap shownD (.sl false true) [.tup xs, .int i] = some (.tup (cutD xs none (some i))) := rfl
@[simp] theorem ixD_0 {α : Type} (x0 : α) (l : List α) : ixD (x0 :: l) 0 = some x0 := by
  unfold ixD
  rw [if_pos (by decide), if_pos (by simp only [List.length_cons]; omega)]
  rfl
@[simp] theorem ixD_1 {α : Type} (x0 x1 : α) (l : List α) : ixD (x0 :: x1 :: l) 1 = some x1 := by
  unfold ixD
  rw [if_pos (by decide), if_pos (by simp only [List.length_cons]; omega)]
  rfl
@[simp] theorem ixD_2 {α : Type} (x0 x1 x2 : α) (l : List α) : ixD (x0 :: x1 :: x2 :: l) 2 = some x2 := by
  unfold ixD
  rw [if_pos (by decide), if_pos (by simp only [List.length_cons]; omega)]
  rfl
@[simp] theorem ixD_3 {α : Type} (x0 x1 x2 x3 : α) (l : List α) : ixD (x0 :: x1 :: x2 :: x3 :: l) 3 = some x3 := by
  unfold ixD
  rw [if_pos (by decide), if_pos (by simp only [List.length_cons]; omega)]
  rfl
@[simp] theorem ixD_4 {α : Type} (x0 x1 x2 x3 x4 : α) (l : List α) : ixD (x0 :: x1 :: x2 :: x3 :: x4 :: l) 4 = some x4 := by
  unfold ixD
  rw [if_pos (by decide), if_pos (by simp only [List.length_cons]; omega)]
  rfl
@[simp] theorem ixD_5 {α : Type} (x0 x1 x2 x3 x4 x5 : α) (l : List α) : ixD (x0 :: x1 :: x2 :: x3 :: x4 :: x5 :: l) 5 = some x5 := by
  unfold ixD
  rw [if_pos (by decide), if_pos (by simp only [List.length_cons]; omega)]
  rfl
@[simp] theorem ixD_6 {α : Type} (x0 x1 x2 x3 x4 x5 x6 : α) (l : List α) : ixD (x0 :: x1 :: x2 :: x3 :: x4 :: x5 :: x6 :: l) 6 = some x6 := by
  unfold ixD
  rw [if_pos (by decide), if_pos (by simp only [List.length_cons]; omega)]
  rfl
@[simp] theorem ixD_7 {α : Type} (x0 x1 x2 x3 x4 x5 x6 x7 : α) (l : List α) : ixD (x0 :: x1 :: x2 :: x3 :: x4 :: x5 :: x6 :: x7 :: l) 7 = some x7 := by
  unfold ixD
  rw [if_pos (by decide), if_pos (by simp only [List.length_cons]; omega)]
  rfl
@[simp] theorem ixD_8 {α : Type} (x0 x1 x2 x3 x4 x5 x6 x7 x8 : α) (l : List α) : ixD (x0 :: x1 :: x2 :: x3 :: x4 :: x5 :: x6 :: x7 :: x8 :: l) 8 = some x8 := by
  unfold ixD
  rw [if_pos (by decide), if_pos (by simp only [List.length_cons]; omega)]
  rfl
@[simp] theorem ixD_9 {α : Type} (x0 x1 x2 x3 x4 x5 x6 x7 x8 x9 : α) (l : List α) : ixD (x0 :: x1 :: x2 :: x3 :: x4 :: x5 :: x6 :: x7 :: x8 :: x9 :: l) 9 = some x9 := by
  unfold ixD
  rw [if_pos (by decide), if_pos (by simp only [List.length_cons]; omega)]
  rfl
/-- == -/
theorem az_eq (a b : D) (ha : a.cmp = true) (hb : b.cmp = true) : Op.ap shownD .eq [a, b] = some (.bl (D.eq a b)) := if_pos (by rw [ha, hb]; rfl)
theorem az_ne (a b : D) (ha : a.cmp = true) (hb : b.cmp = true) (ha2 : a.isDc = false) (hb2 : b.isDc = false) : Op.ap shownD .ne [a, b] = some (.bl (!D.eq a b)) := if_pos (by rw [ha, hb, ha2, hb2]; rfl)
@[simp] theorem isDc_lst (xs : List D) : (D.lst xs).isDc = false := (rfl)
@[simp] theorem isDc_tup (xs : List D) : (D.tup xs).isDc = false := (rfl)
@[simp] theorem isDc_str (xs : Str) : (D.str xs).isDc = false := (rfl)
@[simp] theorem isDc_int (xs : Int) : (D.int xs).isDc = false := (rfl)
@[simp] theorem isDc_bl (xs : Bool) : (D.bl xs).isDc = false := (rfl)
@[simp] theorem isDc_non : D.non.isDc = false := (rfl)
theorem az_in_l (a : D) (xs : List D) (ha : a.cmp = true) (hb : (D.lst xs).cmp = true) : Op.ap shownD .isin [a, .lst xs] = some (.bl (inD a xs)) := if_pos (by rw [ha, hb]; rfl)
theorem az_in_t (a : D) (xs : List D) (ha : a.cmp = true) (hb : (D.lst xs).cmp = true) : Op.ap shownD .isin [a, .tup xs] = some (.bl (inD a xs)) := if_pos (by rw [ha, hb]; rfl)
theorem az_nin_l (a : D) (xs : List D) (ha : a.cmp = true) (hb : (D.lst xs).cmp = true) : Op.ap shownD .notin [a, .lst xs] = some (.bl (!inD a xs)) := if_pos (by rw [ha, hb]; rfl)
theorem az_nin_t (a : D) (xs : List D) (ha : a.cmp = true) (hb : (D.lst xs).cmp = true) : Op.ap shownD .notin [a, .tup xs] = some (.bl (!inD a xs)) := if_pos (by rw [ha, hb]; rfl)
theorem az_in_s (c : Nat) (t : Str) : Op.ap shownD .isin [chr1 c, .str t] = some (.bl (decide (c ∈ t.cps.toList))) := rfl
theorem az_nin_s (c : Nat) (t : Str) : Op.ap shownD .notin [chr1 c, .str t] = some (.bl (!decide (c ∈ t.cps.toList))) := rfl
/-- comparable: flat, not deeper than n -/
def D.lv : Nat → D → Bool
  | n + 1, .tup xs => xs.all (D.lv n)
  | n + 1, .lst xs => xs.all (D.lv n)
  | 0, .tup _ => false
  | 0, .lst _ => false
  | n + 1, .dct kvs => kvs.isEmpty
  | 0, .dct _ => false
  | _, _ => true
theorem flats_all : ∀ xs : List D, D.flat.flats xs = xs.all D.flat
  | [] => rfl
  | x :: xs => by
    show (D.flat x && D.flat.flats xs) = _
    rw [flats_all xs]
    rfl
theorem deps_le {n : Nat} : ∀ xs : List D, (∀ x ∈ xs, D.dep x ≤ n) → D.dep.deps xs ≤ n
  | [], _ => Nat.zero_le _
  | x :: xs, h => Nat.max_le.mpr ⟨h x (List.mem_cons_self ..), deps_le xs fun y hy => h y (List.mem_cons_of_mem _ hy)⟩
theorem lv_ok : ∀ {n : Nat} {d : D}, d.lv n = true → d.flat = true ∧ d.dep ≤ n
  | 0, .non, _ => ⟨rfl, Nat.zero_le _⟩
  | 0, .bl _, _ => ⟨rfl, Nat.zero_le _⟩
  | 0, .int _, _ => ⟨rfl, Nat.zero_le _⟩
  | 0, .str _, _ => ⟨rfl, Nat.zero_le _⟩
  | _ + 1, .non, _ => ⟨rfl, Nat.zero_le _⟩
  | _ + 1, .bl _, _ => ⟨rfl, Nat.zero_le _⟩
  | _ + 1, .int _, _ => ⟨rfl, Nat.zero_le _⟩
  | _ + 1, .str _, _ => ⟨rfl, Nat.zero_le _⟩
  | n + 1, .dct kvs, h => ⟨h, Nat.succ_le_succ (Nat.zero_le _)⟩
  | n + 1, .tup xs, h => by
    have h : ∀ x ∈ xs, D.lv n x = true := List.all_eq_true.mp h
    refine ⟨?_, Nat.succ_le_succ (deps_le xs fun x hx => (lv_ok (h x hx)).2)⟩
    show D.flat.flats xs = true
    rw [flats_all]
    exact List.all_eq_true.mpr fun x hx => (lv_ok (h x hx)).1
  | n + 1, .lst xs, h => by
    have h : ∀ x ∈ xs, D.lv n x = true := List.all_eq_true.mp h
    refine ⟨?_, Nat.succ_le_succ (deps_le xs fun x hx => (lv_ok (h x hx)).2)⟩
    show D.flat.flats xs = true
    rw [flats_all]
    exact List.all_eq_true.mpr fun x hx => (lv_ok (h x hx)).1
theorem lv_cmp {d : D} (n : Nat) (h : d.lv n = true) (hn : n ≤ 60) : d.cmp = true := by
  obtain ⟨h1, h2⟩ := lv_ok h
  unfold D.cmp
  rw [h1, decide_eq_true (Nat.le_trans h2 hn)]
  rfl
theorem lv_mono : ∀ {n m : Nat} {d : D}, n ≤ m → d.lv n = true → d.lv m = true
  | 0, 0, .non, _, _ | 0, 0, .bl _, _, _ | 0, 0, .int _, _, _ | 0, 0, .str _, _, _ | _, _ + 1, .non, _, _ | _, _ + 1, .bl _, _, _ | _, _ + 1, .int _, _, _ | _, _ + 1, .str _, _, _ => rfl
  | _ + 1, 0, _, h, _ => absurd h (Nat.not_succ_le_zero _)
  | n + 1, m + 1, .tup xs, h, e => List.all_eq_true.mpr fun x hx => lv_mono (Nat.le_of_succ_le_succ h) (List.all_eq_true.mp e x hx)
  | n + 1, m + 1, .lst xs, h, e => List.all_eq_true.mpr fun x hx => lv_mono (Nat.le_of_succ_le_succ h) (List.all_eq_true.mp e x hx)
  | n + 1, m + 1, .dct _, _, e => e
  | 0, _, .dct _, _, e => by cases e
theorem cmp_lst {xs : List D} (n : Nat) (h : ∀ x ∈ xs, D.lv n x = true) (hn : n < 60) : (D.lst xs).cmp = true := lv_cmp (n + 1) (List.all_eq_true.mpr h) hn
theorem cmp_tup {xs : List D} (n : Nat) (h : ∀ x ∈ xs, D.lv n x = true) (hn : n < 60) : (D.tup xs).cmp = true := lv_cmp (n + 1) (List.all_eq_true.mpr h) hn
@[simp] theorem cmp_lst0 (xs : List D) : (D.lst xs).cmp = xs.all (D.lv 59) := by
  rw [Bool.eq_iff_iff]
  constructor
  · intro h
    unfold D.cmp at h
    rw [Bool.and_eq_true] at h
    refine List.all_eq_true.mpr fun x hx => ?_
    have : ∀ (n : Nat) (x : D), D.flat x = true → D.dep x ≤ n → D.lv n x = true := by
      intro n
      induction n with
      | zero =>
        intro x h1 h2
        cases x <;> first | rfl | exact absurd h2 (Nat.not_succ_le_zero _)
      | succ n ih =>
        intro x h1 h2
        have hd : ∀ {xs : List D} {x : D}, x ∈ xs → D.dep x ≤ D.dep.deps xs := by
          intro xs
          induction xs with
          | nil => intro x hx; cases hx
          | cons y ys ih =>
            intro x hx
            rcases List.mem_cons.mp hx with rfl | hx
            · exact Nat.le_max_left ..
            · exact Nat.le_trans (ih hx) (Nat.le_max_right ..)
        cases x <;> first | rfl | exact h1 | skip
        · rename_i xs
          have h1 : D.flat.flats xs = true := h1
          rw [flats_all] at h1
          exact List.all_eq_true.mpr fun y hy => ih y (List.all_eq_true.mp h1 y hy) (Nat.le_trans (hd hy) (Nat.le_of_succ_le_succ h2))
        · rename_i xs
          have h1 : D.flat.flats xs = true := h1
          rw [flats_all] at h1
          exact List.all_eq_true.mpr fun y hy => ih y (List.all_eq_true.mp h1 y hy) (Nat.le_trans (hd hy) (Nat.le_of_succ_le_succ h2))
    have q : D.lv 60 (.lst xs) = true := this 60 _ h.1 (of_decide_eq_true h.2)
    exact List.all_eq_true.mp q x hx
  · intro h
    exact lv_cmp 60 h (Nat.le_refl _)
@[simp] theorem cmp_tup0 (xs : List D) : (D.tup xs).cmp = xs.all (D.lv 59) := cmp_lst0 xs
@[simp] theorem cmp_non : D.non.cmp = true := (rfl)
@[simp] theorem cmp_bl (b : Bool) : (D.bl b).cmp = true := (rfl)
@[simp] theorem cmp_int (i : Int) : (D.int i).cmp = true := (rfl)
@[simp] theorem cmp_str (s : Str) : (D.str s).cmp = true := (rfl)
@[simp] theorem lv_non (n : Nat) : D.lv n .non = true := by cases n <;> rfl
@[simp] theorem lv_bl (n : Nat) (b : Bool) : D.lv n (.bl b) = true := by cases n <;> rfl
@[simp] theorem lv_int (n : Nat) (i : Int) : D.lv n (.int i) = true := by cases n <;> rfl
@[simp] theorem lv_str (n : Nat) (s : Str) : D.lv n (.str s) = true := by cases n <;> rfl
@[simp] theorem lv_dct (n : Nat) (xs : List (D × D)) : D.lv (n + 1) (.dct xs) = xs.isEmpty := (rfl)
@[simp] theorem lv_tup (n : Nat) (xs : List D) : D.lv (n + 1) (.tup xs) = xs.all (D.lv n) := (rfl)
@[simp] theorem lv_lst (n : Nat) (xs : List D) : D.lv (n + 1) (.lst xs) = xs.all (D.lv n) := (rfl)
@[simp] theorem ofS_inj (a b : String) : (Str.ofString a = Str.ofString b) = (a = b) := by
  apply propext
  constructor
  · intro h
    rw [Str.ofString_eq_toList, Str.ofString_eq_toList, Str.mk.injEq] at h
    have h : a.toList.map Char.toNat = b.toList.map Char.toNat := by simpa using congrArg Array.toList h
    have : a.toList = b.toList := (List.map_inj_right fun x y e => Char.toNat_inj.mp e).mp h
    exact String.toList_injective this
  · intro h
    rw [h]
theorem beqd {α : Type} [BEq α] [LawfulBEq α] [DecidableEq α] (a b : α) : (a == b) = decide (a = b) := by
  rw [Bool.eq_iff_iff]
  simp
@[simp] theorem az_eq_non_non : Op.ap shownD .eq [.non, .non] = some (.bl true) := rfl
@[simp] theorem az_ne_non_non : Op.ap shownD .ne [.non, .non] = some (.bl (!true)) := rfl
@[simp] theorem az_eq_non_bl (b : Bool) : Op.ap shownD .eq [.non, (.bl b)] = some (.bl false) := rfl
@[simp] theorem az_ne_non_bl (b : Bool) : Op.ap shownD .ne [.non, (.bl b)] = some (.bl (!false)) := rfl
@[simp] theorem az_eq_non_int (b : Int) : Op.ap shownD .eq [.non, (.int b)] = some (.bl false) := rfl
@[simp] theorem az_ne_non_int (b : Int) : Op.ap shownD .ne [.non, (.int b)] = some (.bl (!false)) := rfl
@[simp] theorem az_eq_non_str (b : Str) : Op.ap shownD .eq [.non, (.str b)] = some (.bl false) := rfl
@[simp] theorem az_ne_non_str (b : Str) : Op.ap shownD .ne [.non, (.str b)] = some (.bl (!false)) := rfl
@[simp] theorem az_eq_bl_non (a : Bool) : Op.ap shownD .eq [(.bl a), .non] = some (.bl false) := rfl
@[simp] theorem az_ne_bl_non (a : Bool) : Op.ap shownD .ne [(.bl a), .non] = some (.bl (!false)) := rfl
@[simp] theorem az_eq_bl_bl (a b : Bool) : Op.ap shownD .eq [(.bl a), (.bl b)] = some (.bl (decide (a = b))) := by rw [← beqd a b]; rfl
@[simp] theorem az_ne_bl_bl (a b : Bool) : Op.ap shownD .ne [(.bl a), (.bl b)] = some (.bl (!decide (a = b))) := by rw [← beqd a b]; rfl
@[simp] theorem az_eq_bl_int (a : Bool) (b : Int) : Op.ap shownD .eq [(.bl a), (.int b)] = some (.bl (decide (b2i a = b))) := by rw [← beqd]; rfl
@[simp] theorem az_ne_bl_int (a : Bool) (b : Int) : Op.ap shownD .ne [(.bl a), (.int b)] = some (.bl (!decide (b2i a = b))) := by rw [← beqd]; rfl
@[simp] theorem az_eq_bl_str (a : Bool) (b : Str) : Op.ap shownD .eq [(.bl a), (.str b)] = some (.bl false) := rfl
@[simp] theorem az_ne_bl_str (a : Bool) (b : Str) : Op.ap shownD .ne [(.bl a), (.str b)] = some (.bl (!false)) := rfl
@[simp] theorem az_eq_int_non (a : Int) : Op.ap shownD .eq [(.int a), .non] = some (.bl false) := rfl
@[simp] theorem az_ne_int_non (a : Int) : Op.ap shownD .ne [(.int a), .non] = some (.bl (!false)) := rfl
@[simp] theorem az_eq_int_bl (a : Int) (b : Bool) : Op.ap shownD .eq [(.int a), (.bl b)] = some (.bl (decide (a = b2i b))) := by rw [← beqd]; rfl
@[simp] theorem az_ne_int_bl (a : Int) (b : Bool) : Op.ap shownD .ne [(.int a), (.bl b)] = some (.bl (!decide (a = b2i b))) := by rw [← beqd]; rfl
@[simp] theorem az_eq_int_int (a b : Int) : Op.ap shownD .eq [(.int a), (.int b)] = some (.bl (decide (a = b))) := by rw [← beqd a b]; rfl
@[simp] theorem az_ne_int_int (a b : Int) : Op.ap shownD .ne [(.int a), (.int b)] = some (.bl (!decide (a = b))) := by rw [← beqd a b]; rfl
@[simp] theorem az_eq_int_str (a : Int) (b : Str) : Op.ap shownD .eq [(.int a), (.str b)] = some (.bl false) := rfl
@[simp] theorem az_ne_int_str (a : Int) (b : Str) : Op.ap shownD .ne [(.int a), (.str b)] = some (.bl (!false)) := rfl
@[simp] theorem az_eq_str_non (a : Str) : Op.ap shownD .eq [(.str a), .non] = some (.bl false) := rfl
@[simp] theorem az_ne_str_non (a : Str) : Op.ap shownD .ne [(.str a), .non] = some (.bl (!false)) := rfl
@[simp] theorem az_eq_str_bl (a : Str) (b : Bool) : Op.ap shownD .eq [(.str a), (.bl b)] = some (.bl false) := rfl
@[simp] theorem az_ne_str_bl (a : Str) (b : Bool) : Op.ap shownD .ne [(.str a), (.bl b)] = some (.bl (!false)) := rfl
@[simp] theorem az_eq_str_int (a : Str) (b : Int) : Op.ap shownD .eq [(.str a), (.int b)] = some (.bl false) := rfl
@[simp] theorem az_ne_str_int (a : Str) (b : Int) : Op.ap shownD .ne [(.str a), (.int b)] = some (.bl (!false)) := rfl
@[simp] theorem az_eq_str_str (a b : Str) : Op.ap shownD .eq [(.str a), (.str b)] = some (.bl (decide (a = b))) := by rw [← beqd a b]; rfl
@[simp] theorem az_ne_str_str (a b : Str) : Op.ap shownD .ne [(.str a), (.str b)] = some (.bl (!decide (a = b))) := by rw [← beqd a b]; rfl
@[simp] theorem eq_non_non : D.eq .non .non = true := rfl
@[simp] theorem eq_non_bl (b : Bool) : D.eq .non (.bl b) = false := rfl
@[simp] theorem eq_non_int (b : Int) : D.eq .non (.int b) = false := rfl
@[simp] theorem eq_non_str (b : Str) : D.eq .non (.str b) = false := rfl
@[simp] theorem eq_non_tup (b : List D) : D.eq .non (.tup b) = false := rfl
@[simp] theorem eq_non_lst (b : List D) : D.eq .non (.lst b) = false := rfl
@[simp] theorem eq_bl_non (a : Bool) : D.eq (.bl a) .non = false := rfl
@[simp] theorem eq_bl_bl (a b : Bool) : D.eq (.bl a) (.bl b) = decide (a = b) := beqd a b
@[simp] theorem eq_bl_int (a : Bool) (b : Int) : D.eq (.bl a) (.int b) = decide (b2i a = b) := beqd _ _
@[simp] theorem eq_bl_str (a : Bool) (b : Str) : D.eq (.bl a) (.str b) = false := rfl
@[simp] theorem eq_bl_tup (a : Bool) (b : List D) : D.eq (.bl a) (.tup b) = false := rfl
@[simp] theorem eq_bl_lst (a : Bool) (b : List D) : D.eq (.bl a) (.lst b) = false := rfl
@[simp] theorem eq_int_non (a : Int) : D.eq (.int a) .non = false := rfl
@[simp] theorem eq_int_bl (a : Int) (b : Bool) : D.eq (.int a) (.bl b) = decide (a = b2i b) := beqd _ _
@[simp] theorem eq_int_int (a b : Int) : D.eq (.int a) (.int b) = decide (a = b) := beqd a b
@[simp] theorem eq_int_str (a : Int) (b : Str) : D.eq (.int a) (.str b) = false := rfl
@[simp] theorem eq_int_tup (a : Int) (b : List D) : D.eq (.int a) (.tup b) = false := rfl
@[simp] theorem eq_int_lst (a : Int) (b : List D) : D.eq (.int a) (.lst b) = false := rfl
@[simp] theorem eq_str_non (a : Str) : D.eq (.str a) .non = false := rfl
@[simp] theorem eq_str_bl (a : Str) (b : Bool) : D.eq (.str a) (.bl b) = false := rfl
@[simp] theorem eq_str_int (a : Str) (b : Int) : D.eq (.str a) (.int b) = false := rfl
@[simp] theorem eq_str_str (a b : Str) : D.eq (.str a) (.str b) = decide (a = b) := beqd a b
@[simp] theorem eq_str_tup (a : Str) (b : List D) : D.eq (.str a) (.tup b) = false := rfl
@[simp] theorem eq_str_lst (a : Str) (b : List D) : D.eq (.str a) (.lst b) = false := rfl
@[simp] theorem eq_tup_non (a : List D) : D.eq (.tup a) .non = false := rfl
@[simp] theorem eq_tup_bl (a : List D) (b : Bool) : D.eq (.tup a) (.bl b) = false := rfl
@[simp] theorem eq_tup_int (a : List D) (b : Int) : D.eq (.tup a) (.int b) = false := rfl
@[simp] theorem eq_tup_str (a : List D) (b : Str) : D.eq (.tup a) (.str b) = false := rfl
@[simp] theorem eq_tup_tup (a : List D) (b : List D) : D.eq (.tup a) (.tup b) = D.eq.eqs a b := rfl
@[simp] theorem eq_tup_lst (a : List D) (b : List D) : D.eq (.tup a) (.lst b) = false := rfl
@[simp] theorem eq_lst_non (a : List D) : D.eq (.lst a) .non = false := rfl
@[simp] theorem eq_lst_bl (a : List D) (b : Bool) : D.eq (.lst a) (.bl b) = false := rfl
@[simp] theorem eq_lst_int (a : List D) (b : Int) : D.eq (.lst a) (.int b) = false := rfl
@[simp] theorem eq_lst_str (a : List D) (b : Str) : D.eq (.lst a) (.str b) = false := rfl
@[simp] theorem eq_lst_tup (a : List D) (b : List D) : D.eq (.lst a) (.tup b) = false := rfl
@[simp] theorem eq_lst_lst (a : List D) (b : List D) : D.eq (.lst a) (.lst b) = D.eq.eqs a b := rfl
@[simp] theorem eqs_nil : D.eq.eqs [] [] = true := rfl
@[simp] theorem eqs_nc (x : D) (xs : List D) : D.eq.eqs [] (x :: xs) = false := rfl
@[simp] theorem eqs_cn (x : D) (xs : List D) : D.eq.eqs (x :: xs) [] = false := rfl
@[simp] theorem eqs_cc (x y : D) (xs ys : List D) : D.eq.eqs (x :: xs) (y :: ys) = (D.eq x y && D.eq.eqs xs ys) := rfl
@[simp] theorem eq_non_dct (b : List (D × D)) : D.eq .non (.dct b) = false := rfl
@[simp] theorem eq_dct_non (b : List (D × D)) : D.eq (.dct b) .non = false := rfl
@[simp] theorem eq_bl_dct (a : Bool) (b : List (D × D)) : D.eq (.bl a) (.dct b) = false := rfl
@[simp] theorem eq_dct_bl (a : Bool) (b : List (D × D)) : D.eq (.dct b) (.bl a) = false := rfl
@[simp] theorem eq_int_dct (a : Int) (b : List (D × D)) : D.eq (.int a) (.dct b) = false := rfl
@[simp] theorem eq_dct_int (a : Int) (b : List (D × D)) : D.eq (.dct b) (.int a) = false := rfl
@[simp] theorem eq_str_dct (a : Str) (b : List (D × D)) : D.eq (.str a) (.dct b) = false := rfl
@[simp] theorem eq_dct_str (a : Str) (b : List (D × D)) : D.eq (.dct b) (.str a) = false := rfl
@[simp] theorem eq_tup_dct (a : List D) (b : List (D × D)) : D.eq (.tup a) (.dct b) = false := rfl
@[simp] theorem eq_dct_tup (a : List D) (b : List (D × D)) : D.eq (.dct b) (.tup a) = false := rfl
@[simp] theorem eq_lst_dct (a : List D) (b : List (D × D)) : D.eq (.lst a) (.dct b) = false := rfl
@[simp] theorem eq_dct_lst (a : List D) (b : List (D × D)) : D.eq (.dct b) (.lst a) = false := rfl
@[simp] theorem eq_dct_dct (a b : List (D × D)) : D.eq (.dct a) (.dct b) = (a.isEmpty && b.isEmpty) := rfl
theorem deq_comm : ∀ a b : D, D.eq a b = D.eq b a
  | .non, .non => rfl
  | .bl a, .bl b => by simp [eq_comm]
  | .bl a, .int b => by simp [eq_comm]
  | .int a, .bl b => by simp [eq_comm]
  | .int a, .int b => by simp [eq_comm]
  | .str a, .str b => by simp [eq_comm]
  | .tup a, .tup b => eqs_comm a b
  | .lst a, .lst b => eqs_comm a b
  | .dct a, .dct b => by simp [Bool.and_comm]
  | .non, .bl _ | .non, .int _ | .non, .str _ | .non, .tup _ | .non, .lst _ | .non, .dct _ => rfl
  | .bl _, .non | .bl _, .str _ | .bl _, .tup _ | .bl _, .lst _ | .bl _, .dct _ => rfl
  | .int _, .non | .int _, .str _ | .int _, .tup _ | .int _, .lst _ | .int _, .dct _ => rfl
  | .str _, .non | .str _, .bl _ | .str _, .int _ | .str _, .tup _ | .str _, .lst _ | .str _, .dct _ => rfl
  | .tup _, .non | .tup _, .bl _ | .tup _, .int _ | .tup _, .str _ | .tup _, .lst _ | .tup _, .dct _ => rfl
  | .lst _, .non | .lst _, .bl _ | .lst _, .int _ | .lst _, .str _ | .lst _, .tup _ | .lst _, .dct _ => rfl
  | .dct _, .non | .dct _, .bl _ | .dct _, .int _ | .dct _, .str _ | .dct _, .tup _ | .dct _, .lst _ => rfl
where
  eqs_comm : ∀ a b : List D, D.eq.eqs a b = D.eq.eqs b a
    | [], [] => rfl
    | [], _ :: _ => rfl
    | _ :: _, [] => rfl
    | x :: xs, y :: ys => by rw [eqs_cc, eqs_cc, deq_comm x y, eqs_comm xs ys]

@[simp] theorem hk_non (n : Nat) : D.hk n .non = true := by cases n <;> rfl
@[simp] theorem hk_bl (n : Nat) (b : Bool) : D.hk n (.bl b) = true := by cases n <;> rfl
@[simp] theorem hk_int (n : Nat) (i : Int) : D.hk n (.int i) = true := by cases n <;> rfl
@[simp] theorem hk_str (n : Nat) (s : Str) : D.hk n (.str s) = true := by cases n <;> rfl
theorem hks_all (n : Nat) : ∀ xs : List D, D.hk.hks n xs = xs.all (D.hk n)
  | [] => by cases n <;> rfl
  | x :: xs => by rw [List.all_cons, ← hks_all n xs]; cases n <;> rfl
@[simp] theorem hk_tup (n : Nat) (xs : List D) : D.hk (n + 1) (.tup xs) = xs.all (D.hk n) := hks_all n xs
theorem az_in_dct (a : D) (kvs : List (D × D)) (h : a.hk 8 = true) : Op.ap shownD .isin [a, .dct kvs] = some (.bl (dhas kvs a)) := if_pos h
theorem az_notin_dct (a : D) (kvs : List (D × D)) (h : a.hk 8 = true) : Op.ap shownD .notin [a, .dct kvs] = some (.bl (!dhas kvs a)) := if_pos h
theorem az_ix_dct (a : D) (kvs : List (D × D)) (h : a.hk 8 = true) : Op.ap shownD .ix [.dct kvs, a] = dget kvs a := if_pos h
@[simp] theorem dhas_nil (k : D) : dhas [] k = false := rfl
@[simp] theorem dhas_cons (p : D × D) (r : List (D × D)) (k : D) : dhas (p :: r) k = (D.eq p.1 k || dhas r k) := rfl
@[simp] theorem dget_nil (k : D) : dget [] k = none := rfl
theorem dget_cons (p : D × D) (r : List (D × D)) (k : D) : dget (p :: r) k = if D.eq p.1 k then some p.2 else dget r k := by
  unfold dget
  rw [List.find?_cons]
  cases D.eq p.1 k <;> rfl
@[simp] theorem dhas_app (a b : List (D × D)) (k : D) : dhas (a ++ b) k = (dhas a k || dhas b k) := List.any_append
theorem dput_new {kvs : List (D × D)} {k : D} (v : D) (h : dhas kvs k = false) : dput kvs k v = kvs ++ [(k, v)] := by
  unfold dput
  rw [h]
  rfl
@[simp] theorem inD_nil (x : D) : inD x [] = false := rfl
@[simp] theorem inD_cons (x y : D) (ys : List D) : inD x (y :: ys) = (D.eq x y || inD x ys) := by rw [deq_comm x y]; rfl
@[simp] theorem tru_non : D.tru .non = some false := rfl
@[simp] theorem tru_bl (b : Bool) : D.tru (.bl b) = some b := rfl
@[simp] theorem tru_int (i : Int) : D.tru (.int i) = some (i != 0) := rfl
@[simp] theorem tru_tup (xs : List D) : D.tru (.tup xs) = some !xs.isEmpty := rfl
@[simp] theorem tru_lst (xs : List D) : D.tru (.lst xs) = some !xs.isEmpty := rfl
theorem tru_str (s : Str) (h : s.length ≤ line) : D.tru (.str s) = some (s.length != 0) := if_pos h
@[simp] theorem itemsD_l (xs : List D) : itemsD (.lst xs) = some xs := rfl
@[simp] theorem itemsD_t (xs : List D) : itemsD (.tup xs) = some xs := rfl
@[simp] theorem itemsD_s (s : Str) : itemsD (.str s) = some (s.cps.toList.map chr1) := rfl
/-- slots -/
def pkS : Option Slot → Option D
  | some (.fz d) => some d
  | some (.ow d) => some d
  | some (.lk d) => some d
  | _ => none
@[simp] theorem peek_def (r : Env) (j : Nat) : peek r j = pkS r[j]? := rfl
@[simp] theorem pkS_fz (d : D) : pkS (some (.fz d)) = some d := rfl
@[simp] theorem pkS_ow (d : D) : pkS (some (.ow d)) = some d := rfl
def cpS (r : Env) (j : Nat) : Option Slot → Option (D × Env)
  | some (.fz d) => some (d, r)
  | some (.ow d) => some (d, r.set j (.fz d))
  | _ => none
@[simp] theorem capE_def (r : Env) (j : Nat) : capE r j = cpS r j r[j]? := rfl
@[simp] theorem cpS_fz (r : Env) (j : Nat) (d : D) : cpS r j (some (.fz d)) = some (d, r) := rfl
@[simp] theorem cpS_ow (r : Env) (j : Nat) (d : D) : cpS r j (some (.ow d)) = some (d, r.set j (.fz d)) := rfl
def owS : Option Slot → Option D
  | some (.ow d) => some d
  | _ => none
@[simp] theorem owned_def (r : Env) (j : Nat) : owned r j = owS r[j]? := rfl
@[simp] theorem owS_ow (d : D) : owS (some (.ow d)) = some d := rfl
@[simp] theorem setOw_nil (r : Env) : setOw r [] [] = some r := rfl
def soS (s : Option Slot) (x : Option Env) : Option Env := match s with
  | some (.ow _) => x
  | _ => none
@[simp] theorem soS_ow (d : D) (x : Option Env) : soS (some (.ow d)) x = x := rfl
@[simp] theorem setOw_cons (r : Env) (j : Nat) (js : List Nat) (d : D) (ds : List D) : setOw r (j :: js) (d :: ds) = soS r[j]? (setOw (r.set j (.ow d)) js ds) := by
  show (match r[j]? with
    | some (.ow _) => setOw (r.set j (.ow d)) js ds
    | _ => none) = _
  unfold soS
  rfl
@[simp] theorem wipeE_nil (r : Env) : wipeE r [] = r := rfl
@[simp] theorem wipeE_cons (r : Env) (j : Nat) (js : List Nat) : wipeE r (j :: js) = wipeE (r.set j .un) js := rfl
def fzS (r : Env) (j : Nat) : Option Slot → Env
  | some (.ow d) => r.set j (.fz d)
  | _ => r
@[simp] theorem fzS_ow (r : Env) (j : Nat) (d : D) : fzS r j (some (.ow d)) = r.set j (.fz d) := rfl
@[simp] theorem fzS_fz (r : Env) (j : Nat) (d : D) : fzS r j (some (.fz d)) = r := rfl
@[simp] theorem fzS_un (r : Env) (j : Nat) : fzS r j (some .un) = r := rfl
@[simp] theorem frzE_nil (r : Env) : frzE r [] = r := rfl
@[simp] theorem frzE_cons (r : Env) (j : Nat) (js : List Nat) : frzE r (j :: js) = frzE (fzS r j r[j]?) js := by
  show frzE (match r[j]? with
    | some (.ow d) => r.set j (.fz d)
    | _ => r) js = _
  congr 1
def ioS (b : Bool) (s : Slot) (x : Option (List D)) : Option (List D) := match b, s with
  | true, .ow d => x.map (d :: ·)
  | false, _ => x
  | _, _ => none
@[simp] theorem ioS_t (d : D) (x : Option (List D)) : ioS true (.ow d) x = x.map (d :: ·) := rfl
@[simp] theorem ioS_f (s : Slot) (x : Option (List D)) : ioS false s x = x := by cases s <;> rfl
@[simp] theorem iosOf_nil (r : Env) : iosOf [] r = some [] := rfl
@[simp] theorem iosOf_cons (b : Bool) (bs : List Bool) (s : Slot) (r : Env) : iosOf (b :: bs) (s :: r) = ioS b s (iosOf bs r) := by
  cases b <;> cases s <;> rfl
def ofS (s : Option Slot) : Bool := match s with | some .un => true | some (.fz _) => true | _ => false
@[simp] theorem ofS_un : ofS (some .un) = true := (rfl)
@[simp] theorem ofS_fz (d : D) : ofS (some (.fz d)) = true := (rfl)
@[simp] theorem ownFree_def (r : Env) (own : List Nat) : ownFree r own = own.all fun j => ofS r[j]? := rfl
@[simp] theorem MG_sl (j : Nat) (d : D) (r : Env) : (MG.sl j).bind d r = some (r.set j (.fz d)) := rfl
@[simp] theorem MG_tup (g : MG) (xs : List D) (r : Env) : (MG.tup g).bind (.tup xs) r = MG.bind.binds g xs r := rfl
@[simp] theorem MGs_nil (r : Env) : MG.bind.binds .nil [] r = some r := rfl
@[simp] theorem MGs_cons (a g : MG) (x : D) (xs : List D) (r : Env) : MG.bind.binds (.cons a g) (x :: xs) r = (a.bind x r).bind fun r' => MG.bind.binds g xs r' := by
  show (match MG.bind a x r with
      | some r' => MG.bind.binds g xs r'
      | none => none) = _
  cases MG.bind a x r <;> rfl
@[simp] theorem asgE_own (j : Nat) (d : D) (r : Env) : asgE (.sl j) true d r = some (r.set j (mkSlot d)) := rfl
@[simp] theorem asgE_f (j : Nat) (d : D) (r : Env) : asgE (.sl j) false d r = some (r.set j (.fz d)) := rfl
@[simp] theorem asgE_tup (g : MG) (b : Bool) (d : D) (r : Env) : asgE (.tup g) b d r = (MG.tup g).bind d r := by cases b <;> rfl
@[simp] theorem mk_non : mkSlot .non = .fz .non := rfl
@[simp] theorem mk_bl (b : Bool) : mkSlot (.bl b) = .fz (.bl b) := rfl
@[simp] theorem mk_int (b : Int) : mkSlot (.int b) = .fz (.int b) := rfl
@[simp] theorem mk_str (b : Str) : mkSlot (.str b) = .fz (.str b) := rfl
@[simp] theorem mk_tup (b : List D) : mkSlot (.tup b) = .fz (.tup b) := rfl
@[simp] theorem mk_lst (b : List D) : mkSlot (.lst b) = .ow (.lst b) := rfl
@[simp] theorem mk_dct (b : List (D × D)) : mkSlot (.dct b) = .ow (.dct b) := rfl
@[simp] theorem startE_def (n : Nat) (io : List Bool) (ds : List D) : startE n io ds = (io.zip ds).map (fun p => bif p.1 then Slot.ow p.2 else Slot.fz p.2) ++ List.replicate (n - ds.length) .un := by
  unfold startE
  congr 1
  apply List.map_congr_left
  rintro ⟨b, d⟩ _
  cases b <;> rfl
end VL

/-! VLU: comprehensions, loops, changes. -/
namespace VL
open PySem PySem.Spec L2
section
variable {P : Prog} {cf : Nat → List D → VL.CR} {r : Env} {rf : Bool}
def auk {β : Type} (x : D) [k : Hid (Out β)] : Out β := match x with
  | .int _ => k.out
  | _ => .stk
@[simp] theorem auk_i {β : Type} (i : Int) [k : Hid (Out β)] : auk (.int i) = k.out := rfl
@[simp] theorem sv_aug (o : Op) (j : Nat) (e : ME) : (MS.aug o j e).ev shownD P cf rf r = optk (peek r j) (k := ⟨fun x => bd (e.ev shownD P cf r) (k := ⟨fun y r1 => one y (k := ⟨fun y => auk x (k := ⟨optk (o.ap shownD [x, y]) (k := ⟨fun d => .ok .nx (r1.set j (.fz d))⟩)⟩)⟩)⟩)⟩) := by
  show (match peek r j with
    | some x => (e.ev shownD P cf r).bind fun y r1 => match y with
      | [y] => match x with
        | .int _ => match o.ap shownD [x, y] with
          | some d => Out.ok Fl.nx (r1.set j (.fz d))
          | none => .stk
        | _ => .stk
      | _ => .stk
    | none => .stk) = _
  cases peek r j with
  | none => rfl
  | some x =>
    simp only [optk_some]
    unfold bd
    congr 1
    funext y r1
    dsimp only
    match y with
    | [] => rfl
    | _ :: _ :: _ => rfl
    | [y] =>
      simp only [one_one]
      cases x <;> try rfl
      rename_i i
      simp only [auk_i]
      cases o.ap shownD [.int i, y] <;> rfl
def owa {β : Type} (s : Option Slot) [k : Hid (Out β)] : Out β := match s with
  | some (.ow _) => k.out
  | _ => .stk
@[simp] theorem owa_ow {β : Type} (d : D) [k : Hid (Out β)] : owa (some (.ow d)) = k.out := rfl
@[simp] theorem sv_seti (j : Nat) (k v : ME) : (MS.seti j k v).ev shownD P cf rf r = owa r[j]? (k := ⟨bd (v.ev shownD P cf r) (k := ⟨fun x r1 => bd (k.ev shownD P cf r1) (k := ⟨fun y r2 => one x (k := ⟨fun v => one y (k := ⟨fun k => optk (owned r2 j) (k := ⟨fun d => optk (MOp.seti.ap d [k, v]) (k := ⟨fun p => .ok .nx (r2.set j (.ow p.2))⟩)⟩)⟩)⟩)⟩)⟩)⟩) := by
  show (match r[j]? with
    | some (.ow _) => (v.ev shownD P cf r).bind fun x r1 => (k.ev shownD P cf r1).bind fun y r2 => match x, y, owned r2 j with
      | [v], [k], some d => match MOp.seti.ap d [k, v] with
        | some (_, d') => Out.ok Fl.nx (r2.set j (.ow d'))
        | none => .stk
      | _, _, _ => .stk
    | _ => .stk) = _
  have key : ((v.ev shownD P cf r).bind fun x r1 => (k.ev shownD P cf r1).bind fun y r2 => match x, y, owned r2 j with
      | [v], [k], some d => match MOp.seti.ap d [k, v] with
        | some (_, d') => Out.ok Fl.nx (r2.set j (.ow d'))
        | none => .stk
      | _, _, _ => .stk) = (bd (v.ev shownD P cf r) (k := ⟨fun x r1 => bd (k.ev shownD P cf r1) (k := ⟨fun y r2 => one x (k := ⟨fun v => one y (k := ⟨fun k => optk (owned r2 j) (k := ⟨fun d => optk (MOp.seti.ap d [k, v]) (k := ⟨fun p => .ok .nx (r2.set j (.ow p.2))⟩)⟩)⟩)⟩)⟩)⟩)) := by
    unfold bd
    congr 1
    funext x r1
    dsimp only
    congr 1
    funext y r2
    match x with
    | [] => rfl
    | _ :: _ :: _ => rfl
    | [x] =>
      match y with
      | [] => rfl
      | _ :: _ :: _ => rfl
      | [y] =>
        simp only [one_one]
        cases owned r2 j with
        | none => rfl
        | some d =>
          simp only [optk_some]
          cases MOp.seti.ap d [y, x] with
          | none => rfl
          | some p => rfl
  rw [key]
  cases r[j]? with
  | none => rfl
  | some s => cases s with
    | un => rfl
    | fz d => rfl
    | lk d => rfl
    | ow d => rfl
@[simp] theorem sv_par (i j : Nat) (a b : ME) : (MS.par i j a b).ev shownD P cf rf r = bd ((ME.cons a (.cons b .nil)).ev shownD P cf r) (k := ⟨fun x r1 => two x (k := ⟨fun x y => .ok .nx ((r1.set i (.fz x)).set j (.fz y))⟩)⟩) := by
  show (((ME.cons a (.cons b .nil)).ev shownD P cf r).bind fun x r1 => match x with
    | [x, y] => Out.ok Fl.nx ((r1.set i (.fz x)).set j (.fz y))
    | _ => .stk) = _
  unfold bd
  congr 1
  funext x r1
  dsimp only
  match x with
  | [] => rfl
  | [_] => rfl
  | [_, _] => rfl
  | _ :: _ :: _ :: _ => rfl
/-- what is new -/
@[simp] theorem frr_tup (a : ME) : (ME.op .tup a).fr P = true := rfl
@[simp] theorem frr_lst (a : ME) : (ME.op .lst a).fr P = true := rfl
@[simp] theorem frr_len (a : ME) : (ME.op .len a).fr P = true := rfl
@[simp] theorem frr_all (a : ME) : (ME.op .all a).fr P = true := rfl
@[simp] theorem frr_any (a : ME) : (ME.op .any a).fr P = true := rfl
@[simp] theorem frr_eq (a : ME) : (ME.op .eq a).fr P = true := rfl
@[simp] theorem frr_ne (a : ME) : (ME.op .ne a).fr P = true := rfl
@[simp] theorem frr_lt (a : ME) : (ME.op .lt a).fr P = true := rfl
@[simp] theorem frr_le (a : ME) : (ME.op .le a).fr P = true := rfl
@[simp] theorem frr_gt (a : ME) : (ME.op .gt a).fr P = true := rfl
@[simp] theorem frr_ge (a : ME) : (ME.op .ge a).fr P = true := rfl
@[simp] theorem frr_isin (a : ME) : (ME.op .isin a).fr P = true := rfl
@[simp] theorem frr_notin (a : ME) : (ME.op .notin a).fr P = true := rfl
@[simp] theorem frr_isN (a : ME) : (ME.op .isN a).fr P = true := rfl
@[simp] theorem frr_notN (a : ME) : (ME.op .notN a).fr P = true := rfl
@[simp] theorem frr_add (a : ME) : (ME.op .add a).fr P = true := rfl
@[simp] theorem frr_sub (a : ME) : (ME.op .sub a).fr P = true := rfl
@[simp] theorem frr_mul (a : ME) : (ME.op .mul a).fr P = true := rfl
@[simp] theorem frr_mod (a : ME) : (ME.op .mod a).fr P = true := rfl
@[simp] theorem frr_fdiv (a : ME) : (ME.op .fdiv a).fr P = true := rfl
@[simp] theorem frr_pow (a : ME) : (ME.op .pow a).fr P = true := rfl
@[simp] theorem frr_neg (a : ME) : (ME.op .neg a).fr P = true := rfl
@[simp] theorem frr_not_ (a : ME) : (ME.op .not_ a).fr P = true := rfl
@[simp] theorem frr_max2 (a : ME) : (ME.op .max2 a).fr P = true := rfl
@[simp] theorem frr_min2 (a : ME) : (ME.op .min2 a).fr P = true := rfl
@[simp] theorem frr_toInt (a : ME) : (ME.op .toInt a).fr P = true := rfl
@[simp] theorem frr_slrev (a : ME) : (ME.op .slrev a).fr P = true := rfl
@[simp] theorem frr_toList (a : ME) : (ME.op .toList a).fr P = true := rfl
@[simp] theorem frr_toTuple (a : ME) : (ME.op .toTuple a).fr P = true := rfl
@[simp] theorem frr_cix (n : Nat) (a : ME) : (ME.cix n a).fr P = true := rfl
@[simp] theorem frr_repr (a : ME) : (ME.op .repr a).fr P = true := rfl
@[simp] theorem frr_range1 (a : ME) : (ME.op .range1 a).fr P = true := rfl
@[simp] theorem frr_range2 (a : ME) : (ME.op .range2 a).fr P = true := rfl
@[simp] theorem frr_sorted (a : ME) : (ME.op .sorted a).fr P = true := rfl
@[simp] theorem frr_enum (a : ME) : (ME.op .enum a).fr P = true := rfl
@[simp] theorem frr_isi (t : Ty) (a : ME) : (ME.op (.isi t) a).fr P = true := rfl
@[simp] theorem frr_isB (t : Bool) (a : ME) : (ME.op (.isB t) a).fr P = true := rfl
@[simp] theorem frr_isntB (t : Bool) (a : ME) : (ME.op (.isntB t) a).fr P = true := rfl
@[simp] theorem frr_sl (t u : Bool) (a : ME) : (ME.op (.sl t u) a).fr P = true := rfl
@[simp] theorem frr_ix (a : ME) : (ME.op .ix a).fr P = false := rfl
@[simp] theorem frr_kst (d : D) : (ME.kst d).fr P = true := rfl
@[simp] theorem frr_nm (j : Nat) : (ME.nm j).fr P = false := rfl
@[simp] theorem frr_cap (j : Nat) : (ME.cap j).fr P = false := rfl
@[simp] theorem frr_glb (j : Nat) : (ME.glb j).fr P = false := rfl
@[simp] theorem frr_chain (o1 o2 : Op) (a b : ME) : (ME.chain o1 o2 a b).fr P = true := rfl
@[simp] theorem frr_comp (own : List Nat) (tg : MG) (it c e : ME) : (ME.comp own tg it c e).fr P = true := rfl
@[simp] theorem frr_rep (n : Nat) (a : ME) : (ME.rep n a).fr P = true := rfl
@[simp] theorem frr_mop (o : MOp) (j : Nat) (a : ME) : (ME.mop o j a).fr P = false := rfl
@[simp] theorem frr_and (a b : ME) : (ME.and_ a b).fr P = (a.fr P && b.fr P) := rfl
@[simp] theorem frr_or (a b : ME) : (ME.or_ a b).fr P = (a.fr P && b.fr P) := rfl
@[simp] theorem frr_ite (c a b : ME) : (ME.ite c a b).fr P = (a.fr P && b.fr P) := rfl
def frk (x : Option FDef) : Bool := match x with
  | some fd => fd.rf
  | none => false
@[simp] theorem frk_some (fd : FDef) : frk (some fd) = fd.rf := rfl
@[simp] theorem frr_call (f : Nat) (sl : List Nat) (a : ME) : (ME.call f sl a).fr P = frk P.fs[f]? := rfl
/-- methods -/
theorem mop_append (xs : List D) (y : D) (h : xs.length < line) : MOp.append.ap (.lst xs) [y] = some (.non, .lst (xs ++ [y])) := if_pos h
theorem mop_extend (xs ys : List D) (h : xs.length + ys.length ≤ line) : MOp.extend.ap (.lst xs) [.lst ys] = some (.non, .lst (xs ++ ys)) := if_pos h
theorem mop_insert (xs : List D) (i : Int) (y : D) (h : xs.length < line ∧ 0 ≤ i ∧ i < 2 ^ 62) : MOp.insert.ap (.lst xs) [.int i, y] = some (.non, .lst (xs.take i.toNat ++ [y] ++ xs.drop i.toNat)) := if_pos h
theorem mop_setd (kvs : List (D × D)) (k y : D) (h : k.hk 8 = true) (hl : kvs.length < line) : MOp.seti.ap (.dct kvs) [k, y] = some (.non, .dct (dput kvs k y)) := if_pos ⟨h, hl⟩
theorem mop_seti (xs : List D) (i : Int) (y : D) (h : 0 ≤ i ∧ i < xs.length) : MOp.seti.ap (.lst xs) [.int i, y] = some (.non, .lst (xs.set i.toNat y)) := if_pos h
/-- a comprehension that changes nothing -/
theorem wipe_back {r r' : Env} {own : List Nat} (h : wipeE r' own = wipeE r own) : backE r r' own = r := by
  have hl : r'.length = r.length := by rw [← wipeE_len r' own, h, wipeE_len]
  refine List.ext_getElem? fun i => ?_
  obtain ⟨h1, h2, h3⟩ := backE_get r (i := i) own r' hl
  by_cases hi : i ∈ own
  · exact h3 hi
  · rw [h2 hi, ← wipeE_out r' own hi, h, wipeE_out r own hi]
theorem compLoop_ok {own : List Nat} {tg : MG} {c e : Env → Out (List D)} {W : Env} (p : D → Bool) (g : D → D) : ∀ (xs acc : List D) (r : Env), (∀ x ∈ xs, ∃ r1 b, tg.bind x W = some r1 ∧ wipeE r1 own = W ∧ c r1 = .ok [b] r1 ∧ b.tru = some (p x) ∧ (p x = true → e r1 = .ok [g x] r1)) → wipeE r own = W → acc.length + xs.length ≤ line → ∃ r', compLoop own tg c e acc xs r = .ok (acc ++ (xs.filter p).map g) r' ∧ wipeE r' own = W
  | [], acc, r, h, hw, hl => ⟨r, by simp [compLoop], hw⟩
  | x :: xs, acc, r, h, hw, hl => by
    obtain ⟨r1, b, h1, h2, h3, h4, h5⟩ := h x (List.mem_cons_self ..)
    have hx : ∀ y ∈ xs, _ := fun y hy => h y (List.mem_cons_of_mem _ hy)
    rw [List.length_cons] at hl
    cases hp : p x with
    | true =>
      obtain ⟨r', e1, e2⟩ := compLoop_ok p g xs (acc ++ [g x]) r1 hx h2 (by rw [List.length_append]; simp only [List.length_cons, List.length_nil]; omega)
      refine ⟨r', ?_, e2⟩
      rw [hp] at h4
      simp only [compLoop, hw, h1, h3, Out.bind, h4, h5 hp]
      rw [if_pos (by omega), e1]
      simp [hp]
    | false =>
      obtain ⟨r', e1, e2⟩ := compLoop_ok p g xs acc r1 hx h2 (by omega)
      refine ⟨r', ?_, e2⟩
      rw [hp] at h4
      simp only [compLoop, hw, h1, h3, Out.bind, h4]
      rw [e1]
      simp [hp]
theorem comp_ok {own : List Nat} {tg : MG} {it cc e : ME} {r r1 : Env} {x : D} {xs : List D} (p : D → Bool) (g : D → D) (hi : it.ev shownD P cf r = .ok [x] r1) (hx : itemsD x = some xs) (hf : ownFree r1 own = true) (hl : xs.length ≤ line)
    (h : ∀ x ∈ xs, ∃ r2 b, tg.bind x (wipeE r1 own) = some r2 ∧ wipeE r2 own = wipeE r1 own ∧ cc.ev shownD P cf r2 = .ok [b] r2 ∧ b.tru = some (p x) ∧ (p x = true → e.ev shownD P cf r2 = .ok [g x] r2)) :
    (ME.comp own tg it cc e).ev shownD P cf r = .ok [.lst ((xs.filter p).map g)] r1 := by
  rw [ev_comp, hi]
  simp only [bd_ok, one_one, hx, optk_some, hf, iteB_t]
  obtain ⟨r', e1, e2⟩ := compLoop_ok p g xs [] r1 h rfl (by simpa using hl)
  rw [e1]
  show Out.ok _ (backE r1 r' own) = _
  rw [wipe_back e2]
  rfl
/-- all of them, no test -/
theorem comp_map {own : List Nat} {tg : MG} {it e : ME} {r r1 : Env} {x : D} {xs : List D} (g : D → D) (hi : it.ev shownD P cf r = .ok [x] r1) (hx : itemsD x = some xs) (hf : ownFree r1 own = true) (hl : xs.length ≤ line)
    (h : ∀ x ∈ xs, ∃ r2, tg.bind x (wipeE r1 own) = some r2 ∧ wipeE r2 own = wipeE r1 own ∧ e.ev shownD P cf r2 = .ok [g x] r2) :
    (ME.comp own tg it (.kst (.bl true)) e).ev shownD P cf r = .ok [.lst (xs.map g)] r1 := by
  have := comp_ok (own := own) (tg := tg) (it := it) (cc := .kst (.bl true)) (e := e) (fun _ => true) g hi hx hf hl fun x hx => by
    obtain ⟨r2, h1, h2, h3⟩ := h x hx
    exact ⟨r2, .bl true, h1, h2, rfl, rfl, fun _ => h3⟩
  rw [this, List.filter_eq_self.mpr fun _ _ => rfl]
/-- with a state behind it: values that keep to R -/
theorem compLoop_inv {own : List Nat} {tg : MG} {c e : Env → Out (List D)} (I : Env → Prop) (R : D → Prop) : ∀ (xs acc : List D) (r : Env), (∀ x ∈ xs, ∀ r, I r → ∃ r1 r2 r3 y, tg.bind x (wipeE r own) = some r1 ∧ c r1 = .ok [.bl true] r2 ∧ e r2 = .ok [y] r3 ∧ R y ∧ I r3) → I r → acc.length + xs.length ≤ line → ∃ ys r', compLoop own tg c e acc xs r = .ok (acc ++ ys) r' ∧ (∀ y ∈ ys, R y) ∧ ys.length = xs.length ∧ I r'
  | [], acc, r, h, hw, hl => ⟨[], r, by simp [compLoop], by simp, rfl, hw⟩
  | x :: xs, acc, r, h, hw, hl => by
    obtain ⟨r1, r2, r3, y, h1, h2, h3, h4, h5⟩ := h x (List.mem_cons_self ..) r hw
    rw [List.length_cons] at hl
    obtain ⟨ys, r', e1, e2, e3, e4⟩ := compLoop_inv I R xs (acc ++ [y]) r3 (fun y hy => h y (List.mem_cons_of_mem _ hy)) h5 (by rw [List.length_append]; simp only [List.length_cons, List.length_nil]; omega)
    refine ⟨y :: ys, r', ?_, ?_, by simp [e3], e4⟩
    · simp only [compLoop, h1, h2, Out.bind, tru_bl, h3]
      rw [if_pos (by omega), e1]
      simp
    · intro z hz
      rcases List.mem_cons.mp hz with rfl | hz
      · exact h4
      · exact e2 z hz
theorem comp_inv {own : List Nat} {tg : MG} {it e : ME} {r r1 : Env} {x : D} {xs : List D} (I : Env → Prop) (R : D → Prop) (hi : it.ev shownD P cf r = .ok [x] r1) (hx : itemsD x = some xs) (hf : ownFree r1 own = true) (hl : xs.length ≤ line)
    (h : ∀ x ∈ xs, ∀ r, I r → ∃ r2 r3 y, tg.bind x (wipeE r own) = some r2 ∧ e.ev shownD P cf r2 = .ok [y] r3 ∧ R y ∧ I r3) (h0 : I r1) :
    ∃ ys r', (ME.comp own tg it (.kst (.bl true)) e).ev shownD P cf r = .ok [.lst ys] (backE r1 r' own) ∧ (∀ y ∈ ys, R y) ∧ ys.length = xs.length ∧ I r' := by
  obtain ⟨ys, r', e1, e2, e3, e4⟩ := compLoop_inv (own := own) (tg := tg) (c := (ME.kst (.bl true)).ev shownD P cf) (e := e.ev shownD P cf) I R xs [] r1 (fun x hx r hr => by
    obtain ⟨r2, r3, y, a, b, c, d⟩ := h x hx r hr
    exact ⟨r2, r2, r3, y, a, rfl, b, c, d⟩) h0 (by simpa using hl)
  refine ⟨ys, r', ?_, e2, e3, e4⟩
  rw [ev_comp, hi]
  simp only [bd_ok, one_one, hx, optk_some, hf, iteB_t, e1]
  rfl
@[simp] theorem backE_nil (r0 r : Env) : backE r0 r [] = r := rfl
def bkS (r : Env) (j : Nat) : Option Slot → Env
  | some x => r.set j x
  | none => r
@[simp] theorem bkS_some (r : Env) (j : Nat) (x : Slot) : bkS r j (some x) = r.set j x := rfl
@[simp] theorem backE_cons (r0 r : Env) (j : Nat) (js : List Nat) : backE r0 r (j :: js) = backE r0 (bkS r j r0[j]?) js := by
  show backE r0 (match r0[j]? with | some x => r.set j x | none => r) js = _
  congr 1
/-- loops -/
theorem forLoop_nil (tg : MG) (body : Env → Out Fl) (r : Env) : forLoop tg body [] r = .ok .nx r := rfl
/-- a loop that keeps to I -/
theorem for_inv {tg : MG} {body : Env → Out Fl} (I : Env → Prop) : ∀ (xs : List D) (r : Env), (∀ x ∈ xs, ∀ r, I r → ∃ r1 r2, tg.bind x r = some r1 ∧ body r1 = .ok .nx r2 ∧ I r2) → I r → ∃ r', forLoop tg body xs r = .ok .nx r' ∧ I r'
  | [], r, _, h0 => ⟨r, rfl, h0⟩
  | x :: xs, r, h, h0 => by
    obtain ⟨r1, r2, h1, h2, h3⟩ := h x (List.mem_cons_self ..) r h0
    obtain ⟨r', h4, h5⟩ := for_inv I xs r2 (fun y hy => h y (List.mem_cons_of_mem _ hy)) h3
    refine ⟨r', ?_, h5⟩
    simp only [forLoop, h1, h2, Out.bind, h4]
theorem sv_for_inv {tg : MG} {it : ME} {body : MS} {r r1 : Env} {x : D} {xs : List D} (I : Env → Prop) (hi : it.ev shownD P cf r = .ok [x] r1) (hx : itemsD x = some xs) (h0 : I r1) (h : ∀ x ∈ xs, ∀ r, I r → ∃ r2 r3, tg.bind x r = some r2 ∧ body.ev shownD P cf rf r2 = .ok .nx r3 ∧ I r3) :
    ∃ r', (MS.for_ tg it body).ev shownD P cf rf r = .ok .nx r' ∧ I r' := by
  rw [sv_for, hi]
  simp only [bd_ok, one_one, hx, optk_some]
  exact for_inv I xs r1 h h0
/-- the same, counted -/
theorem for_invN {tg : MG} {body : Env → Out Fl} (I : Nat → Env → Prop) (N : Nat) : ∀ (xs : List D) (n : Nat) (r : Env), (∀ x ∈ xs, ∀ n r, n < N → I n r → ∃ r1 r2, tg.bind x r = some r1 ∧ body r1 = .ok .nx r2 ∧ I (n + 1) r2) → n + xs.length ≤ N → I n r → ∃ r', forLoop tg body xs r = .ok .nx r' ∧ I (n + xs.length) r'
  | [], n, r, _, _, h0 => ⟨r, rfl, h0⟩
  | x :: xs, n, r, h, hN, h0 => by
    rw [List.length_cons] at hN
    obtain ⟨r1, r2, h1, h2, h3⟩ := h x (List.mem_cons_self ..) n r (by omega) h0
    obtain ⟨r', h4, h5⟩ := for_invN I N xs (n + 1) r2 (fun y hy => h y (List.mem_cons_of_mem _ hy)) (by omega) h3
    refine ⟨r', ?_, ?_⟩
    · simp only [forLoop, h1, h2, Out.bind, h4]
    · rw [List.length_cons, show n + (xs.length + 1) = n + 1 + xs.length by omega]
      exact h5
theorem sv_for_invN {tg : MG} {it : ME} {body : MS} {r r1 : Env} {x : D} {xs : List D} (I : Nat → Env → Prop) (hi : it.ev shownD P cf r = .ok [x] r1) (hx : itemsD x = some xs) (h0 : I 0 r1) (h : ∀ x ∈ xs, ∀ n r, n < xs.length → I n r → ∃ r2 r3, tg.bind x r = some r2 ∧ body.ev shownD P cf rf r2 = .ok .nx r3 ∧ I (n + 1) r3) :
    ∃ r', (MS.for_ tg it body).ev shownD P cf rf r = .ok .nx r' ∧ I xs.length r' := by
  rw [sv_for, hi]
  simp only [bd_ok, one_one, hx, optk_some]
  have := for_invN I xs.length xs 0 r1 h (by omega) h0
  rwa [Nat.zero_add] at this
theorem repk_ok {β : Type} (n : Nat) (xs : List D) (h : xs.length * n ≤ line ∧ n ≤ 1000000) [k : Hid (List D → Out β)] : repk n (.lst xs) = k.out (List.replicate n xs).flatten := if_pos h
theorem iota_length : ∀ (n : Nat) (lo : Int), (iota lo n).length = n
  | 0, _ => rfl
  | n + 1, lo => by show (iota (lo + 1) n).length + 1 = _; rw [iota_length n]
theorem iota_mem : ∀ {n : Nat} {lo : Int} {x : D}, x ∈ iota lo n → ∃ i : Int, x = .int i ∧ lo ≤ i ∧ i < lo + n
  | 0, _, _, h => nomatch h
  | n + 1, lo, x, h => by
    rcases List.mem_cons.mp h with rfl | h
    · exact ⟨lo, rfl, by omega, by omega⟩
    · obtain ⟨i, e, h1, h2⟩ := iota_mem (n := n) h
      exact ⟨i, e, by omega, by omega⟩
/-- a loop as a fold, with early ends; E: the slots of a state -/
def runF {σ : Type} (E : σ → Env) (f : σ → D → Sum σ (Out Fl)) : σ → List D → Out Fl
  | s, [] => .ok .nx (E s)
  | s, x :: xs => match f s x with
    | .inl s' => runF E f s' xs
    | .inr o => o
theorem runF_cons {σ : Type} (E : σ → Env) (f : σ → D → Sum σ (Out Fl)) (s : σ) (x : D) (xs : List D) : runF E f s (x :: xs) = (match f s x with
  | .inl s' => runF E f s' xs
  | .inr o => o) := rfl
/-- what a body must do: go on in state s', or end -/
def stepOk {σ : Type} (E : σ → Env) (o : Out Fl) : Sum σ (Out Fl) → Prop
  | .inl s' => o = .ok .nx (E s') ∨ o = .ok .ct (E s')
  | .inr (.ok (.ret d) r') => o = .ok (.ret d) r'
  | .inr (.err c fs r') => o = .err c fs r'
  | .inr (.ok .nx r') => o = .ok .bk r'
  | .inr _ => False
theorem for_run {σ : Type} {tg : MG} {body : Env → Out Fl} (E : σ → Env) (f : σ → D → Sum σ (Out Fl)) (J : σ → Prop) : ∀ (xs : List D) (s : σ), (∀ x ∈ xs, ∀ s, J s → ∃ r1, tg.bind x (E s) = some r1 ∧ stepOk E (body r1) (f s x) ∧ ∀ s', f s x = .inl s' → J s') → J s → forLoop tg body xs (E s) = runF E f s xs
  | [], s, _, _ => rfl
  | x :: xs, s, h, h0 => by
    obtain ⟨r1, h1, h2, h3⟩ := h x (List.mem_cons_self ..) s h0
    cases q : f s x with
    | inl s' =>
      rw [q] at h2
      have := for_run E f J xs s' (fun y hy => h y (List.mem_cons_of_mem _ hy)) (h3 s' q)
      rcases h2 with h2 | h2 <;> simp only [forLoop, h1, h2, Out.bind, this, runF, q]
    | inr o =>
      rw [q] at h2
      match o, h2 with
      | .ok (.ret d) r', h2 => simp only [forLoop, h1, show body r1 = _ from h2, Out.bind, runF, q]
      | .err c fs r', h2 => simp only [forLoop, h1, show body r1 = _ from h2, Out.bind, runF, q]
      | .ok .nx r', h2 => simp only [forLoop, h1, show body r1 = _ from h2, Out.bind, runF, q]
/-- a loop as a plain fold -/
theorem for_fold {σ : Type} {tg : MG} {body : Env → Out Fl} (E : σ → Env) (f : σ → D → σ) (J : σ → Prop) : ∀ (xs : List D) (s : σ), (∀ x ∈ xs, ∀ s, J s → ∃ r1, tg.bind x (E s) = some r1 ∧ (body r1 = .ok .nx (E (f s x)) ∨ body r1 = .ok .ct (E (f s x))) ∧ J (f s x)) → J s → forLoop tg body xs (E s) = .ok .nx (E (xs.foldl f s)) ∧ J (xs.foldl f s)
  | [], s, _, h0 => ⟨rfl, h0⟩
  | x :: xs, s, h, h0 => by
    obtain ⟨r1, h1, h2, h3⟩ := h x (List.mem_cons_self ..) s h0
    have := for_fold E f J xs (f s x) (fun y hy => h y (List.mem_cons_of_mem _ hy)) h3
    refine ⟨?_, this.2⟩
    rw [List.foldl_cons, ← this.1]
    rcases h2 with h2 | h2 <;> simp only [forLoop, h1, h2, Out.bind]
theorem sv_for_fold {σ : Type} {tg : MG} {it : ME} {body : MS} {r : Env} {x : D} {xs : List D} (E : σ → Env) (f : σ → D → σ) (J : σ → Prop) (s : σ) (hi : it.ev shownD P cf r = .ok [x] (E s)) (hx : itemsD x = some xs) (h0 : J s) (h : ∀ x ∈ xs, ∀ s, J s → ∃ r1, tg.bind x (E s) = some r1 ∧ (body.ev shownD P cf rf r1 = .ok .nx (E (f s x)) ∨ body.ev shownD P cf rf r1 = .ok .ct (E (f s x))) ∧ J (f s x)) :
    (MS.for_ tg it body).ev shownD P cf rf r = .ok .nx (E (xs.foldl f s)) ∧ J (xs.foldl f s) := by
  rw [sv_for, hi]
  simp only [bd_ok, one_one, hx, optk_some]
  exact for_fold E f J xs s h h0
theorem sv_for_run {σ : Type} {tg : MG} {it : ME} {body : MS} {r : Env} {x : D} {xs : List D} (E : σ → Env) (f : σ → D → Sum σ (Out Fl)) (J : σ → Prop) (s : σ) (hi : it.ev shownD P cf r = .ok [x] (E s)) (hx : itemsD x = some xs) (h0 : J s) (h : ∀ x ∈ xs, ∀ s, J s → ∃ r1, tg.bind x (E s) = some r1 ∧ stepOk E (body.ev shownD P cf rf r1) (f s x) ∧ ∀ s', f s x = .inl s' → J s') :
    (MS.for_ tg it body).ev shownD P cf rf r = runF E f s xs := by
  rw [sv_for, hi]
  simp only [bd_ok, one_one, hx, optk_some]
  exact for_run E f J xs s h h0
/-- while -/
@[simp] theorem sv_whl (n : Nat) (c : ME) (body : MS) : (MS.whl n c body).ev shownD P cf rf r = whlLoop (evC shownD P cf c) (body.ev shownD P cf rf) n r := rfl
end
end VL

set_option maxHeartbeats 4000000
namespace VL.Claim
open PySem PySem.Spec L2 VL
def l_check_facts_1_b : MS := (.scrub [2, 3] (.seq (.ife (.or_ (.op .not_ (.cons (.call 131 [] (.cons (.cap 3) .nil)) .nil)) (.op .isin (.cons (.nm 3) (.cons (.nm 1) .nil)))) (.seq (.raise 4 (.cons (.cap 2) .nil))
    .nil) .nil)
    (.seq (.seti 1 (.cap 3) (.kst (.bl true)))
    .nil)))
def l_check_facts_1 : MS := (.for_ (.tup (.cons (.sl 2) (.cons (.sl 3) .nil))) (.op .enum (.cons (.cap 0) .nil)) l_check_facts_1_b)
def b_check_facts : MS := (.seq (.ife (.op .not_ (.cons (.call 152 [] (.cons (.cap 0) .nil)) .nil)) (.seq (.raise 4 (.cons (.kst .non) .nil))
    .nil) .nil)
    (.seq (.asg (.sl 1) (.kst (.dct [])))
    (.frz [0] (.seq l_check_facts_1
    .nil))))
abbrev f_check_facts : FDef := ⟨4, [false], true, b_check_facts⟩
def k_check_ontology_1 : ME := (.comp [4] (.sl 4) (.cap 0) (.call 111 [] (.cons (.cap 4) .nil)) (.cap 4))
def k_check_ontology_2 : ME := (.comp [4] (.sl 4) (.cap 1) (.or_ (.op .eq (.cons (.op .ix (.cons (.nm 4) (.cons (.kst (.int 0)) .nil))) (.cons (.kst (.str "subrole")) .nil))) (.op .eq (.cons (.op .ix (.cons (.nm 4) (.cons (.kst (.int 0)) .nil))) (.cons (.kst (.str "subrole_inverse")) .nil)))) (.op .ix (.cons (.nm 4) (.cons (.kst (.int 2)) .nil))))
def k_check_ontology_3 : ME := (.comp [5] (.sl 5) (.op (.sl false true) (.cons (.nm 0) (.cons (.nm 3) .nil))) (.call 111 [] (.cons (.cap 5) .nil)) (.cap 5))
def l_check_ontology_1_b : MS := (.scrub [3, 4] (.seq (.ife (.or_ (.op .not_ (.cons (.call 111 [] (.cons (.cap 4) .nil)) .nil)) (.op .isin (.cons (.nm 4) (.cons k_check_ontology_3 .nil)))) (.seq (.raise 1 (.cons (.cap 3) .nil))
    .nil) .nil)
    (.seq (.ife (.and_ (.op .eq (.cons (.op .ix (.cons (.nm 4) (.cons (.kst (.int 0)) .nil))) (.cons (.kst (.str "functional")) .nil))) (.op .isin (.cons (.op .ix (.cons (.op .ix (.cons (.nm 4) (.cons (.kst (.int 1)) .nil))) (.cons (.kst (.int 1)) .nil))) (.cons (.nm 2) .nil)))) (.seq (.raise 1 (.cons (.cap 3) .nil))
    .nil) .nil)
    .nil)))
def l_check_ontology_1 : MS := (.for_ (.tup (.cons (.sl 3) (.cons (.sl 4) .nil))) (.op .enum (.cons (.cap 0) .nil)) l_check_ontology_1_b)
def b_check_ontology : MS := (.seq (.ife (.or_ (.op .not_ (.cons (.call 152 [] (.cons (.cap 0) .nil)) .nil)) (.op .gt (.cons (.op .len (.cons (.nm 0) .nil)) (.cons (.glb 5) .nil)))) (.seq (.raise 1 (.cons (.kst .non) .nil))
    .nil) .nil)
    (.seq (.asg (.sl 1) k_check_ontology_1)
    (.seq (.asg (.sl 2) k_check_ontology_2)
    (.frz [0] (.seq l_check_ontology_1
    .nil)))))
abbrev f_check_ontology : FDef := ⟨6, [false], true, b_check_ontology⟩
def b_has_fact_form : MS := (.seq (.ife (.or_ (.op .not_ (.cons (.op (.isi .tuple) (.cons (.nm 0) .nil)) .nil)) (.or_ (.op .not_ (.cons (.chain .le .le (.cons (.kst (.int 3)) (.cons (.op .len (.cons (.nm 0) .nil)) .nil)) (.kst (.int 4))) .nil)) (.op .not_ (.cons (.op (.isi .str) (.cons (.op .ix (.cons (.nm 0) (.cons (.kst (.int 0)) .nil))) .nil)) .nil)))) (.seq (.ret (.kst (.bl false)))
    .nil) .nil)
    (.seq (.ret (.and_ (.call 163 [] (.cons (.op .ix (.cons (.nm 0) (.cons (.kst (.int 1)) .nil))) .nil)) (.op .isin (.cons (.op .tup (.cons (.op .ix (.cons (.nm 0) (.cons (.kst (.int 0)) .nil))) (.cons (.op .len (.cons (.nm 0) .nil)) .nil))) (.cons (.op .tup (.cons (.op .tup (.cons (.kst (.str "concept")) (.cons (.kst (.int 3)) .nil))) (.cons (.op .tup (.cons (.kst (.str "role")) (.cons (.kst (.int 4)) .nil))) .nil))) .nil)))))
    .nil))
abbrev f_has_fact_form : FDef := ⟨1, [false], true, b_has_fact_form⟩
def b_individuals_of : MS := (.seq (.ret (.op (.sl true false) (.cons (.nm 0) (.cons (.kst (.int 2)) .nil))))
    .nil)
abbrev f_individuals_of : FDef := ⟨1, [false], true, b_individuals_of⟩
def b_is_axiom : MS := (.seq (.ife (.or_ (.op .not_ (.cons (.op (.isi .tuple) (.cons (.nm 0) .nil)) .nil)) (.or_ (.op .not_ (.cons (.chain .le .le (.cons (.kst (.int 2)) (.cons (.op .len (.cons (.nm 0) .nil)) .nil)) (.kst (.int 3))) .nil)) (.op .not_ (.cons (.op (.isi .str) (.cons (.op .ix (.cons (.nm 0) (.cons (.kst (.int 0)) .nil))) .nil)) .nil)))) (.seq (.ret (.kst (.bl false)))
    .nil) .nil)
    (.seq (.ife (.op .eq (.cons (.op .len (.cons (.nm 0) .nil)) (.cons (.kst (.int 2)) .nil))) (.seq (.ret (.and_ (.op .eq (.cons (.op .ix (.cons (.nm 0) (.cons (.kst (.int 0)) .nil))) (.cons (.kst (.str "functional")) .nil))) (.call 127 [] (.cons (.op .ix (.cons (.nm 0) (.cons (.kst (.int 1)) .nil))) .nil))))
    .nil) .nil)
    (.seq (.ife (.op .isin (.cons (.op .ix (.cons (.nm 0) (.cons (.kst (.int 0)) .nil))) (.cons (.glb 3) .nil))) (.seq (.ret (.and_ (.call 120 [] (.cons (.op .ix (.cons (.nm 0) (.cons (.kst (.int 1)) .nil))) .nil)) (.call 120 [] (.cons (.op .ix (.cons (.nm 0) (.cons (.kst (.int 2)) .nil))) .nil))))
    .nil) .nil)
    (.seq (.ret (.and_ (.op .isin (.cons (.op .ix (.cons (.nm 0) (.cons (.kst (.int 0)) .nil))) (.cons (.glb 4) .nil))) (.and_ (.call 163 [] (.cons (.op .ix (.cons (.nm 0) (.cons (.kst (.int 1)) .nil))) .nil)) (.call 163 [] (.cons (.op .ix (.cons (.nm 0) (.cons (.kst (.int 2)) .nil))) .nil)))))
    .nil))))
abbrev f_is_axiom : FDef := ⟨1, [false], true, b_is_axiom⟩
def b_is_concept : MS := (.seq (.ife (.call 127 [] (.cons (.cap 0) .nil)) (.seq (.ret (.kst (.bl true)))
    .nil) .nil)
    (.seq (.ife (.or_ (.op .not_ (.cons (.op (.isi .tuple) (.cons (.nm 0) .nil)) .nil)) (.or_ (.op .ne (.cons (.op .len (.cons (.nm 0) .nil)) (.cons (.kst (.int 2)) .nil))) (.op .not_ (.cons (.op (.isi .str) (.cons (.op .ix (.cons (.nm 0) (.cons (.kst (.int 0)) .nil))) .nil)) .nil)))) (.seq (.ret (.kst (.bl false)))
    .nil) .nil)
    (.seq (.ret (.and_ (.op .eq (.cons (.op .ix (.cons (.nm 0) (.cons (.kst (.int 0)) .nil))) (.cons (.kst (.str "concept")) .nil))) (.call 163 [] (.cons (.op .ix (.cons (.nm 0) (.cons (.kst (.int 1)) .nil))) .nil))))
    .nil)))
abbrev f_is_concept : FDef := ⟨1, [false], true, b_is_concept⟩
def b_is_direction : MS := (.seq (.ife (.or_ (.op .not_ (.cons (.op (.isi .tuple) (.cons (.nm 0) .nil)) .nil)) (.or_ (.op .ne (.cons (.op .len (.cons (.nm 0) .nil)) (.cons (.kst (.int 2)) .nil))) (.op .not_ (.cons (.op (.isi .str) (.cons (.op .ix (.cons (.nm 0) (.cons (.kst (.int 0)) .nil))) .nil)) .nil)))) (.seq (.ret (.kst (.bl false)))
    .nil) .nil)
    (.seq (.ret (.and_ (.op .isin (.cons (.op .ix (.cons (.nm 0) (.cons (.kst (.int 0)) .nil))) (.cons (.glb 2) .nil))) (.call 163 [] (.cons (.op .ix (.cons (.nm 0) (.cons (.kst (.int 1)) .nil))) .nil))))
    .nil))
abbrev f_is_direction : FDef := ⟨1, [false], true, b_is_direction⟩
def k_is_fact_1 : ME := (.comp [1] (.sl 1) (.call 107 [] (.cons (.cap 0) .nil)) (.kst (.bl true)) (.call 135 [] (.cons (.cap 1) .nil)))
def b_is_fact : MS := (.seq (.ret (.and_ (.call 101 [] (.cons (.cap 0) .nil)) (.op .all (.cons k_is_fact_1 .nil))))
    .nil)
abbrev f_is_fact : FDef := ⟨2, [false], true, b_is_fact⟩
def b_is_individual : MS := (.seq (.ife (.or_ (.op .not_ (.cons (.op (.isi .tuple) (.cons (.nm 0) .nil)) .nil)) (.op .ne (.cons (.op .len (.cons (.nm 0) .nil)) (.cons (.kst (.int 2)) .nil)))) (.seq (.ret (.kst (.bl false)))
    .nil) .nil)
    (.seq (.ret (.and_ (.call 163 [] (.cons (.op .ix (.cons (.nm 0) (.cons (.kst (.int 0)) .nil))) .nil)) (.call 162 [] (.cons (.op .ix (.cons (.nm 0) (.cons (.kst (.int 1)) .nil))) .nil))))
    .nil))
abbrev f_is_individual : FDef := ⟨1, [false], true, b_is_individual⟩
def b_is_integer : MS := (.seq (.ret (.and_ (.op (.isi .int) (.cons (.nm 0) .nil)) (.op .not_ (.cons (.op (.isi .bool) (.cons (.nm 0) .nil)) .nil))))
    .nil)
abbrev f_is_integer : FDef := ⟨1, [false], true, b_is_integer⟩
def b_is_sequence : MS := (.seq (.ret (.or_ (.op (.isi .list) (.cons (.nm 0) .nil)) (.op (.isi .tuple) (.cons (.nm 0) .nil))))
    .nil)
abbrev f_is_sequence : FDef := ⟨1, [false], true, b_is_sequence⟩
def k_is_string_of_1 : ME := (.comp [2] (.sl 2) (.cap 0) (.kst (.bl true)) (.op .isin (.cons (.nm 2) (.cons (.nm 1) .nil))))
def b_is_string_of : MS := (.seq (.ife (.or_ (.op .not_ (.cons (.op (.isi .str) (.cons (.nm 0) .nil)) .nil)) (.op .not_ (.cons (.chain .le .le (.cons (.kst (.int 1)) (.cons (.op .len (.cons (.nm 0) .nil)) .nil)) (.glb 1)) .nil))) (.seq (.ret (.kst (.bl false)))
    .nil) .nil)
    (.seq (.ret (.op .all (.cons k_is_string_of_1 .nil)))
    .nil))
abbrev f_is_string_of : FDef := ⟨3, [false, false], true, b_is_string_of⟩
def b_is_value : MS := (.seq (.ret (.call 155 [] (.cons (.cap 0) (.cons (.op .add (.cons (.glb 0) (.cons (.glb 10) .nil))) .nil))))
    .nil)
abbrev f_is_value : FDef := ⟨1, [false], true, b_is_value⟩
def b_is_word : MS := (.seq (.ret (.call 155 [] (.cons (.cap 0) (.cons (.glb 0) .nil))))
    .nil)
abbrev f_is_word : FDef := ⟨1, [false], true, b_is_word⟩
def b_law_axiom : MS := (.seq (.asg (.sl 3) (.call 279 [0] (.cons (.nm 0) (.cons (.cap 2) .nil))))
    (.seq (.ife (.or_ (.op .eq (.cons (.nm 3) (.cons (.kst (.str "subclass")) .nil))) (.op .eq (.cons (.nm 3) (.cons (.kst (.str "disjoint")) .nil)))) (.seq (.ret (.op .tup (.cons (.cap 3) (.cons (.call 280 [0] (.cons (.nm 0) (.cons (.cap 1) .nil))) (.cons (.call 280 [0] (.cons (.nm 0) (.cons (.cap 1) .nil))) .nil)))))
    .nil) .nil)
    (.seq (.ife (.op .eq (.cons (.nm 3) (.cons (.kst (.str "functional")) .nil))) (.seq (.ret (.op .tup (.cons (.cap 3) (.cons (.op .tup (.cons (.op .ix (.cons (.op .lst (.cons (.kst (.str "out")) (.cons (.kst (.str "in")) .nil))) (.cons (.call 285 [0] (.cons (.nm 0) (.cons (.kst (.int 2)) .nil))) .nil))) (.cons (.call 279 [0] (.cons (.nm 0) (.cons (.op .ix (.cons (.nm 1) (.cons (.kst (.int 1)) .nil))) .nil))) .nil))) .nil))))
    .nil) .nil)
    (.seq (.ret (.op .tup (.cons (.cap 3) (.cons (.call 279 [0] (.cons (.nm 0) (.cons (.op .ix (.cons (.nm 1) (.cons (.kst (.int 1)) .nil))) .nil))) (.cons (.call 279 [0] (.cons (.nm 0) (.cons (.op .ix (.cons (.nm 1) (.cons (.kst (.int 1)) .nil))) .nil))) .nil)))))
    .nil))))
abbrev f_law_axiom : FDef := ⟨4, [true, false, false], true, b_law_axiom⟩
def b_law_choose : MS := (.seq (.ret (.op .ix (.cons (.nm 1) (.cons (.call 285 [0] (.cons (.nm 0) (.cons (.op .len (.cons (.nm 1) .nil)) .nil))) .nil))))
    .nil)
abbrev f_law_choose : FDef := ⟨2, [true, false], false, b_law_choose⟩
def b_law_concept : MS := (.seq (.asg (.sl 2) (.op .ix (.cons (.op .lst (.cons (.kst (.str "concept")) (.cons (.kst (.str "concept")) (.cons (.kst (.str "out")) (.cons (.kst (.str "in")) .nil))))) (.cons (.call 285 [0] (.cons (.nm 0) (.cons (.kst (.int 4)) .nil))) .nil))))
    (.seq (.ret (.op .tup (.cons (.cap 2) (.cons (.call 279 [0] (.cons (.nm 0) (.cons (.op .ix (.cons (.nm 1) (.cons (.op .toInt (.cons (.op .ne (.cons (.nm 2) (.cons (.kst (.str "concept")) .nil))) .nil)) .nil))) .nil))) .nil))))
    .nil))
abbrev f_law_concept : FDef := ⟨3, [true, false], true, b_law_concept⟩
def b_law_draw : MS := (.seq (.ife (.op .gt (.cons (.op .ix (.cons (.nm 0) (.cons (.kst (.int 0)) .nil))) (.cons (.kst (.int 0)) .nil))) (.seq (.asg (.sl 2) (.op .mod (.cons (.op .ix (.cons (.nm 0) (.cons (.kst (.int 0)) .nil))) (.cons (.nm 1) .nil))))
    (.seq (.seti 0 (.kst (.int 0)) (.op .fdiv (.cons (.op .ix (.cons (.nm 0) (.cons (.kst (.int 0)) .nil))) (.cons (.nm 1) .nil))))
    (.seq (.ret (.nm 2))
    .nil))) .nil)
    (.seq (.seti 0 (.kst (.int 1)) (.op .mod (.cons (.op .add (.cons (.op .mul (.cons (.op .ix (.cons (.nm 0) (.cons (.kst (.int 1)) .nil))) (.cons (.kst (.int 69621)) .nil))) (.cons (.kst (.int 7)) .nil))) (.cons (.kst (.int 2147483647)) .nil))))
    (.seq (.ret (.op .mod (.cons (.op .fdiv (.cons (.op .mod (.cons (.op .mul (.cons (.op .ix (.cons (.nm 0) (.cons (.kst (.int 1)) .nil))) (.cons (.op .ix (.cons (.nm 0) (.cons (.kst (.int 1)) .nil))) .nil))) (.cons (.kst (.int 2147483629)) .nil))) (.cons (.kst (.int 32)) .nil))) (.cons (.nm 1) .nil))))
    .nil)))
abbrev f_law_draw : FDef := ⟨3, [true, false], true, b_law_draw⟩
def l_law_facts_2_1_b : MS := (.scrub [5, 6, 7, 8] (.seq (.asg (.tup (.cons (.sl 6) (.cons (.sl 7) .nil))) (.op .tup (.cons (.call 279 [0] (.cons (.nm 0) (.cons (.cap 2) .nil))) (.cons (.call 279 [0] (.cons (.nm 0) (.cons (.cap 2) .nil))) .nil))))
    (.seq (.asg (.sl 8) (.op .tup (.cons (.kst (.str "concept")) (.cons (.call 279 [0] (.cons (.nm 0) (.cons (.op .ix (.cons (.nm 1) (.cons (.kst (.int 0)) .nil))) .nil))) (.cons (.cap 6) .nil)))))
    (.seq (.ife (.op .eq (.cons (.call 285 [0] (.cons (.nm 0) (.cons (.kst (.int 2)) .nil))) (.cons (.kst (.int 0)) .nil))) (.seq (.asg (.sl 8) (.op .tup (.cons (.kst (.str "role")) (.cons (.call 279 [0] (.cons (.nm 0) (.cons (.op .ix (.cons (.nm 1) (.cons (.kst (.int 1)) .nil))) .nil))) (.cons (.cap 6) (.cons (.cap 7) .nil))))))
    .nil) .nil)
    (.seq (.ife (.op .notin (.cons (.nm 8) (.cons (.nm 4) .nil))) (.seq (.expr (.mop .append 4 (.cons (.cap 8) .nil)))
    .nil) .nil)
    .nil)))))
def l_law_facts_2_1 : MS := (.for_ (.sl 5) (.op .range1 (.cons (.call 285 [0] (.cons (.nm 0) (.cons (.op .add (.cons (.nm 3) (.cons (.kst (.int 1)) .nil))) .nil))) .nil)) l_law_facts_2_1_b)
def b_law_facts_2 : MS := (.seq (.asg (.sl 4) (.op .lst .nil))
    (.frz [2] (.seq l_law_facts_2_1
    (.seq (.ret (.nm 4))
    .nil))))
abbrev f_law_facts_2 : FDef := ⟨9, [true, false, false, false], true, b_law_facts_2⟩
def k_law_names_1 : ME := (.comp [4] (.sl 4) (.kst (.str "abcd")) (.kst (.bl true)) (.op .add (.cons (.nm 1) (.cons (.nm 4) .nil))))
def k_law_names_2 : ME := (.comp [4] (.sl 4) (.kst (.str "rst")) (.kst (.bl true)) (.op .add (.cons (.nm 1) (.cons (.nm 4) .nil))))
def b_law_names : MS := (.seq (.asg (.sl 1) (.op .ix (.cons (.op .lst (.cons (.kst (.str "")) (.cons (.kst (.str "k")) (.cons (.kst (.str "zzzzzzz")) .nil)))) (.cons (.call 285 [0] (.cons (.nm 0) (.cons (.kst (.int 3)) .nil))) .nil))))
    (.seq (.asg (.sl 2) k_law_names_1)
    (.seq (.asg (.sl 3) k_law_names_2)
    (.seq (.ret (.op .tup (.cons (.cap 2) (.cons (.op .ix (.cons (.op .lst (.cons (.cap 3) (.cons (.op (.sl false true) (.cons (.nm 2) (.cons (.kst (.int 3)) .nil))) .nil))) (.cons (.op .toInt (.cons (.op .eq (.cons (.call 285 [0] (.cons (.nm 0) (.cons (.kst (.int 4)) .nil))) (.cons (.kst (.int 0)) .nil))) .nil)) .nil))) .nil))))
    .nil))))
abbrev f_law_names : FDef := ⟨5, [true], true, b_law_names⟩
def b_law_stream : MS := (.seq (.asg (.sl 2) (.kst (.int 0)))
    (.seq (.ife (.op .lt (.cons (.nm 1) (.cons (.op .len (.cons (.nm 0) .nil)) .nil))) (.seq (.asg (.sl 2) (.op .ix (.cons (.nm 0) (.cons (.nm 1) .nil))))
    .nil) .nil)
    (.seq (.asg (.sl 3) (.op .max2 (.cons (.nm 2) (.cons (.op .sub (.cons (.op .neg (.cons (.kst (.int 1)) .nil)) (.cons (.nm 2) .nil))) .nil))))
    (.seq (.asg (.sl 4) (.op .mod (.cons (.op .mul (.cons (.op .add (.cons (.op .add (.cons (.op .add (.cons (.op .mod (.cons (.nm 3) (.cons (.kst (.int 2147483629)) .nil))) (.cons (.op .mul (.cons (.op .mul (.cons (.kst (.int 7919)) (.cons (.nm 1) .nil))) (.cons (.nm 1) .nil))) .nil))) (.cons (.op .mul (.cons (.kst (.int 31)) (.cons (.nm 1) .nil))) .nil))) (.cons (.kst (.int 17)) .nil))) (.cons (.kst (.int 48271)) .nil))) (.cons (.kst (.int 2147483647)) .nil))))
    (.seq (.ret (.op .lst (.cons (.op .mul (.cons (.nm 3) (.cons (.op .toInt (.cons (.op .ge (.cons (.nm 3) (.cons (.op .pow (.cons (.kst (.int 10)) (.cons (.kst (.int 18)) .nil))) .nil))) .nil)) .nil))) (.cons (.cap 4) .nil))))
    .nil)))))
abbrev f_law_stream : FDef := ⟨5, [false, false], true, b_law_stream⟩
def fN : FDef := ⟨0, [], true, .never⟩
def fsBase : List FDef := [fN, fN, fN, fN, fN, fN, fN, fN, fN, fN, fN, fN, fN, fN, fN, fN, fN, fN, fN, fN, fN, fN, fN, fN, fN, fN, fN, fN, fN, f_check_facts, fN, f_check_ontology, fN, fN, fN, fN, fN, fN, fN, fN, fN, fN, fN, fN, fN, fN, fN, fN, fN, fN, fN, fN, fN, fN, fN, fN, fN, fN, fN, fN, fN, fN, fN, fN, fN, fN, fN, fN, fN, fN, fN, fN, fN, fN, fN, fN, fN, fN, fN, fN, fN, fN, fN, fN, fN, fN, fN, fN, fN, fN, fN, fN, fN, fN, fN, fN, fN, fN, fN, fN, fN, f_has_fact_form, fN, fN, fN, fN, fN, f_individuals_of, fN, fN, fN, f_is_axiom, fN, fN, fN, fN, fN, fN, fN, fN, f_is_concept, fN, fN, fN, fN, fN, fN, f_is_direction, fN, fN, fN, f_is_fact, fN, fN, fN, f_is_individual, f_is_integer, fN, fN, fN, fN, fN, fN, fN, fN, fN, fN, fN, fN, fN, fN, fN, f_is_sequence, fN, fN, f_is_string_of, fN, fN, fN, fN, fN, fN, f_is_value, f_is_word, fN, fN, fN, fN, fN, fN, fN, fN, fN, fN, fN, fN, fN, fN, fN, fN, fN, fN, fN, fN, fN, fN, fN, fN, fN, fN, fN, fN, fN, fN, fN, fN, fN, fN, fN, fN, fN, fN, fN, fN, fN, fN, fN, fN, fN, fN, fN, fN, fN, fN, fN, fN, fN, fN, fN, fN, fN, fN, fN, fN, fN, fN, fN, fN, fN, fN, fN, fN, fN, fN, fN, fN, fN, fN, fN, fN, fN, fN, fN, fN, fN, fN, fN, fN, fN, fN, fN, fN, fN, fN, fN, fN, fN, fN, fN, fN, fN, fN, fN, fN, fN, fN, fN, fN, fN, fN, fN, fN, fN, fN, f_law_axiom, fN, fN, fN, fN, f_law_choose, f_law_concept, fN, fN, fN, fN, f_law_draw, fN, fN, fN, fN, fN, f_law_facts_2, fN, fN, fN, fN, fN, fN, fN, fN, fN, fN, fN, fN, f_law_names, fN, fN, fN, fN, fN, fN, fN, fN, fN, fN, fN, fN, fN, fN, fN, fN, fN, fN, fN, fN, fN, fN, fN, fN, fN, fN, fN, fN, fN, f_law_stream, fN, fN, fN, fN, fN, fN, fN, fN, fN, fN, fN, fN, fN, fN, fN, fN, fN, fN, fN, fN, fN]
def gtAll : List (Nat × Str × D) := [((0, "LETTERS", (.str "abcdefghijklmnopqrstuvwxyz")) : Nat × Str × D), ((1, "MAX_LENGTH", (.int 8)) : Nat × Str × D), ((2, "DIRECTION_WORDS", (.tup [(.str "out"), (.str "in")])) : Nat × Str × D), ((3, "CONCEPT_AXIOMS", (.tup [(.str "subclass"), (.str "disjoint")])) : Nat × Str × D), ((4, "ROLE_AXIOMS", (.tup [(.str "subrole"), (.str "subrole_inverse"), (.str "disjoint_roles"), (.str "disjoint_inverse")])) : Nat × Str × D), ((5, "MAX_AXIOMS", (.int 16)) : Nat × Str × D), ((6, "INVERSE_WORDS", (.dct [((.str "out"), (.str "in")), ((.str "in"), (.str "out"))])) : Nat × Str × D), ((7, "MAX_CHAIN", (.int 40)) : Nat × Str × D), ((8, "MAX_SETS", (.int 64)) : Nat × Str × D), ((9, "MAX_DEPTH", (.int 16)) : Nat × Str × D), ((10, "DIGITS", (.str "0123456789")) : Nat × Str × D), ((11, "MAX_STEPS", (.int 1000)) : Nat × Str × D), ((12, "GIVEN", (.tup [(.str "given")])) : Nat × Str × D), ((13, "MAX_NODE_KINDS", (.int 20)) : Nat × Str × D), ((14, "MAX_CHILDREN", (.int 16)) : Nat × Str × D), ((15, "MAX_PATTERNS", (.int 4)) : Nat × Str × D), ((16, "MAX_ANSWER_TERMS", (.int 3)) : Nat × Str × D), ((17, "MAX_QUERIES", (.int 200)) : Nat × Str × D), ((18, "INITIAL", (.tup [(.str "initial")])) : Nat × Str × D), ((19, "MAX_TABLES", (.int 4)) : Nat × Str × D), ((20, "MAX_COLUMNS", (.int 3)) : Nat × Str × D), ((21, "MAX_ROWS", (.int 12)) : Nat × Str × D), ((22, "MAX_CONSTRAINTS", (.int 8)) : Nat × Str × D), ((23, "MAX_MAPPINGS", (.int 8)) : Nat × Str × D), ((24, "MAX_BODY_ITEMS", (.int 2)) : Nat × Str × D), ((25, "MAX_CHOICES", (.int 400)) : Nat × Str × D), ((26, "MAX_SETS_justifications", (.int 64)) : Nat × Str × D), ((27, "MAX_SETS_repairing", (.int 64)) : Nat × Str × D), ((28, "CHANGE_LENGTHS", (.dct [((.str "add_axiom"), (.int 2)), ((.str "remove_axiom"), (.int 2)), ((.str "add_mapping"), (.int 2)), ((.str "remove_mapping"), (.int 2)), ((.str "add_row"), (.int 3)), ((.str "remove_row"), (.int 3)), ((.str "add_table"), (.int 4)), ((.str "remove_table"), (.int 2))])) : Nat × Str × D), ((29, "FIRST", (.tup [(.str "a"), (.str "1")])) : Nat × Str × D), ((30, "SECOND", (.tup [(.str "a"), (.str "2")])) : Nat × Str × D), ((31, "THIRD", (.tup [(.str "a"), (.str "3")])) : Nat × Str × D), ((32, "COLUMN_COUNTS", (.dct [((.str "1"), (.int 1)), ((.str "2"), (.int 2)), ((.str "3"), (.int 3))])) : Nat × Str × D), ((33, "BAR", (.str " | ")) : Nat × Str × D), ((34, "SEPARATOR", (.str " ; ")) : Nat × Str × D), ((35, "SIMPLE_COMMANDS", (.tup [(.str "undo"), (.str "version"), (.str "rows"), (.str "inconsistent"), (.str "repairs")])) : Nat × Str × D)]
def xsAll : List (Nat × XC) := [((0, ⟨"OntologyError", none, [(.own 0, true), (.own 1, false), (.own 2, false), (.own 3, false), (.own 4, false), (.own 5, false), (.own 6, false), (.own 7, false), (.own 8, false), (.own 9, false), (.own 10, false), (.own 11, false), (.own 12, false), (.own 13, false), (.own 14, false), (.own 15, false), (.own 16, false), (.ty "ValueError", true), (.ty "LookupError", false), (.ty "OverflowError", false), (.ty "RuntimeError", false)]⟩) : Nat × XC), ((1, ⟨"InvalidOntology", some "index", [(.own 0, true), (.own 1, true), (.own 2, false), (.own 3, false), (.own 4, false), (.own 5, false), (.own 6, false), (.own 7, false), (.own 8, false), (.own 9, false), (.own 10, false), (.own 11, false), (.own 12, false), (.own 13, false), (.own 14, false), (.own 15, false), (.own 16, false), (.ty "ValueError", true), (.ty "LookupError", false), (.ty "OverflowError", false), (.ty "RuntimeError", false)]⟩) : Nat × XC), ((2, ⟨"InvalidConcept", none, [(.own 0, true), (.own 1, false), (.own 2, true), (.own 3, false), (.own 4, false), (.own 5, false), (.own 6, false), (.own 7, false), (.own 8, false), (.own 9, false), (.own 10, false), (.own 11, false), (.own 12, false), (.own 13, false), (.own 14, false), (.own 15, false), (.own 16, false), (.ty "ValueError", true), (.ty "LookupError", false), (.ty "OverflowError", false), (.ty "RuntimeError", false)]⟩) : Nat × XC), ((3, ⟨"LimitExceeded", some "limit", [(.own 0, false), (.own 1, false), (.own 2, false), (.own 3, true), (.own 4, false), (.own 5, false), (.own 6, false), (.own 7, false), (.own 8, false), (.own 9, false), (.own 10, false), (.own 11, false), (.own 12, false), (.own 13, false), (.own 14, false), (.own 15, false), (.own 16, false), (.ty "ValueError", false), (.ty "LookupError", false), (.ty "OverflowError", true), (.ty "RuntimeError", false)]⟩) : Nat × XC), ((4, ⟨"InvalidFacts", some "index", [(.own 0, true), (.own 1, false), (.own 2, false), (.own 3, false), (.own 4, true), (.own 5, false), (.own 6, false), (.own 7, false), (.own 8, false), (.own 9, false), (.own 10, false), (.own 11, false), (.own 12, false), (.own 13, false), (.own 14, false), (.own 15, false), (.own 16, false), (.ty "ValueError", true), (.ty "LookupError", false), (.ty "OverflowError", false), (.ty "RuntimeError", false)]⟩) : Nat × XC), ((5, ⟨"Inconsistent", some "certificate", [(.own 0, false), (.own 1, false), (.own 2, false), (.own 3, false), (.own 4, false), (.own 5, true), (.own 6, false), (.own 7, false), (.own 8, false), (.own 9, false), (.own 10, false), (.own 11, false), (.own 12, false), (.own 13, false), (.own 14, false), (.own 15, false), (.own 16, false), (.ty "ValueError", false), (.ty "LookupError", false), (.ty "OverflowError", false), (.ty "RuntimeError", true)]⟩) : Nat × XC), ((6, ⟨"InvalidAnswer", none, [(.own 0, false), (.own 1, false), (.own 2, false), (.own 3, false), (.own 4, false), (.own 5, false), (.own 6, true), (.own 7, false), (.own 8, false), (.own 9, false), (.own 10, false), (.own 11, false), (.own 12, false), (.own 13, false), (.own 14, false), (.own 15, false), (.own 16, false), (.ty "ValueError", false), (.ty "LookupError", true), (.ty "OverflowError", false), (.ty "RuntimeError", false)]⟩) : Nat × XC), ((7, ⟨"InvalidTables", some "table", [(.own 0, true), (.own 1, false), (.own 2, false), (.own 3, false), (.own 4, false), (.own 5, false), (.own 6, false), (.own 7, true), (.own 8, false), (.own 9, false), (.own 10, false), (.own 11, false), (.own 12, false), (.own 13, false), (.own 14, false), (.own 15, false), (.own 16, false), (.ty "ValueError", true), (.ty "LookupError", false), (.ty "OverflowError", false), (.ty "RuntimeError", false)]⟩) : Nat × XC), ((8, ⟨"InvalidMappings", some "index", [(.own 0, true), (.own 1, false), (.own 2, false), (.own 3, false), (.own 4, false), (.own 5, false), (.own 6, false), (.own 7, false), (.own 8, true), (.own 9, false), (.own 10, false), (.own 11, false), (.own 12, false), (.own 13, false), (.own 14, false), (.own 15, false), (.own 16, false), (.ty "ValueError", true), (.ty "LookupError", false), (.ty "OverflowError", false), (.ty "RuntimeError", false)]⟩) : Nat × XC), ((9, ⟨"InvalidConstraints", some "index", [(.own 0, true), (.own 1, false), (.own 2, false), (.own 3, false), (.own 4, false), (.own 5, false), (.own 6, false), (.own 7, false), (.own 8, false), (.own 9, true), (.own 10, false), (.own 11, false), (.own 12, false), (.own 13, false), (.own 14, false), (.own 15, false), (.own 16, false), (.ty "ValueError", true), (.ty "LookupError", false), (.ty "OverflowError", false), (.ty "RuntimeError", false)]⟩) : Nat × XC), ((10, ⟨"InvalidStep", none, [(.own 0, true), (.own 1, false), (.own 2, false), (.own 3, false), (.own 4, false), (.own 5, false), (.own 6, false), (.own 7, false), (.own 8, false), (.own 9, false), (.own 10, true), (.own 11, false), (.own 12, false), (.own 13, false), (.own 14, false), (.own 15, false), (.own 16, false), (.ty "ValueError", true), (.ty "LookupError", false), (.ty "OverflowError", false), (.ty "RuntimeError", false)]⟩) : Nat × XC), ((11, ⟨"InvalidChange", none, [(.own 0, true), (.own 1, false), (.own 2, false), (.own 3, false), (.own 4, false), (.own 5, false), (.own 6, false), (.own 7, false), (.own 8, false), (.own 9, false), (.own 10, false), (.own 11, true), (.own 12, false), (.own 13, false), (.own 14, false), (.own 15, false), (.own 16, false), (.ty "ValueError", true), (.ty "LookupError", false), (.ty "OverflowError", false), (.ty "RuntimeError", false)]⟩) : Nat × XC), ((12, ⟨"UnknownName", some "name", [(.own 0, false), (.own 1, false), (.own 2, false), (.own 3, false), (.own 4, false), (.own 5, false), (.own 6, false), (.own 7, false), (.own 8, false), (.own 9, false), (.own 10, false), (.own 11, false), (.own 12, true), (.own 13, false), (.own 14, false), (.own 15, false), (.own 16, false), (.ty "ValueError", false), (.ty "LookupError", true), (.ty "OverflowError", false), (.ty "RuntimeError", false)]⟩) : Nat × XC), ((13, ⟨"InvalidRenaming", none, [(.own 0, true), (.own 1, false), (.own 2, false), (.own 3, false), (.own 4, false), (.own 5, false), (.own 6, false), (.own 7, false), (.own 8, false), (.own 9, false), (.own 10, false), (.own 11, false), (.own 12, false), (.own 13, true), (.own 14, false), (.own 15, false), (.own 16, false), (.ty "ValueError", true), (.ty "LookupError", false), (.ty "OverflowError", false), (.ty "RuntimeError", false)]⟩) : Nat × XC), ((14, ⟨"InvalidQuery", none, [(.own 0, true), (.own 1, false), (.own 2, false), (.own 3, false), (.own 4, false), (.own 5, false), (.own 6, false), (.own 7, false), (.own 8, false), (.own 9, false), (.own 10, false), (.own 11, false), (.own 12, false), (.own 13, false), (.own 14, true), (.own 15, false), (.own 16, false), (.ty "ValueError", true), (.ty "LookupError", false), (.ty "OverflowError", false), (.ty "RuntimeError", false)]⟩) : Nat × XC), ((15, ⟨"ParseError", some "line", [(.own 0, true), (.own 1, false), (.own 2, false), (.own 3, false), (.own 4, false), (.own 5, false), (.own 6, false), (.own 7, false), (.own 8, false), (.own 9, false), (.own 10, false), (.own 11, false), (.own 12, false), (.own 13, false), (.own 14, false), (.own 15, true), (.own 16, false), (.ty "ValueError", true), (.ty "LookupError", false), (.ty "OverflowError", false), (.ty "RuntimeError", false)]⟩) : Nat × XC), ((16, ⟨"InvalidCommand", none, [(.own 0, true), (.own 1, false), (.own 2, false), (.own 3, false), (.own 4, false), (.own 5, false), (.own 6, false), (.own 7, false), (.own 8, false), (.own 9, false), (.own 10, false), (.own 11, false), (.own 12, false), (.own 13, false), (.own 14, false), (.own 15, false), (.own 16, true), (.ty "ValueError", true), (.ty "LookupError", false), (.ty "OverflowError", false), (.ty "RuntimeError", false)]⟩) : Nat × XC)]
abbrev i_check_facts : Nat := 29
abbrev i_check_ontology : Nat := 31
abbrev i_has_fact_form : Nat := 101
abbrev i_individuals_of : Nat := 107
abbrev i_is_axiom : Nat := 111
abbrev i_is_concept : Nat := 120
abbrev i_is_direction : Nat := 127
abbrev i_is_fact : Nat := 131
abbrev i_is_individual : Nat := 135
abbrev i_is_integer : Nat := 136
abbrev i_is_sequence : Nat := 152
abbrev i_is_string_of : Nat := 155
abbrev i_is_value : Nat := 162
abbrev i_is_word : Nat := 163
abbrev i_law_axiom : Nat := 274
abbrev i_law_choose : Nat := 279
abbrev i_law_concept : Nat := 280
abbrev i_law_draw : Nat := 285
abbrev i_law_facts_2 : Nat := 291
abbrev i_law_names : Nat := 304
abbrev i_law_stream : Nat := 334
structure Base (P : Prog) : Prop where
  gt : P.gt = gtAll
  xs : P.xs = xsAll
  fs : ∀ i, i < 356 → P.fs[i]? = fsBase[i]?
theorem at_check_facts {P : Prog} (h : Base P) : P.fs[29]? = some f_check_facts := (h.fs 29 (by decide)).trans rfl
theorem at_check_ontology {P : Prog} (h : Base P) : P.fs[31]? = some f_check_ontology := (h.fs 31 (by decide)).trans rfl
theorem at_has_fact_form {P : Prog} (h : Base P) : P.fs[101]? = some f_has_fact_form := (h.fs 101 (by decide)).trans rfl
theorem at_individuals_of {P : Prog} (h : Base P) : P.fs[107]? = some f_individuals_of := (h.fs 107 (by decide)).trans rfl
theorem at_is_axiom {P : Prog} (h : Base P) : P.fs[111]? = some f_is_axiom := (h.fs 111 (by decide)).trans rfl
theorem at_is_concept {P : Prog} (h : Base P) : P.fs[120]? = some f_is_concept := (h.fs 120 (by decide)).trans rfl
theorem at_is_direction {P : Prog} (h : Base P) : P.fs[127]? = some f_is_direction := (h.fs 127 (by decide)).trans rfl
theorem at_is_fact {P : Prog} (h : Base P) : P.fs[131]? = some f_is_fact := (h.fs 131 (by decide)).trans rfl
theorem at_is_individual {P : Prog} (h : Base P) : P.fs[135]? = some f_is_individual := (h.fs 135 (by decide)).trans rfl
theorem at_is_integer {P : Prog} (h : Base P) : P.fs[136]? = some f_is_integer := (h.fs 136 (by decide)).trans rfl
theorem at_is_sequence {P : Prog} (h : Base P) : P.fs[152]? = some f_is_sequence := (h.fs 152 (by decide)).trans rfl
theorem at_is_string_of {P : Prog} (h : Base P) : P.fs[155]? = some f_is_string_of := (h.fs 155 (by decide)).trans rfl
theorem at_is_value {P : Prog} (h : Base P) : P.fs[162]? = some f_is_value := (h.fs 162 (by decide)).trans rfl
theorem at_is_word {P : Prog} (h : Base P) : P.fs[163]? = some f_is_word := (h.fs 163 (by decide)).trans rfl
theorem at_law_axiom {P : Prog} (h : Base P) : P.fs[274]? = some f_law_axiom := (h.fs 274 (by decide)).trans rfl
theorem at_law_choose {P : Prog} (h : Base P) : P.fs[279]? = some f_law_choose := (h.fs 279 (by decide)).trans rfl
theorem at_law_concept {P : Prog} (h : Base P) : P.fs[280]? = some f_law_concept := (h.fs 280 (by decide)).trans rfl
theorem at_law_draw {P : Prog} (h : Base P) : P.fs[285]? = some f_law_draw := (h.fs 285 (by decide)).trans rfl
theorem at_law_facts_2 {P : Prog} (h : Base P) : P.fs[291]? = some f_law_facts_2 := (h.fs 291 (by decide)).trans rfl
theorem at_law_names {P : Prog} (h : Base P) : P.fs[304]? = some f_law_names := (h.fs 304 (by decide)).trans rfl
theorem at_law_stream {P : Prog} (h : Base P) : P.fs[334]? = some f_law_stream := (h.fs 334 (by decide)).trans rfl
theorem g_LETTERS {P : Prog} (h : Base P) : P.gt.lookup 0 = some (("LETTERS", (.str "abcdefghijklmnopqrstuvwxyz")) : Str × D) := by rw [h.gt]; rfl
theorem g_MAX_LENGTH {P : Prog} (h : Base P) : P.gt.lookup 1 = some (("MAX_LENGTH", (.int 8)) : Str × D) := by rw [h.gt]; rfl
theorem g_DIRECTION_WORDS {P : Prog} (h : Base P) : P.gt.lookup 2 = some (("DIRECTION_WORDS", (.tup [(.str "out"), (.str "in")])) : Str × D) := by rw [h.gt]; rfl
theorem g_CONCEPT_AXIOMS {P : Prog} (h : Base P) : P.gt.lookup 3 = some (("CONCEPT_AXIOMS", (.tup [(.str "subclass"), (.str "disjoint")])) : Str × D) := by rw [h.gt]; rfl
theorem g_ROLE_AXIOMS {P : Prog} (h : Base P) : P.gt.lookup 4 = some (("ROLE_AXIOMS", (.tup [(.str "subrole"), (.str "subrole_inverse"), (.str "disjoint_roles"), (.str "disjoint_inverse")])) : Str × D) := by rw [h.gt]; rfl
theorem g_MAX_AXIOMS {P : Prog} (h : Base P) : P.gt.lookup 5 = some (("MAX_AXIOMS", (.int 16)) : Str × D) := by rw [h.gt]; rfl
theorem g_INVERSE_WORDS {P : Prog} (h : Base P) : P.gt.lookup 6 = some (("INVERSE_WORDS", (.dct [((.str "out"), (.str "in")), ((.str "in"), (.str "out"))])) : Str × D) := by rw [h.gt]; rfl
theorem g_MAX_CHAIN {P : Prog} (h : Base P) : P.gt.lookup 7 = some (("MAX_CHAIN", (.int 40)) : Str × D) := by rw [h.gt]; rfl
theorem g_MAX_SETS {P : Prog} (h : Base P) : P.gt.lookup 8 = some (("MAX_SETS", (.int 64)) : Str × D) := by rw [h.gt]; rfl
theorem g_MAX_DEPTH {P : Prog} (h : Base P) : P.gt.lookup 9 = some (("MAX_DEPTH", (.int 16)) : Str × D) := by rw [h.gt]; rfl
theorem g_DIGITS {P : Prog} (h : Base P) : P.gt.lookup 10 = some (("DIGITS", (.str "0123456789")) : Str × D) := by rw [h.gt]; rfl
theorem g_MAX_STEPS {P : Prog} (h : Base P) : P.gt.lookup 11 = some (("MAX_STEPS", (.int 1000)) : Str × D) := by rw [h.gt]; rfl
theorem g_GIVEN {P : Prog} (h : Base P) : P.gt.lookup 12 = some (("GIVEN", (.tup [(.str "given")])) : Str × D) := by rw [h.gt]; rfl
theorem g_MAX_NODE_KINDS {P : Prog} (h : Base P) : P.gt.lookup 13 = some (("MAX_NODE_KINDS", (.int 20)) : Str × D) := by rw [h.gt]; rfl
theorem g_MAX_CHILDREN {P : Prog} (h : Base P) : P.gt.lookup 14 = some (("MAX_CHILDREN", (.int 16)) : Str × D) := by rw [h.gt]; rfl
theorem g_MAX_PATTERNS {P : Prog} (h : Base P) : P.gt.lookup 15 = some (("MAX_PATTERNS", (.int 4)) : Str × D) := by rw [h.gt]; rfl
theorem g_MAX_ANSWER_TERMS {P : Prog} (h : Base P) : P.gt.lookup 16 = some (("MAX_ANSWER_TERMS", (.int 3)) : Str × D) := by rw [h.gt]; rfl
theorem g_MAX_QUERIES {P : Prog} (h : Base P) : P.gt.lookup 17 = some (("MAX_QUERIES", (.int 200)) : Str × D) := by rw [h.gt]; rfl
theorem g_INITIAL {P : Prog} (h : Base P) : P.gt.lookup 18 = some (("INITIAL", (.tup [(.str "initial")])) : Str × D) := by rw [h.gt]; rfl
theorem g_MAX_TABLES {P : Prog} (h : Base P) : P.gt.lookup 19 = some (("MAX_TABLES", (.int 4)) : Str × D) := by rw [h.gt]; rfl
theorem g_MAX_COLUMNS {P : Prog} (h : Base P) : P.gt.lookup 20 = some (("MAX_COLUMNS", (.int 3)) : Str × D) := by rw [h.gt]; rfl
theorem g_MAX_ROWS {P : Prog} (h : Base P) : P.gt.lookup 21 = some (("MAX_ROWS", (.int 12)) : Str × D) := by rw [h.gt]; rfl
theorem g_MAX_CONSTRAINTS {P : Prog} (h : Base P) : P.gt.lookup 22 = some (("MAX_CONSTRAINTS", (.int 8)) : Str × D) := by rw [h.gt]; rfl
theorem g_MAX_MAPPINGS {P : Prog} (h : Base P) : P.gt.lookup 23 = some (("MAX_MAPPINGS", (.int 8)) : Str × D) := by rw [h.gt]; rfl
theorem g_MAX_BODY_ITEMS {P : Prog} (h : Base P) : P.gt.lookup 24 = some (("MAX_BODY_ITEMS", (.int 2)) : Str × D) := by rw [h.gt]; rfl
theorem g_MAX_CHOICES {P : Prog} (h : Base P) : P.gt.lookup 25 = some (("MAX_CHOICES", (.int 400)) : Str × D) := by rw [h.gt]; rfl
theorem g_MAX_SETS_justifications {P : Prog} (h : Base P) : P.gt.lookup 26 = some (("MAX_SETS_justifications", (.int 64)) : Str × D) := by rw [h.gt]; rfl
theorem g_MAX_SETS_repairing {P : Prog} (h : Base P) : P.gt.lookup 27 = some (("MAX_SETS_repairing", (.int 64)) : Str × D) := by rw [h.gt]; rfl
theorem g_CHANGE_LENGTHS {P : Prog} (h : Base P) : P.gt.lookup 28 = some (("CHANGE_LENGTHS", (.dct [((.str "add_axiom"), (.int 2)), ((.str "remove_axiom"), (.int 2)), ((.str "add_mapping"), (.int 2)), ((.str "remove_mapping"), (.int 2)), ((.str "add_row"), (.int 3)), ((.str "remove_row"), (.int 3)), ((.str "add_table"), (.int 4)), ((.str "remove_table"), (.int 2))])) : Str × D) := by rw [h.gt]; rfl
theorem g_FIRST {P : Prog} (h : Base P) : P.gt.lookup 29 = some (("FIRST", (.tup [(.str "a"), (.str "1")])) : Str × D) := by rw [h.gt]; rfl
theorem g_SECOND {P : Prog} (h : Base P) : P.gt.lookup 30 = some (("SECOND", (.tup [(.str "a"), (.str "2")])) : Str × D) := by rw [h.gt]; rfl
theorem g_THIRD {P : Prog} (h : Base P) : P.gt.lookup 31 = some (("THIRD", (.tup [(.str "a"), (.str "3")])) : Str × D) := by rw [h.gt]; rfl
theorem g_COLUMN_COUNTS {P : Prog} (h : Base P) : P.gt.lookup 32 = some (("COLUMN_COUNTS", (.dct [((.str "1"), (.int 1)), ((.str "2"), (.int 2)), ((.str "3"), (.int 3))])) : Str × D) := by rw [h.gt]; rfl
theorem g_BAR {P : Prog} (h : Base P) : P.gt.lookup 33 = some (("BAR", (.str " | ")) : Str × D) := by rw [h.gt]; rfl
theorem g_SEPARATOR {P : Prog} (h : Base P) : P.gt.lookup 34 = some (("SEPARATOR", (.str " ; ")) : Str × D) := by rw [h.gt]; rfl
theorem g_SIMPLE_COMMANDS {P : Prog} (h : Base P) : P.gt.lookup 35 = some (("SIMPLE_COMMANDS", (.tup [(.str "undo"), (.str "version"), (.str "rows"), (.str "inconsistent"), (.str "repairs")])) : Str × D) := by rw [h.gt]; rfl
abbrev xc_OntologyError : XC := ⟨"OntologyError", none, [(.own 0, true), (.own 1, false), (.own 2, false), (.own 3, false), (.own 4, false), (.own 5, false), (.own 6, false), (.own 7, false), (.own 8, false), (.own 9, false), (.own 10, false), (.own 11, false), (.own 12, false), (.own 13, false), (.own 14, false), (.own 15, false), (.own 16, false), (.ty "ValueError", true), (.ty "LookupError", false), (.ty "OverflowError", false), (.ty "RuntimeError", false)]⟩
theorem x_OntologyError {P : Prog} (h : Base P) : P.xs.lookup 0 = some xc_OntologyError := by rw [h.xs]; rfl
abbrev xc_InvalidOntology : XC := ⟨"InvalidOntology", some "index", [(.own 0, true), (.own 1, true), (.own 2, false), (.own 3, false), (.own 4, false), (.own 5, false), (.own 6, false), (.own 7, false), (.own 8, false), (.own 9, false), (.own 10, false), (.own 11, false), (.own 12, false), (.own 13, false), (.own 14, false), (.own 15, false), (.own 16, false), (.ty "ValueError", true), (.ty "LookupError", false), (.ty "OverflowError", false), (.ty "RuntimeError", false)]⟩
theorem x_InvalidOntology {P : Prog} (h : Base P) : P.xs.lookup 1 = some xc_InvalidOntology := by rw [h.xs]; rfl
abbrev xc_InvalidConcept : XC := ⟨"InvalidConcept", none, [(.own 0, true), (.own 1, false), (.own 2, true), (.own 3, false), (.own 4, false), (.own 5, false), (.own 6, false), (.own 7, false), (.own 8, false), (.own 9, false), (.own 10, false), (.own 11, false), (.own 12, false), (.own 13, false), (.own 14, false), (.own 15, false), (.own 16, false), (.ty "ValueError", true), (.ty "LookupError", false), (.ty "OverflowError", false), (.ty "RuntimeError", false)]⟩
theorem x_InvalidConcept {P : Prog} (h : Base P) : P.xs.lookup 2 = some xc_InvalidConcept := by rw [h.xs]; rfl
abbrev xc_LimitExceeded : XC := ⟨"LimitExceeded", some "limit", [(.own 0, false), (.own 1, false), (.own 2, false), (.own 3, true), (.own 4, false), (.own 5, false), (.own 6, false), (.own 7, false), (.own 8, false), (.own 9, false), (.own 10, false), (.own 11, false), (.own 12, false), (.own 13, false), (.own 14, false), (.own 15, false), (.own 16, false), (.ty "ValueError", false), (.ty "LookupError", false), (.ty "OverflowError", true), (.ty "RuntimeError", false)]⟩
theorem x_LimitExceeded {P : Prog} (h : Base P) : P.xs.lookup 3 = some xc_LimitExceeded := by rw [h.xs]; rfl
abbrev xc_InvalidFacts : XC := ⟨"InvalidFacts", some "index", [(.own 0, true), (.own 1, false), (.own 2, false), (.own 3, false), (.own 4, true), (.own 5, false), (.own 6, false), (.own 7, false), (.own 8, false), (.own 9, false), (.own 10, false), (.own 11, false), (.own 12, false), (.own 13, false), (.own 14, false), (.own 15, false), (.own 16, false), (.ty "ValueError", true), (.ty "LookupError", false), (.ty "OverflowError", false), (.ty "RuntimeError", false)]⟩
theorem x_InvalidFacts {P : Prog} (h : Base P) : P.xs.lookup 4 = some xc_InvalidFacts := by rw [h.xs]; rfl
abbrev xc_Inconsistent : XC := ⟨"Inconsistent", some "certificate", [(.own 0, false), (.own 1, false), (.own 2, false), (.own 3, false), (.own 4, false), (.own 5, true), (.own 6, false), (.own 7, false), (.own 8, false), (.own 9, false), (.own 10, false), (.own 11, false), (.own 12, false), (.own 13, false), (.own 14, false), (.own 15, false), (.own 16, false), (.ty "ValueError", false), (.ty "LookupError", false), (.ty "OverflowError", false), (.ty "RuntimeError", true)]⟩
theorem x_Inconsistent {P : Prog} (h : Base P) : P.xs.lookup 5 = some xc_Inconsistent := by rw [h.xs]; rfl
abbrev xc_InvalidAnswer : XC := ⟨"InvalidAnswer", none, [(.own 0, false), (.own 1, false), (.own 2, false), (.own 3, false), (.own 4, false), (.own 5, false), (.own 6, true), (.own 7, false), (.own 8, false), (.own 9, false), (.own 10, false), (.own 11, false), (.own 12, false), (.own 13, false), (.own 14, false), (.own 15, false), (.own 16, false), (.ty "ValueError", false), (.ty "LookupError", true), (.ty "OverflowError", false), (.ty "RuntimeError", false)]⟩
theorem x_InvalidAnswer {P : Prog} (h : Base P) : P.xs.lookup 6 = some xc_InvalidAnswer := by rw [h.xs]; rfl
abbrev xc_InvalidTables : XC := ⟨"InvalidTables", some "table", [(.own 0, true), (.own 1, false), (.own 2, false), (.own 3, false), (.own 4, false), (.own 5, false), (.own 6, false), (.own 7, true), (.own 8, false), (.own 9, false), (.own 10, false), (.own 11, false), (.own 12, false), (.own 13, false), (.own 14, false), (.own 15, false), (.own 16, false), (.ty "ValueError", true), (.ty "LookupError", false), (.ty "OverflowError", false), (.ty "RuntimeError", false)]⟩
theorem x_InvalidTables {P : Prog} (h : Base P) : P.xs.lookup 7 = some xc_InvalidTables := by rw [h.xs]; rfl
abbrev xc_InvalidMappings : XC := ⟨"InvalidMappings", some "index", [(.own 0, true), (.own 1, false), (.own 2, false), (.own 3, false), (.own 4, false), (.own 5, false), (.own 6, false), (.own 7, false), (.own 8, true), (.own 9, false), (.own 10, false), (.own 11, false), (.own 12, false), (.own 13, false), (.own 14, false), (.own 15, false), (.own 16, false), (.ty "ValueError", true), (.ty "LookupError", false), (.ty "OverflowError", false), (.ty "RuntimeError", false)]⟩
theorem x_InvalidMappings {P : Prog} (h : Base P) : P.xs.lookup 8 = some xc_InvalidMappings := by rw [h.xs]; rfl
abbrev xc_InvalidConstraints : XC := ⟨"InvalidConstraints", some "index", [(.own 0, true), (.own 1, false), (.own 2, false), (.own 3, false), (.own 4, false), (.own 5, false), (.own 6, false), (.own 7, false), (.own 8, false), (.own 9, true), (.own 10, false), (.own 11, false), (.own 12, false), (.own 13, false), (.own 14, false), (.own 15, false), (.own 16, false), (.ty "ValueError", true), (.ty "LookupError", false), (.ty "OverflowError", false), (.ty "RuntimeError", false)]⟩
theorem x_InvalidConstraints {P : Prog} (h : Base P) : P.xs.lookup 9 = some xc_InvalidConstraints := by rw [h.xs]; rfl
abbrev xc_InvalidStep : XC := ⟨"InvalidStep", none, [(.own 0, true), (.own 1, false), (.own 2, false), (.own 3, false), (.own 4, false), (.own 5, false), (.own 6, false), (.own 7, false), (.own 8, false), (.own 9, false), (.own 10, true), (.own 11, false), (.own 12, false), (.own 13, false), (.own 14, false), (.own 15, false), (.own 16, false), (.ty "ValueError", true), (.ty "LookupError", false), (.ty "OverflowError", false), (.ty "RuntimeError", false)]⟩
theorem x_InvalidStep {P : Prog} (h : Base P) : P.xs.lookup 10 = some xc_InvalidStep := by rw [h.xs]; rfl
abbrev xc_InvalidChange : XC := ⟨"InvalidChange", none, [(.own 0, true), (.own 1, false), (.own 2, false), (.own 3, false), (.own 4, false), (.own 5, false), (.own 6, false), (.own 7, false), (.own 8, false), (.own 9, false), (.own 10, false), (.own 11, true), (.own 12, false), (.own 13, false), (.own 14, false), (.own 15, false), (.own 16, false), (.ty "ValueError", true), (.ty "LookupError", false), (.ty "OverflowError", false), (.ty "RuntimeError", false)]⟩
theorem x_InvalidChange {P : Prog} (h : Base P) : P.xs.lookup 11 = some xc_InvalidChange := by rw [h.xs]; rfl
abbrev xc_UnknownName : XC := ⟨"UnknownName", some "name", [(.own 0, false), (.own 1, false), (.own 2, false), (.own 3, false), (.own 4, false), (.own 5, false), (.own 6, false), (.own 7, false), (.own 8, false), (.own 9, false), (.own 10, false), (.own 11, false), (.own 12, true), (.own 13, false), (.own 14, false), (.own 15, false), (.own 16, false), (.ty "ValueError", false), (.ty "LookupError", true), (.ty "OverflowError", false), (.ty "RuntimeError", false)]⟩
theorem x_UnknownName {P : Prog} (h : Base P) : P.xs.lookup 12 = some xc_UnknownName := by rw [h.xs]; rfl
abbrev xc_InvalidRenaming : XC := ⟨"InvalidRenaming", none, [(.own 0, true), (.own 1, false), (.own 2, false), (.own 3, false), (.own 4, false), (.own 5, false), (.own 6, false), (.own 7, false), (.own 8, false), (.own 9, false), (.own 10, false), (.own 11, false), (.own 12, false), (.own 13, true), (.own 14, false), (.own 15, false), (.own 16, false), (.ty "ValueError", true), (.ty "LookupError", false), (.ty "OverflowError", false), (.ty "RuntimeError", false)]⟩
theorem x_InvalidRenaming {P : Prog} (h : Base P) : P.xs.lookup 13 = some xc_InvalidRenaming := by rw [h.xs]; rfl
abbrev xc_InvalidQuery : XC := ⟨"InvalidQuery", none, [(.own 0, true), (.own 1, false), (.own 2, false), (.own 3, false), (.own 4, false), (.own 5, false), (.own 6, false), (.own 7, false), (.own 8, false), (.own 9, false), (.own 10, false), (.own 11, false), (.own 12, false), (.own 13, false), (.own 14, true), (.own 15, false), (.own 16, false), (.ty "ValueError", true), (.ty "LookupError", false), (.ty "OverflowError", false), (.ty "RuntimeError", false)]⟩
theorem x_InvalidQuery {P : Prog} (h : Base P) : P.xs.lookup 14 = some xc_InvalidQuery := by rw [h.xs]; rfl
abbrev xc_ParseError : XC := ⟨"ParseError", some "line", [(.own 0, true), (.own 1, false), (.own 2, false), (.own 3, false), (.own 4, false), (.own 5, false), (.own 6, false), (.own 7, false), (.own 8, false), (.own 9, false), (.own 10, false), (.own 11, false), (.own 12, false), (.own 13, false), (.own 14, false), (.own 15, true), (.own 16, false), (.ty "ValueError", true), (.ty "LookupError", false), (.ty "OverflowError", false), (.ty "RuntimeError", false)]⟩
theorem x_ParseError {P : Prog} (h : Base P) : P.xs.lookup 15 = some xc_ParseError := by rw [h.xs]; rfl
abbrev xc_InvalidCommand : XC := ⟨"InvalidCommand", none, [(.own 0, true), (.own 1, false), (.own 2, false), (.own 3, false), (.own 4, false), (.own 5, false), (.own 6, false), (.own 7, false), (.own 8, false), (.own 9, false), (.own 10, false), (.own 11, false), (.own 12, false), (.own 13, false), (.own 14, false), (.own 15, false), (.own 16, true), (.ty "ValueError", true), (.ty "LookupError", false), (.ty "OverflowError", false), (.ty "RuntimeError", false)]⟩
theorem x_InvalidCommand {P : Prog} (h : Base P) : P.xs.lookup 16 = some xc_InvalidCommand := by rw [h.xs]; rfl
/-! ### axioms.py: the checks of values -/
/-- data of a law: comparable, short texts -/
def gk : Nat → D → Bool
  | n + 1, .tup xs => xs.all (gk n)
  | n + 1, .lst xs => xs.all (gk n)
  | 0, .tup _ => false
  | 0, .lst _ => false
  | _, .dct kvs => kvs.isEmpty
  | _, .str s => decide (s.length ≤ line)
  | _, _ => true
@[simp] theorem gk_non (n : Nat) : gk n .non = true := by cases n <;> rfl
@[simp] theorem gk_bl (n : Nat) (b : Bool) : gk n (.bl b) = true := by cases n <;> rfl
@[simp] theorem gk_int (n : Nat) (i : Int) : gk n (.int i) = true := by cases n <;> rfl
@[simp] theorem gk_str (n : Nat) (s : Str) : gk n (.str s) = decide (s.length ≤ line) := by cases n <;> rfl
@[simp] theorem gk_tup (n : Nat) (xs : List D) : gk (n + 1) (.tup xs) = xs.all (gk n) := (rfl)
@[simp] theorem gk_lst (n : Nat) (xs : List D) : gk (n + 1) (.lst xs) = xs.all (gk n) := (rfl)
theorem gk_mono : ∀ {n m : Nat} {d : D}, n ≤ m → gk n d = true → gk m d = true
  | _, _, .non, _, _ => gk_non _
  | _, _, .bl _, _, _ => gk_bl ..
  | _, _, .int _, _, _ => gk_int ..
  | _, _, .str _, _, h => by rw [gk_str] at h ⊢; exact h
  | 0, 0, _, _, h => h
  | _ + 1, 0, _, h, _ => absurd h (Nat.not_succ_le_zero _)
  | n + 1, m + 1, .tup xs, h, e => List.all_eq_true.mpr fun x hx => gk_mono (Nat.le_of_succ_le_succ h) (List.all_eq_true.mp e x hx)
  | n + 1, m + 1, .lst xs, h, e => List.all_eq_true.mpr fun x hx => gk_mono (Nat.le_of_succ_le_succ h) (List.all_eq_true.mp e x hx)
  | n + 1, m + 1, .dct _, _, e => e
  | 0, _ + 1, .dct _, _, e => e
/-- short texts at the top -/
def sok : D → Bool
  | .str s => decide (s.length ≤ line)
  | _ => true
theorem gk_sok {n : Nat} {d : D} (h : gk n d = true) : sok d = true := by
  cases d <;> first | rfl | (rw [gk_str] at h; exact h)
/-- no dict within: comparable -/
def nod : Nat → D → Bool
  | n, d => D.lv n d
theorem bools_map (f : Nat → Bool) : ∀ l : List Nat, D.bools (l.map fun c => .bl (f c)) = some (l.map f)
  | [] => rfl
  | c :: l => by
    show (D.bools (l.map fun c => .bl (f c))).map (f c :: ·) = _
    rw [bools_map f l]
    rfl
theorem all_id_map {α : Type} (f : α → Bool) : ∀ l : List α, (l.map f).all id = l.all f
  | [] => rfl
  | c :: l => by simp [all_id_map f l]
/-- a text of one to eight of these signs -/
def strOf (t : Str) : D → Bool
  | .str s => decide (1 ≤ s.length) && (decide (s.length ≤ 8) && s.cps.toList.all fun c => decide (c ∈ t.cps.toList))
  | _ => false
abbrev LT : Str := "abcdefghijklmnopqrstuvwxyz"
def wordB (d : D) : Bool := strOf LT d
abbrev eqW (s : Str) (x : D) : Bool := D.eq x (.str s)
def dirB : D → Bool
  | .tup [x, w] => (eqW "out" x || eqW "in" x) && wordB w
  | _ => false
def conB : D → Bool
  | .tup [x, w] => (eqW "out" x || eqW "in" x || eqW "concept" x) && wordB w
  | _ => false
def axB : D → Bool
  | .tup [x, y] => eqW "functional" x && dirB y
  | .tup [x, y, z] => bif eqW "subclass" x || eqW "disjoint" x then conB y && conB z else (eqW "subrole" x || eqW "subrole_inverse" x || eqW "disjoint_roles" x || eqW "disjoint_inverse" x) && (wordB y && wordB z)
  | _ => false
section
variable {P : Prog} (hB : Base P)
include hB
theorem p_is_string_of (k : Nat) (v : D) (t : Str) (hv : sok v = true) : callN shownD P (k + 1) i_is_string_of [v, .str t] = .ok (.bl (strOf t v)) [] := by
  rw [callN_def (at_is_string_of hB) rfl]
  cases v <;> try (simp [b_is_string_of]; rfl)
  rename_i s
  have hl : s.length ≤ line := by simpa [sok] using hv
  by_cases h1 : 1 ≤ s.length
  · by_cases h2 : s.length ≤ 8
    · have hk : (k_is_string_of_1).ev shownD P (callN shownD P k) [.fz (.str s), .fz (.str t), .un] = .ok [.lst (s.cps.toList.map fun c => .bl (decide (c ∈ t.cps.toList)))] [.fz (.str s), .fz (.str t), .un] := by
        unfold k_is_string_of_1
        rw [comp_map (fun x => match x with | .str z => (match z.cps.toList with | [c] => .bl (decide (c ∈ t.cps.toList)) | _ => .non) | _ => .non) (x := .str s) (xs := s.cps.toList.map chr1) (r1 := [.fz (.str s), .fz (.str t), .un]) (by simp) rfl (by simp)
          (by rw [List.length_map]; exact hl) ?_]
        · rw [List.map_map]
          rfl
        · intro x hx
          obtain ⟨c, _, rfl⟩ := List.mem_map.mp hx
          exact ⟨[.fz (.str s), .fz (.str t), .fz (chr1 c)], rfl, rfl, by simp [az_in_s]; rfl⟩
      unfold k_is_string_of_1 at hk
      have h1' : (1 : Int) ≤ s.length := by omega
      have h2' : (s.length : Int) ≤ 8 := by omega
      simp [b_is_string_of, k_is_string_of_1, hk, az_len_str s hl, g_MAX_LENGTH hB, h1, h2, h1', h2', bools_map, strOf]
    · have h1' : (1 : Int) ≤ s.length := by omega
      have h2' : ¬ (s.length : Int) ≤ 8 := by omega
      simp [b_is_string_of, az_len_str s hl, g_MAX_LENGTH hB, h1, h2, h1', h2', strOf]
  · have h1' : ¬ (1 : Int) ≤ s.length := by omega
    simp [b_is_string_of, az_len_str s hl, g_MAX_LENGTH hB, h1, h1', strOf]
theorem p_is_word (k : Nat) (v : D) (hv : sok v = true) : callN shownD P (k + 2) i_is_word [v] = .ok (.bl (wordB v)) [] := by
  rw [callN_def (at_is_word hB) rfl]
  simp [b_is_word, g_LETTERS hB, p_is_string_of hB k v _ hv, wordB]
theorem p_is_sequence (k : Nat) (v : D) : callN shownD P (k + 1) i_is_sequence [v] = .ok (.bl (match v with | .lst _ => true | .tup _ => true | _ => false)) [] := by
  rw [callN_def (at_is_sequence hB) rfl]
  cases v <;> simp [b_is_sequence]
theorem p_is_integer (k : Nat) (v : D) : callN shownD P (k + 1) i_is_integer [v] = .ok (.bl (match v with | .int _ => true | _ => false)) [] := by
  rw [callN_def (at_is_integer hB) rfl]
  cases v <;> simp [b_is_integer]
omit hB in
theorem gk2 {n : Nat} {x y : D} (h : gk (n + 1) (.tup [x, y]) = true) : sok x = true ∧ sok y = true := by
  simp at h
  exact ⟨gk_sok h.1, gk_sok h.2⟩
theorem p_is_direction (k n : Nat) (v : D) (hv : gk n v = true) : callN shownD P (k + 3) i_is_direction [v] = .ok (.bl (dirB v)) [] := by
  rw [callN_def (at_is_direction hB) rfl]
  cases v <;> try (simp [b_is_direction]; rfl)
  rename_i xs
  match xs, hv with
  | [], _ => simp [b_is_direction]; rfl
  | [x], _ => simp [b_is_direction]; rfl
  | x :: y :: z :: l, _ => 
    have : ¬ ((l.length : Int) + 1 + 1 + 1 = 2) := by omega
    simp [b_is_direction, this]; rfl
  | [x, y], hv =>
    have hy : sok y = true := by
      cases n with
      | zero => cases hv
      | succ n => exact (gk2 hv).2
    cases x <;> try (simp [b_is_direction, dirB]; done)
    rename_i s
    simp [b_is_direction, dirB, g_DIRECTION_WORDS hB, az_in_t, p_is_word hB k y hy]
    by_cases h1 : s = "out" <;> by_cases h2 : s = "in" <;> simp [h1, h2, p_is_word hB k y hy]
omit hB in
theorem gkx {n : Nat} {xs : List D} (h : gk n (.tup xs) = true) : ∃ m, n = m + 1 ∧ ∀ x ∈ xs, gk m x = true := by
  cases n with
  | zero => cases h
  | succ n => exact ⟨n, rfl, List.all_eq_true.mp h⟩
theorem p_is_concept (k n : Nat) (v : D) (hv : gk n v = true) : callN shownD P (k + 4) i_is_concept [v] = .ok (.bl (conB v)) [] := by
  rw [callN_def (at_is_concept hB) rfl]
  have hd := p_is_direction hB k n v hv
  cases v <;> try (simp [b_is_concept, hd, dirB, conB]; done)
  rename_i xs
  match xs, hv, hd with
  | [], _, hd => simp [b_is_concept, hd, dirB, conB]
  | [x], _, hd => simp [b_is_concept, hd, dirB, conB]
  | x :: y :: z :: l, _, hd => 
    have : ¬ ((l.length : Int) + 1 + 1 + 1 = 2) := by omega
    simp [b_is_concept, hd, dirB, conB, this]
  | [x, y], hv, hd =>
    obtain ⟨m, rfl, hm⟩ := gkx hv
    have hy := gk_sok (hm y (by simp))
    cases x <;> try (simp [b_is_concept, dirB, conB, hd]; done)
    rename_i s
    by_cases h1 : s = "concept"
    · subst h1
      simp [b_is_concept, dirB, conB, hd, p_is_word hB (k + 1) y hy]
    · by_cases h2 : s = "out"
      · subst h2
        cases h3 : wordB y <;> simp [b_is_concept, dirB, conB, hd, p_is_word hB (k + 1) y hy, h3]
      · by_cases h4 : s = "in"
        · subst h4
          cases h3 : wordB y <;> simp [b_is_concept, dirB, conB, hd, p_is_word hB (k + 1) y hy, h1, h2, h3]
        · simp [b_is_concept, dirB, conB, hd, p_is_word hB (k + 1) y hy, h1, h2, h4]
theorem p_is_axiom (k n : Nat) (v : D) (hv : gk n v = true) : callN shownD P (k + 5) i_is_axiom [v] = .ok (.bl (axB v)) [] := by
  rw [callN_def (at_is_axiom hB) rfl]
  cases v <;> try (simp [b_is_axiom, axB]; done)
  rename_i xs
  match xs, hv with
  | [], _ => simp [b_is_axiom, axB]
  | [x], _ => simp [b_is_axiom, axB]
  | x :: y :: z :: u :: l, _ => 
    have : ¬ ((l.length : Int) + 1 + 1 + 1 + 1 ≤ 3) := by omega
    have : ((2 : Int) ≤ (l.length : Int) + 1 + 1 + 1 + 1) := by omega
    simp [b_is_axiom, axB, *]
  | [x, y], hv =>
    obtain ⟨m, rfl, hm⟩ := gkx hv
    have hy := hm y (by simp)
    cases x <;> try (simp [b_is_axiom, axB]; done)
    rename_i s
    by_cases h : s = "functional" <;> simp [b_is_axiom, axB, p_is_direction hB (k + 1) m y hy, h]
  | [x, y, z], hv =>
    obtain ⟨m, rfl, hm⟩ := gkx hv
    have hy := hm y (by simp)
    have hz := hm z (by simp)
    cases x <;> try (simp [b_is_axiom, axB]; done)
    rename_i s
    have key : s = "subclass" ∨ s = "disjoint" ∨ s = "subrole" ∨ s = "subrole_inverse" ∨ s = "disjoint_roles" ∨ s = "disjoint_inverse" ∨ (¬ s = "subclass" ∧ ¬ s = "disjoint" ∧ ¬ s = "subrole" ∧ ¬ s = "subrole_inverse" ∧ ¬ s = "disjoint_roles" ∧ ¬ s = "disjoint_inverse") := by
      by_cases h1 : s = "subclass" <;> by_cases h2 : s = "disjoint" <;> by_cases h3 : s = "subrole" <;> by_cases h4 : s = "subrole_inverse" <;> by_cases h5 : s = "disjoint_roles" <;> by_cases h6 : s = "disjoint_inverse" <;> simp [*]
    rcases key with rfl | rfl | rfl | rfl | rfl | rfl | ⟨h1, h2, h3, h4, h5, h6⟩
    · cases hc : conB y <;> simp [b_is_axiom, axB, p_is_concept hB k m y hy, p_is_concept hB k m z hz, g_CONCEPT_AXIOMS hB, g_ROLE_AXIOMS hB, az_in_t, hc]
    · cases hc : conB y <;> simp [b_is_axiom, axB, p_is_concept hB k m y hy, p_is_concept hB k m z hz, g_CONCEPT_AXIOMS hB, g_ROLE_AXIOMS hB, az_in_t, hc]
    · cases hc : wordB y <;> simp [b_is_axiom, axB, p_is_word hB (k + 2) y (gk_sok hy), p_is_word hB (k + 2) z (gk_sok hz), g_CONCEPT_AXIOMS hB, g_ROLE_AXIOMS hB, az_in_t, hc]
    · cases hc : wordB y <;> simp [b_is_axiom, axB, p_is_word hB (k + 2) y (gk_sok hy), p_is_word hB (k + 2) z (gk_sok hz), g_CONCEPT_AXIOMS hB, g_ROLE_AXIOMS hB, az_in_t, hc]
    · cases hc : wordB y <;> simp [b_is_axiom, axB, p_is_word hB (k + 2) y (gk_sok hy), p_is_word hB (k + 2) z (gk_sok hz), g_CONCEPT_AXIOMS hB, g_ROLE_AXIOMS hB, az_in_t, hc]
    · cases hc : wordB y <;> simp [b_is_axiom, axB, p_is_word hB (k + 2) y (gk_sok hy), p_is_word hB (k + 2) z (gk_sok hz), g_CONCEPT_AXIOMS hB, g_ROLE_AXIOMS hB, az_in_t, hc]
    · simp [b_is_axiom, axB, g_CONCEPT_AXIOMS hB, g_ROLE_AXIOMS hB, az_in_t, h1, h2, h3, h4, h5, h6]
end
/-! ### the laws' own helpers: stream, draw, choose, names, concept, axiom -/
theorem wordB_str {d : D} (h : wordB d = true) : ∃ s : Str, d = .str s ∧ s.length ≤ 8 := by
  cases d <;> try (cases h; done)
  rename_i s
  have h : (decide (1 ≤ s.length) && (decide (s.length ≤ 8) && _)) = true := h
  simp only [Bool.and_eq_true, decide_eq_true_eq] at h
  exact ⟨s, rfl, h.2.1⟩
theorem wordB_gk {d : D} (n : Nat) (h : wordB d = true) : gk n d = true := by
  obtain ⟨s, rfl, hs⟩ := wordB_str h
  rw [gk_str]
  exact decide_eq_true (Nat.le_trans hs (by decide))
theorem wordB_lv {d : D} (n : Nat) (h : wordB d = true) : d.lv n = true := by
  obtain ⟨s, rfl, hs⟩ := wordB_str h
  exact lv_str ..
theorem eqW_str {s : Str} {x : D} (h : eqW s x = true) : x = .str s := by
  cases x <;> try (cases h; done)
  rename_i t
  have h : D.eq (.str t) (.str s) = true := h
  rw [eq_str_str, decide_eq_true_eq] at h
  rw [h]
theorem conB_of {d : D} (h : conB d = true) : ∃ s w, d = .tup [.str s, w] ∧ (s = "out" ∨ s = "in" ∨ s = "concept") ∧ wordB w = true := by
  cases d <;> try (cases h; done)
  rename_i xs
  match xs, h with
  | [x, w], h =>
    have h : ((eqW "out" x || eqW "in" x || eqW "concept" x) && wordB w) = true := h
    simp only [Bool.and_eq_true, Bool.or_eq_true] at h
    obtain ⟨h1, h2⟩ := h
    rcases h1 with (h1 | h1) | h1
    · exact ⟨_, w, by rw [eqW_str h1], Or.inl rfl, h2⟩
    · exact ⟨_, w, by rw [eqW_str h1], Or.inr (Or.inl rfl), h2⟩
    · exact ⟨_, w, by rw [eqW_str h1], Or.inr (Or.inr rfl), h2⟩
theorem dirB_of {d : D} (h : dirB d = true) : ∃ s w, d = .tup [.str s, w] ∧ (s = "out" ∨ s = "in") ∧ wordB w = true := by
  cases d <;> try (cases h; done)
  rename_i xs
  match xs, h with
  | [x, w], h =>
    have h : ((eqW "out" x || eqW "in" x) && wordB w) = true := h
    simp only [Bool.and_eq_true, Bool.or_eq_true] at h
    obtain ⟨h1, h2⟩ := h
    rcases h1 with h1 | h1
    · exact ⟨_, w, by rw [eqW_str h1], Or.inl rfl, h2⟩
    · exact ⟨_, w, by rw [eqW_str h1], Or.inr rfl, h2⟩
theorem conB_gk {d : D} (n : Nat) (h : conB d = true) : gk (n + 1) d = true ∧ d.lv (n + 1) = true := by
  obtain ⟨s, w, rfl, hs, hw⟩ := conB_of h
  have h2 := wordB_gk n hw
  have h3 := wordB_lv n hw
  rcases hs with rfl | rfl | rfl <;> simp [h2, h3] <;> decide
theorem dirB_gk {d : D} (n : Nat) (h : dirB d = true) : gk (n + 1) d = true ∧ d.lv (n + 1) = true := by
  obtain ⟨s, w, rfl, hs, hw⟩ := dirB_of h
  have h2 := wordB_gk n hw
  have h3 := wordB_lv n hw
  rcases hs with rfl | rfl <;> simp [h2, h3] <;> decide
/-- what an axiom looks like -/
inductive AxF : D → Prop
  | fn (d : D) (h : dirB d = true) : AxF (.tup [.str "functional", d])
  | con (s : Str) (c d : D) (hs : s = "subclass" ∨ s = "disjoint") (hc : conB c = true) (hd : conB d = true) : AxF (.tup [.str s, c, d])
  | rol (s : Str) (c d : D) (hs : s = "subrole" ∨ s = "subrole_inverse" ∨ s = "disjoint_roles" ∨ s = "disjoint_inverse") (hc : wordB c = true) (hd : wordB d = true) : AxF (.tup [.str s, c, d])
theorem axB_of {d : D} (h : axB d = true) : AxF d := by
  cases d <;> try (cases h; done)
  rename_i xs
  match xs, h with
  | [x, y], h =>
    have h : (eqW "functional" x && dirB y) = true := h
    rw [Bool.and_eq_true] at h
    rw [eqW_str h.1]
    exact .fn y h.2
  | [x, y, z], h =>
    have h : (bif eqW "subclass" x || eqW "disjoint" x then conB y && conB z else (eqW "subrole" x || eqW "subrole_inverse" x || eqW "disjoint_roles" x || eqW "disjoint_inverse" x) && (wordB y && wordB z)) = true := h
    cases h1 : (eqW "subclass" x || eqW "disjoint" x) with
    | true =>
      rw [h1, cond_true, Bool.and_eq_true] at h
      rw [Bool.or_eq_true] at h1
      rcases h1 with h1 | h1 <;> rw [eqW_str h1]
      · exact .con _ _ _ (Or.inl rfl) h.1 h.2
      · exact .con _ _ _ (Or.inr rfl) h.1 h.2
    | false =>
      rw [h1, cond_false] at h
      simp only [Bool.and_eq_true, Bool.or_eq_true] at h
      rcases h.1 with ((h1 | h1) | h1) | h1 <;> rw [eqW_str h1]
      · exact .rol _ _ _ (Or.inl rfl) h.2.1 h.2.2
      · exact .rol _ _ _ (Or.inr (Or.inl rfl)) h.2.1 h.2.2
      · exact .rol _ _ _ (Or.inr (Or.inr (Or.inl rfl))) h.2.1 h.2.2
      · exact .rol _ _ _ (Or.inr (Or.inr (Or.inr rfl))) h.2.1 h.2.2
theorem AxF.ax {d : D} (h : AxF d) : axB d = true := by
  cases h with
  | fn d h => simp [axB, h]
  | con s c d hs hc hd => rcases hs with rfl | rfl <;> simp [axB, hc, hd]
  | rol s c d hs hc hd => rcases hs with rfl | rfl | rfl | rfl <;> simp [axB, hc, hd]
theorem axB_gk {d : D} (n : Nat) (h : axB d = true) : gk (n + 2) d = true ∧ d.lv (n + 2) = true := by
  cases axB_of h with
  | fn d h => 
    obtain ⟨h1, h2⟩ := dirB_gk n h
    simp [h1, h2]
    decide
  | con s c d hs hc hd => 
    obtain ⟨h1, h2⟩ := conB_gk n hc
    obtain ⟨h3, h4⟩ := conB_gk n hd
    rcases hs with rfl | rfl <;> simp [h1, h2, h3, h4] <;> decide
  | rol s c d hs hc hd => 
    have h1 := wordB_gk (n + 1) hc
    have h2 := wordB_lv (n + 1) hc
    have h3 := wordB_gk (n + 1) hd
    have h4 := wordB_lv (n + 1) hd
    rcases hs with rfl | rfl | rfl | rfl <;> simp [h1, h2, h3, h4] <;> decide
/-- the stream's state -/
structure St where
  a : Int
  b : Int
  ha : 0 ≤ a
  hb : 0 ≤ b
  hb2 : b < 2147483647
abbrev stD (s : St) : D := .lst [.int s.a, .int s.b]
def mixN (b : Int) : Int := (b * 69621 + 7).fmod 2147483647
def drv (s : St) (n : Int) : Int := if 0 < s.a then s.a.fmod n else (((mixN s.b * mixN s.b).fmod 2147483629).fdiv 32).fmod n
def drs (s : St) (n : Int) : St := if h : 0 < s.a ∧ 0 ≤ n then ⟨s.a.fdiv n, s.b, Int.fdiv_nonneg s.ha h.2, s.hb, s.hb2⟩ else ⟨s.a, mixN s.b, s.ha, Int.fmod_nonneg_of_pos _ (by decide), Int.fmod_lt_of_pos _ (by decide)⟩
theorem drv_lo (s : St) {n : Int} (h : 0 < n) : 0 ≤ drv s n := by
  unfold drv
  split <;> exact Int.fmod_nonneg_of_pos _ h
theorem drv_hi (s : St) {n : Int} (h : 0 < n) : drv s n < n := by
  unfold drv
  split <;> exact Int.fmod_lt_of_pos _ h
theorem mul_ok (i j : Int) (h1 : -(2 ^ 64) < i) (h2 : i < 2 ^ 64) : mulOk i j = true := by
  unfold mulOk
  rw [decide_eq_true h1, decide_eq_true h2]
  rfl
theorem mul_ok2 (i j : Int) (h1 : -(2 ^ 64) < j) (h2 : j < 2 ^ 64) : mulOk i j = true := by
  unfold mulOk
  rw [decide_eq_true h1, decide_eq_true h2]
  simp
theorem div_ok (j : Int) (h : j ≠ 0) (h2 : j.natAbs < 1073741824) : divOk j = true := by
  unfold divOk
  rw [Bool.and_eq_true]
  exact ⟨bne_iff_ne.mpr h, decide_eq_true h2⟩
section
variable {P : Prog} (hB : Base P)
include hB
theorem p_draw (k : Nat) (s : St) (n : Int) (h1 : 1 ≤ n) (h2 : n ≤ 1000000) : callN shownD P (k + 1) i_law_draw [stD s, .int n] = .ok (.int (drv s n)) [stD (drs s n)] := by
  rw [callN_def (at_law_draw hB) rfl]
  obtain ⟨a, b, ha, hb, hb2⟩ := s
  have hn : n ≠ 0 := by omega
  by_cases hp : 0 < a
  · have hn0 : 0 ≤ n := by omega
    simp [b_law_draw, hp, az_mod _ _ hn, az_fdiv _ _ (div_ok n hn (by omega)), mop_seti, drv, drs, hn0]
  · have hc : 0 ≤ mixN b ∧ mixN b < 2147483647 := ⟨Int.fmod_nonneg_of_pos _ (by decide), Int.fmod_lt_of_pos _ (by decide)⟩
    have e : (b * 69621 + 7).fmod 2147483647 = mixN b := rfl
    simp [b_law_draw, hp, az_mod _ _ hn, az_mod _ 2147483647 (by decide), az_mod _ 2147483629 (by decide), az_fdiv _ 32 (div_ok 32 (by decide) (by decide)), mop_seti, drv, drs, az_mul _ _ (mul_ok b 69621 (by omega) (by omega)), e, az_mul _ _ (mul_ok (mixN b) (mixN b) (by omega) (by omega))]
omit hB in
theorem ixD_ok {xs : List D} {i : Int} (h0 : 0 ≤ i) (h : i < xs.length) : ixD xs i = some (xs.getD i.toNat .non) := by
  unfold ixD
  rw [if_pos h0, if_pos h, List.getD_eq_getElem?_getD, List.getElem?_eq_getElem (by omega)]
  rfl
def chv (s : St) (xs : List D) : D := xs.getD (drv s xs.length).toNat .non
omit hB in
theorem chv_mem (s : St) {xs : List D} (h : xs ≠ []) : chv s xs ∈ xs := by
  have hl : 0 < xs.length := List.length_pos_iff.mpr h
  have h1 := drv_lo s (n := xs.length) (by omega)
  have h2 := drv_hi s (n := xs.length) (by omega)
  unfold chv
  rw [List.getD_eq_getElem?_getD, List.getElem?_eq_getElem (by omega)]
  exact List.getElem_mem _
theorem p_choose (k : Nat) (s : St) (xs : List D) (h : xs ≠ []) (h2 : xs.length ≤ 1000000) : callN shownD P (k + 2) i_law_choose [stD s, .lst xs] = .ok (chv s xs) [stD (drs s xs.length)] := by
  rw [callN_def (at_law_choose hB) rfl]
  have hl : 0 < xs.length := List.length_pos_iff.mpr h
  have e := ixD_ok (xs := xs) (drv_lo s (n := xs.length) (by omega)) (drv_hi s (n := xs.length) (by omega))
  simp [b_law_choose, p_draw hB k s xs.length (by omega) (by omega), e]
  rfl
omit hB in
theorem sz_pos (c : Int) : 0 ≤ (if c < -1 - c then -1 - c else c) := by split <;> omega
def stm (c j : Int) : St := ⟨(if c < -1 - c then -1 - c else c) * b2i (decide (1000000000000000000 ≤ (if c < -1 - c then -1 - c else c))), (((if c < -1 - c then -1 - c else c).fmod 2147483629 + 7919 * j * j + 31 * j + 17) * 48271).fmod 2147483647,
  by
    have := sz_pos c
    cases decide (1000000000000000000 ≤ (if c < -1 - c then -1 - c else c)) <;> simp [b2i]
    exact this, Int.fmod_nonneg_of_pos _ (by decide), Int.fmod_lt_of_pos _ (by decide)⟩
theorem p_stream (k : Nat) (ns : List Int) (j : Int) (h0 : 0 ≤ j) (h1 : j ≤ 63) : ∃ s, callN shownD P (k + 1) i_law_stream [.lst (ns.map .int), .int j] = .ok (stD s) [] := by
  rw [callN_def (at_law_stream hB) rfl]
  have hj : 0 ≤ 7919 * j * j := Int.mul_nonneg (by omega) h0
  have hj2 : 7919 * j * j ≤ 7919 * 63 * 63 := Int.mul_le_mul (by omega) h1 h0 (by omega)
  have e10 : powOk 10 18 = true := by decide
  have e11 : (10 : Int) ^ (18 : Int).toNat = 1000000000000000000 := by decide
  have hm : ∀ c : Int, 0 ≤ (if c < -1 - c then -1 - c else c).fmod 2147483629 := fun c => Int.fmod_nonneg_of_pos _ (by decide)
  have hm2 : ∀ c : Int, (if c < -1 - c then -1 - c else c).fmod 2147483629 < 2147483629 := fun c => Int.fmod_lt_of_pos _ (by decide)
  have hb : ∀ b : Bool, -18446744073709551616 < b2i b ∧ b2i b < 18446744073709551616 := fun b => by cases b <;> simp
  have m1 : mulOk 7919 j = true := mul_ok _ _ (by decide) (by decide)
  have m2 : mulOk (7919 * j) j = true := mul_ok2 _ _ (by omega) (by omega)
  have m3 : mulOk 31 j = true := mul_ok _ _ (by decide) (by decide)
  have m4 : ∀ x, mulOk x 48271 = true := fun x => mul_ok2 _ _ (by decide) (by decide)
  have m5 : ∀ x b, mulOk x (b2i b) = true := fun x b => mul_ok2 _ _ (hb b).1 (hb b).2
  by_cases h : j < ns.length
  · have e := ixD_ok (xs := ns.map D.int) h0 (by simpa using h)
    have e2 : (ns.map D.int).getD j.toNat .non = .int (ns.getD j.toNat 0) := by
      rw [List.getD_eq_getElem?_getD, List.getElem?_map, List.getD_eq_getElem?_getD, List.getElem?_eq_getElem (by omega)]
      rfl
    rw [e2] at e
    refine ⟨stm (ns.getD j.toNat 0) j, ?_⟩
    generalize ns.getD j.toNat 0 = c at e
    simp [b_law_stream, h, e, az_mul, m1, m2, m3, m4, m5, az_mod, az_pow, e10, e11, stm]
  · refine ⟨stm 0 j, ?_⟩
    have m0 : mulOk 0 0 = true := by decide
    simp [b_law_stream, h, az_mul, m0, m1, m2, m3, m4, m5, az_mod, az_pow, e10, e11, stm]
omit hB in
theorem gdl {xs : List D} {i : Nat} (h : i < xs.length) : xs.getD i .non ∈ xs := by
  rw [List.getD_eq_getElem?_getD, List.getElem?_eq_getElem h]
  exact List.getElem_mem _
/-- names of concepts, names of roles -/
def NamesOk (d : D) (C R : List D) : Prop := d = .tup [.lst C, .lst R] ∧ (∀ c ∈ C, wordB c = true) ∧ (∀ c ∈ R, wordB c = true) ∧ C ≠ [] ∧ R ≠ [] ∧ C.length ≤ 1000 ∧ R.length ≤ 1000
omit hB in
theorem az_add_c (s t : Str) (h : s.length + t.length ≤ line) : Op.ap shownD .add [.str s, .str t] = some (.str (s ++ t)) := if_pos h
theorem p_names (k : Nat) (s : St) : ∃ d s' C R, callN shownD P (k + 2) i_law_names [stD s] = .ok d [stD s'] ∧ NamesOk d C R := by
  rw [callN_def (at_law_names hB) rfl]
  have hd1 := p_draw hB k s 3 (by decide) (by decide)
  have l1 := drv_lo s (n := 3) (by decide)
  have l2 := drv_hi s (n := 3) (by decide)
  generalize drv s 3 = i at hd1 l1 l2
  generalize drs s 3 = s1 at hd1
  have hd2 := p_draw hB k s1 4 (by decide) (by decide)
  generalize drv s1 4 = j at hd2
  generalize drs s1 4 = s2 at hd2
  have key : ∀ h : Str, (h = "" ∨ h = "k" ∨ h = "zzzzzzz") → ∀ t : List Nat, (∀ c ∈ t, c ∈ ("abcdrst" : Str).cps.toList) → ∀ c ∈ t, wordB (.str (h ++ ⟨#[c]⟩)) = true := by
    intro h hh t ht c hc
    have : c ∈ ("abcdrst" : Str).cps.toList := ht c hc
    have hq : ∀ c ∈ ("abcdrst" : Str).cps.toList, ∀ h ∈ (["", "k", "zzzzzzz"] : List Str), wordB (.str (h ++ ⟨#[c]⟩)) = true := by decide
    exact hq c this h (by rcases hh with rfl | rfl | rfl <;> decide)
  have hi : ∃ h : Str, (h = "" ∨ h = "k" ∨ h = "zzzzzzz") ∧ ixD [D.str "", D.str "k", D.str "zzzzzzz"] i = some (.str h) := by
    have : i = 0 ∨ i = 1 ∨ i = 2 := by omega
    rcases this with rfl | rfl | rfl
    · exact ⟨_, Or.inl rfl, rfl⟩
    · exact ⟨_, Or.inr (Or.inl rfl), rfl⟩
    · exact ⟨_, Or.inr (Or.inr rfl), rfl⟩
  obtain ⟨h, hh, hi⟩ := hi
  have hhl : h.length ≤ 7 := by rcases hh with rfl | rfl | rfl <;> decide
  have k1 : ∀ x2 x3 x4 : Slot, ofS (some x4) = true → (k_law_names_1).ev shownD P (callN shownD P (k + 1)) [.ow (stD s1), .fz (.str h), x2, x3, x4] = .ok [.lst (("abcd" : Str).cps.toList.map fun c => .str (h ++ ⟨#[c]⟩))] [.ow (stD s1), .fz (.str h), x2, x3, x4] := by
    intro x2 x3 x4 hx
    unfold k_law_names_1
    rw [comp_map (fun x => match x with | .str z => .str (h ++ z) | _ => .non) (x := .str "abcd") (xs := ("abcd" : Str).cps.toList.map chr1) (r1 := [.ow (stD s1), .fz (.str h), x2, x3, x4]) (by simp) rfl (by simp [hx]) (by decide) ?_]
    · rw [List.map_map]
      rfl
    · intro x hx
      obtain ⟨c, _, rfl⟩ := List.mem_map.mp hx
      refine ⟨[.ow (stD s1), .fz (.str h), x2, x3, .fz (chr1 c)], rfl, rfl, ?_⟩
      have : h.length + (⟨#[c]⟩ : Str).length ≤ line := Nat.le_trans (Nat.add_le_add hhl (Nat.le_refl _)) (show 7 + 1 ≤ line by decide)
      simp [chr1, az_add_c _ _ this]
  have k2 : ∀ x2 x3 x4 : Slot, ofS (some x4) = true → (k_law_names_2).ev shownD P (callN shownD P (k + 1)) [.ow (stD s1), .fz (.str h), x2, x3, x4] = .ok [.lst (("rst" : Str).cps.toList.map fun c => .str (h ++ ⟨#[c]⟩))] [.ow (stD s1), .fz (.str h), x2, x3, x4] := by
    intro x2 x3 x4 hx
    unfold k_law_names_2
    rw [comp_map (fun x => match x with | .str z => .str (h ++ z) | _ => .non) (x := .str "rst") (xs := ("rst" : Str).cps.toList.map chr1) (r1 := [.ow (stD s1), .fz (.str h), x2, x3, x4]) (by simp) rfl (by simp [hx]) (by decide) ?_]
    · rw [List.map_map]
      rfl
    · intro x hx
      obtain ⟨c, _, rfl⟩ := List.mem_map.mp hx
      refine ⟨[.ow (stD s1), .fz (.str h), x2, x3, .fz (chr1 c)], rfl, rfl, ?_⟩
      have : h.length + (⟨#[c]⟩ : Str).length ≤ line := Nat.le_trans (Nat.add_le_add hhl (Nat.le_refl _)) (show 7 + 1 ≤ line by decide)
      simp [chr1, az_add_c _ _ this]
  unfold k_law_names_1 at k1
  unfold k_law_names_2 at k2
  have w1 : ∀ x ∈ (("abcd" : Str).cps.toList.map fun c => D.str (h ++ ⟨#[c]⟩)), wordB x = true := by
    intro x hx
    obtain ⟨c, hc, rfl⟩ := List.mem_map.mp hx
    exact key h hh ("abcd" : Str).cps.toList (by decide) c hc
  have w2 : ∀ x ∈ (("rst" : Str).cps.toList.map fun c => D.str (h ++ ⟨#[c]⟩)), wordB x = true := by
    intro x hx
    obtain ⟨c, hc, rfl⟩ := List.mem_map.mp hx
    exact key h hh ("rst" : Str).cps.toList (by decide) c hc
  have n1 : (("abcd" : Str).cps.toList.map fun c => D.str (h ++ ⟨#[c]⟩)).length = 4 := by rw [List.length_map]; decide
  have n2 : (("rst" : Str).cps.toList.map fun c => D.str (h ++ ⟨#[c]⟩)).length = 3 := by rw [List.length_map]; decide
  generalize (("abcd" : Str).cps.toList.map fun c => D.str (h ++ ⟨#[c]⟩)) = A at k1 w1 n1
  generalize (("rst" : Str).cps.toList.map fun c => D.str (h ++ ⟨#[c]⟩)) = B at k2 w2 n2
  have hc : cutD A none (some 3) = A.take 3 := by
    unfold cutD slEnd
    rw [n1]
    rfl
  by_cases hj : j = 0
  · refine ⟨_, s2, A, A.take 3, ?_, rfl, w1, fun c hc => w1 c (List.mem_of_mem_take hc), ?_, ?_, by omega, by rw [List.length_take]; omega⟩
    · simp [b_law_names, k_law_names_1, k_law_names_2, hd1, hd2, at_law_draw hB, hi, k1, k2, hj, hc]
    · intro e; rw [e] at n1; cases n1
    · intro e
      have := congrArg List.length e
      rw [List.length_take, n1] at this
      cases this
  · refine ⟨_, s2, A, B, ?_, rfl, w1, w2, ?_, ?_, by omega, by omega⟩
    · simp [b_law_names, k_law_names_1, k_law_names_2, hd1, hd2, at_law_draw hB, hi, k1, k2, hj, hc]
    · intro e; rw [e] at n1; cases n1
    · intro e; rw [e] at n2; cases n2
theorem p_concept (k : Nat) (s : St) {d : D} {C R : List D} (hn : NamesOk d C R) : ∃ v s', callN shownD P (k + 3) i_law_concept [stD s, d] = .ok v [stD s'] ∧ conB v = true := by
  rw [callN_def (at_law_concept hB) rfl]
  obtain ⟨rfl, hC, hR, nC, nR, lC, lR⟩ := hn
  have hd := p_draw hB (k + 1) s 4 (by decide) (by decide)
  have l1 := drv_lo s (n := 4) (by decide)
  have l2 := drv_hi s (n := 4) (by decide)
  generalize drv s 4 = i at hd l1 l2
  generalize drs s 4 = s1 at hd
  have c1 := p_choose hB k s1 C nC (by omega)
  have c2 := p_choose hB k s1 R nR (by omega)
  have w1 := hC _ (chv_mem s1 nC)
  have w2 := hR _ (chv_mem s1 nR)
  have : i = 0 ∨ i = 1 ∨ i = 2 ∨ i = 3 := by omega
  rcases this with rfl | rfl | rfl | rfl
  · exact ⟨.tup [.str "concept", chv s1 C], drs s1 C.length, by simp [b_law_concept, hd, c1, at_law_draw hB], by simp [conB, w1]⟩
  · exact ⟨.tup [.str "concept", chv s1 C], drs s1 C.length, by simp [b_law_concept, hd, c1, at_law_draw hB], by simp [conB, w1]⟩
  · exact ⟨.tup [.str "out", chv s1 R], drs s1 R.length, by simp [b_law_concept, hd, c2, at_law_draw hB], by simp [conB, w2]⟩
  · exact ⟨.tup [.str "in", chv s1 R], drs s1 R.length, by simp [b_law_concept, hd, c2, at_law_draw hB], by simp [conB, w2]⟩
/-- the words of axioms -/
def axW (d : D) : Prop := d = .str "subclass" ∨ d = .str "disjoint" ∨ d = .str "functional" ∨ d = .str "subrole" ∨ d = .str "subrole_inverse" ∨ d = .str "disjoint_roles" ∨ d = .str "disjoint_inverse"
theorem p_axiom (k : Nat) (s : St) {d : D} {C R M : List D} (hn : NamesOk d C R) (hM : ∀ m ∈ M, axW m) (nM : M ≠ []) (lM : M.length ≤ 1000) : ∃ v s', callN shownD P (k + 4) i_law_axiom [stD s, d, .lst M] = .ok v [stD s'] ∧ axB v = true := by
  rw [callN_def (at_law_axiom hB) rfl]
  have c0 := p_choose hB (k + 1) s M nM (by omega)
  have w0 := hM _ (chv_mem s nM)
  generalize chv s M = m at c0 w0
  generalize drs s M.length = s1 at c0
  obtain ⟨v1, s2, e1, h1⟩ := p_concept hB k s1 hn
  obtain ⟨v2, s3, e2, h2⟩ := p_concept hB k s2 hn
  obtain ⟨rfl, hC, hR, nC, nR, lC, lR⟩ := hn
  have hd := p_draw hB (k + 2) s1 2 (by decide) (by decide)
  have l1 := drv_lo s1 (n := 2) (by decide)
  have l2 := drv_hi s1 (n := 2) (by decide)
  generalize drv s1 2 = i at hd l1 l2
  generalize drs s1 2 = s4 at hd
  have c3 := p_choose hB (k + 1) s4 R nR (by omega)
  have w3 := hR _ (chv_mem s4 nR)
  have c4 := p_choose hB (k + 1) s1 R nR (by omega)
  have w4 := hR _ (chv_mem s1 nR)
  generalize chv s1 R = r1 at c4 w4
  generalize drs s1 R.length = s5 at c4
  have c5 := p_choose hB (k + 1) s5 R nR (by omega)
  have w5 := hR _ (chv_mem s5 nR)
  rcases w0 with rfl | rfl | rfl | rfl | rfl | rfl | rfl
  · exact ⟨.tup [.str "subclass", v1, v2], s3, by simp [b_law_axiom, c0, e1, e2, at_law_choose hB], by simp [axB, h1, h2]⟩
  · exact ⟨.tup [.str "disjoint", v1, v2], s3, by simp [b_law_axiom, c0, e1, e2, at_law_choose hB], by simp [axB, h1, h2]⟩
  · have : i = 0 ∨ i = 1 := by omega
    rcases this with rfl | rfl
    · exact ⟨.tup [.str "functional", .tup [.str "out", chv s4 R]], drs s4 R.length, by simp [b_law_axiom, c0, hd, c3, at_law_choose hB], by simp [axB, dirB, w3]⟩
    · exact ⟨.tup [.str "functional", .tup [.str "in", chv s4 R]], drs s4 R.length, by simp [b_law_axiom, c0, hd, c3, at_law_choose hB], by simp [axB, dirB, w3]⟩
  · exact ⟨.tup [.str "subrole", r1, chv s5 R], drs s5 R.length, by simp [b_law_axiom, c0, c4, c5, at_law_choose hB], by simp [axB, w4, w5]⟩
  · exact ⟨.tup [.str "subrole_inverse", r1, chv s5 R], drs s5 R.length, by simp [b_law_axiom, c0, c4, c5, at_law_choose hB], by simp [axB, w4, w5]⟩
  · exact ⟨.tup [.str "disjoint_roles", r1, chv s5 R], drs s5 R.length, by simp [b_law_axiom, c0, c4, c5, at_law_choose hB], by simp [axB, w4, w5]⟩
  · exact ⟨.tup [.str "disjoint_inverse", r1, chv s5 R], drs s5 R.length, by simp [b_law_axiom, c0, c4, c5, at_law_choose hB], by simp [axB, w4, w5]⟩
end
/-! ### check_ontology -/
def subW (d : D) : Bool := match d with
  | .tup (x :: _) => eqW "subrole" x || eqW "subrole_inverse" x
  | _ => false
def at1 (d : D) : D := match d with
  | .tup (_ :: y :: _) => y
  | _ => .non
def at2 (d : D) : D := match d with
  | .tup (_ :: _ :: y :: _) => y
  | _ => .non
def fnW (d : D) : Bool := match d with
  | .tup (x :: _) => eqW "functional" x
  | _ => false
/-- the roles that a list's good axioms imply -/
def impl (xs : List D) : List D := ((xs.filter axB).filter subW).map at2
def badO (xs : List D) (i : Nat) (x : D) : Bool := !axB x || inD x ((xs.take i).filter axB) || (fnW x && inD (at1 (at1 x)) (impl xs))
def firstBad (bad : Nat → D → Bool) : Nat → List D → Option Nat
  | _, [] => none
  | n, x :: xs => if bad n x then some n else firstBad bad (n + 1) xs
theorem cutD_take (xs : List D) (i : Nat) : cutD xs none (some (i : Int)) = xs.take i := by
  unfold cutD slEnd
  have h : ¬ ((i : Int) < 0) := by omega
  simp only [Int.toNat_natCast, List.drop_zero, Nat.sub_zero, if_neg h]
  rw [← List.take_take, List.take_length]
/-- a comprehension over a list or a tuple -/
def IsSeq (v : D) (xs : List D) : Prop := v = .lst xs ∨ v = .tup xs
theorem runF_enum {σ : Type} {E : σ → Env} {s : σ} {f : σ → D → Sum σ (Out Fl)} {bad : Nat → D → Bool} {c : Nat} {F : Nat → D → Env} (xs : List D) : ∀ (n : Nat), (∀ i x, xs[i]? = some x → f s (.tup [.int ((n + i : Nat) : Int), x]) = if bad (n + i) x then .inr (.err c [.int ((n + i : Nat) : Int)] (F (n + i) x)) else .inl s) →
    (match firstBad bad n xs with
      | none => runF E f s (enumD n xs) = .ok .nx (E s)
      | some i => ∃ x, runF E f s (enumD n xs) = .err c [.int (i : Int)] (F i x)) := by
  induction xs with
  | nil => intro n _; exact (rfl : runF E f s [] = _)
  | cons x xs ih =>
    intro n h
    have h0 := h 0 x rfl
    rw [Nat.add_zero] at h0
    have hr : runF E f s (enumD n (x :: xs)) = (match f s (.tup [.int (n : Int), x]) with
      | .inl s' => runF E f s' (enumD (n + 1) xs)
      | .inr o => o) := rfl
    rw [hr, h0]
    cases hb : bad n x with
    | true => 
      simp only [firstBad, hb, if_true]
      exact ⟨x, rfl⟩
    | false =>
      simp only [Bool.false_eq_true, if_false, firstBad, hb]
      exact ih (n + 1) fun i y hi => by
        have := h (i + 1) y hi
        rw [show n + (i + 1) = n + 1 + i by omega] at this
        exact this
section
variable {P : Prog} (hB : Base P)
include hB
theorem k_co1 (k : Nat) {v : D} {xs : List D} (hv : IsSeq v xs) (hx : ∀ x ∈ xs, gk 8 x = true) (hl : xs.length ≤ 16) :
    k_check_ontology_1.ev shownD P (callN shownD P (k + 5)) [.fz v, .un, .un, .un, .un, .un] = .ok [.lst (xs.filter axB)] [.fz v, .un, .un, .un, .un, .un] := by
  unfold k_check_ontology_1
  rw [comp_ok axB id (x := v) (xs := xs) (r1 := [.fz v, .un, .un, .un, .un, .un]) (by simp) (by rcases hv with rfl | rfl <;> rfl) (by simp) (Nat.le_trans hl (by decide)) ?_]
  · rw [List.map_id]
  · intro x h
    exact ⟨[.fz v, .un, .un, .un, .fz x, .un], .bl (axB x), rfl, rfl, by simp [p_is_axiom hB k 8 x (hx x h)], rfl, fun _ => by simp⟩
omit hB in
theorem axS {x : D} (h : axB x = true) : ∃ (w : Str) (y : D) (l : List D), x = .tup (.str w :: y :: l) ∧ (w = "functional" ∧ l = [] ∧ (∃ s w2, y = .tup [.str s, w2] ∧ wordB w2 = true) ∨ ¬ w = "functional" ∧ ∃ z, l = [z] ∧ (w = "subrole" ∨ w = "subrole_inverse" → wordB z = true)) := by
  cases axB_of h with
  | fn d h =>
    obtain ⟨s, w, rfl, _, hw⟩ := dirB_of h
    exact ⟨_, _, _, rfl, Or.inl ⟨rfl, rfl, s, w, rfl, hw⟩⟩
  | con s c d hs hc hd => 
    refine ⟨_, _, _, rfl, Or.inr ⟨?_, d, rfl, ?_⟩⟩
    · rcases hs with rfl | rfl <;> simp
    · rcases hs with rfl | rfl <;> simp
  | rol s c d hs hc hd =>
    refine ⟨_, _, _, rfl, Or.inr ⟨?_, d, rfl, fun _ => hd⟩⟩
    rcases hs with rfl | rfl | rfl | rfl <;> simp
theorem k_co2 (k : Nat) (v : D) (xs : List D) (hx : ∀ x ∈ xs, axB x = true) (hl : xs.length ≤ 16) :
    k_check_ontology_2.ev shownD P (callN shownD P k) [.fz v, .ow (.lst xs), .un, .un, .un, .un] = .ok [.lst ((xs.filter subW).map at2)] [.fz v, .fz (.lst xs), .un, .un, .un, .un] := by
  unfold k_check_ontology_2
  rw [comp_ok subW at2 (x := .lst xs) (xs := xs) (r1 := [.fz v, .fz (.lst xs), .un, .un, .un, .un]) (by simp) rfl (by simp) (Nat.le_trans hl (by decide)) ?_]
  intro x h
  obtain ⟨w, y, l, rfl, h1 | h1⟩ := axS (hx x h)
  · obtain ⟨rfl, rfl, _⟩ := h1
    exact ⟨[.fz v, .fz (.lst xs), .un, .un, .fz (.tup [.str "functional", y]), .un], .bl false, rfl, rfl, by simp, by simp [subW], fun q => by simp [subW] at q⟩
  · obtain ⟨h1, z, rfl, _⟩ := h1
    refine ⟨[.fz v, .fz (.lst xs), .un, .un, .fz (.tup [.str w, y, z]), .un], .bl (subW (.tup [.str w, y, z])), rfl, rfl, ?_, rfl, fun _ => ?_⟩
    · by_cases h2 : w = "subrole" <;> by_cases h3 : w = "subrole_inverse" <;> simp [subW, h2, h3]
    · simp [at2]
theorem k_co3 (k : Nat) {v : D} {xs : List D} (i : Nat) (u q w : Slot) (hv : IsSeq v xs) (hx : ∀ x ∈ xs, gk 8 x = true) (hl : xs.length ≤ 16) :
    k_check_ontology_3.ev shownD P (callN shownD P (k + 5)) [.fz v, u, q, .fz (.int (i : Int)), w, .un] = .ok [.lst ((xs.take i).filter axB)] [.fz v, u, q, .fz (.int (i : Int)), w, .un] := by
  unfold k_check_ontology_3
  have hs : ∃ d, itemsD d = some (xs.take i) ∧ (ME.op (.sl false true) (.cons (.nm 0) (.cons (.nm 3) .nil))).ev shownD P (callN shownD P (k + 5)) [.fz v, u, q, .fz (.int (i : Int)), w, .un] = .ok [d] [.fz v, u, q, .fz (.int (i : Int)), w, .un] := by
    rcases hv with rfl | rfl
    · exact ⟨.lst (xs.take i), rfl, by simp [cutD_take]⟩
    · exact ⟨.tup (xs.take i), rfl, by simp [cutD_take]⟩
  obtain ⟨d, h1, h2⟩ := hs
  rw [comp_ok axB id (x := d) (xs := xs.take i) (r1 := [.fz v, u, q, .fz (.int (i : Int)), w, .un]) h2 h1 (by simp) (by rw [List.length_take]; exact Nat.le_trans (Nat.min_le_right ..) (Nat.le_trans hl (by decide))) ?_]
  · rw [List.map_id]
  · intro x h
    exact ⟨[.fz v, u, q, .fz (.int (i : Int)), w, .fz x], .bl (axB x), rfl, rfl, by simp [p_is_axiom hB k 8 x (hx x (List.mem_of_mem_take h))], rfl, fun _ => by simp⟩
omit hB in
theorem cmp_axs {xs : List D} (h : ∀ x ∈ xs, axB x = true) : (D.lst xs).cmp = true := cmp_lst 2 (fun x hx => (axB_gk 0 (h x hx)).2) (by decide)
omit hB in
theorem cmp_impl (xs : List D) : (D.lst (impl xs)).cmp = true := by
  refine cmp_lst 2 (fun y hy => ?_) (by decide)
  obtain ⟨x, hx, rfl⟩ := List.mem_map.mp hy
  obtain ⟨hx, hs⟩ := List.mem_filter.mp hx
  obtain ⟨hx, ha⟩ := List.mem_filter.mp hx
  obtain ⟨w, y, l, rfl, h1 | h1⟩ := axS ha
  · obtain ⟨rfl, rfl, _⟩ := h1
    simp [subW] at hs
  · obtain ⟨h1, z, rfl, h2⟩ := h1
    refine wordB_lv 2 (h2 ?_)
    simpa [subW] using hs
def envO (v : D) (V R : List D) (a b : Slot) : Env := [.fz v, .fz (.lst V), .ow (.lst R), a, b, .un]
theorem co_step (k : Nat) {v : D} {xs : List D} (hv : IsSeq v xs) (hx : ∀ x ∈ xs, gk 8 x = true) (hl : xs.length ≤ 16) (V : List D) (i : Nat) (x : D) (hm : x ∈ xs) :
    l_check_ontology_1_b.ev shownD P (callN shownD P (k + 5)) true (envO v V (impl xs) (.fz (.int (i : Int))) (.fz x)) = if badO xs i x then .err 1 [.int (i : Int)] (envO v V (impl xs) (.fz (.int (i : Int))) (.fz x)) else .ok .nx (envO v V (impl xs) .un .un) := by
  have hxa := p_is_axiom hB k 8 x (hx x hm)
  cases ha : axB x with
  | false =>
    rw [ha] at hxa
    simp [l_check_ontology_1_b, envO, badO, ha, hxa]
  | true =>
    rw [ha] at hxa
    have k3 := k_co3 hB k i (.fz (.lst V)) (.ow (.lst (impl xs))) (.fz x) hv hx hl
    unfold k_check_ontology_3 at k3
    have c1 : x.cmp = true := lv_cmp 2 (axB_gk 0 ha).2 (by decide)
    have c2 : (D.lst ((xs.take i).filter axB)).cmp = true := cmp_axs fun y hy => (List.mem_filter.mp hy).2
    have c3 := cmp_impl xs
    have e1 := az_in_l x ((xs.take i).filter axB) c1 c2
    cases hd : inD x ((xs.take i).filter axB) with
    | true => simp [l_check_ontology_1_b, envO, badO, k_check_ontology_3, ha, hxa, k3, e1, hd]
    | false =>
      obtain ⟨w, y, l, rfl, h1 | h1⟩ := axS ha
      · obtain ⟨rfl, rfl, s, w2, rfl, hw⟩ := h1
        have e2 := az_in_l w2 (impl xs) (lv_cmp 2 (wordB_lv 2 hw) (by decide)) c3
        cases h4 : inD w2 (impl xs) <;> simp [l_check_ontology_1_b, envO, badO, k_check_ontology_3, ha, hxa, k3, e1, hd, e2, h4, fnW, at1]
      · obtain ⟨h1, z, rfl, _⟩ := h1
        simp [l_check_ontology_1_b, envO, badO, k_check_ontology_3, ha, hxa, k3, e1, hd, fnW, at1, h1]
/-- what check_ontology says of a list -/
def chkO (xs : List D) : Option D := if xs.length ≤ 16 then (firstBad (badO xs) 0 xs).map fun i => .int (i : Int) else some .non
def ontR (v : D) : Option D := match v with
  | .lst xs => chkO xs
  | .tup xs => chkO xs
  | _ => some .non
theorem p_check_seq (k : Nat) {v : D} {xs : List D} (hv : IsSeq v xs) (hx : ∀ x ∈ xs, gk 8 x = true) : callN shownD P (k + 6) i_check_ontology [v] = match chkO xs with
    | none => .ok .non []
    | some d => .err 1 [d] [] := by
  rw [callN_def (at_check_ontology hB) rfl]
  have hq : callN shownD P (k + 5) i_is_sequence [v] = .ok (.bl true) [] := by
    rw [p_is_sequence hB (k + 4) v]
    rcases hv with rfl | rfl <;> rfl
  have hlen : Op.ap shownD .len [v] = some (.int xs.length) := by rcases hv with rfl | rfl <;> rfl
  by_cases hl : xs.length ≤ 16
  · have hl' : ¬ (16 : Int) < xs.length := by omega
    have k1 := k_co1 hB k hv hx hl
    unfold k_check_ontology_1 at k1
    have k2 : k_check_ontology_2.ev shownD P (callN shownD P (k + 5)) [.fz v, .ow (.lst (xs.filter axB)), .un, .un, .un, .un] = .ok [.lst (impl xs)] [.fz v, .fz (.lst (xs.filter axB)), .un, .un, .un, .un] := k_co2 hB (k + 5) v (xs.filter axB) (fun x h => (List.mem_filter.mp h).2) (Nat.le_trans (List.length_filter_le ..) hl)
    unfold k_check_ontology_2 at k2
    have hlp : l_check_ontology_1.ev shownD P (callN shownD P (k + 5)) true (envO v (xs.filter axB) (impl xs) .un .un) = runF (fun _ : Unit => envO v (xs.filter axB) (impl xs) .un .un) (fun _ t => match t with
        | .tup [.int j, x] => if badO xs j.toNat x then .inr (.err 1 [.int j] (envO v (xs.filter axB) (impl xs) (.fz (.int j)) (.fz x))) else .inl ()
        | _ => .inl ()) () (enumD 0 xs) := by
      unfold l_check_ontology_1
      refine sv_for_run (P := P) (x := .lst (enumD 0 xs)) _ _ (fun _ => True) () ?_ rfl trivial ?_
      · rcases hv with rfl | rfl <;> simp [envO]
      · intro t ht _ _
        obtain ⟨i, hi⟩ := List.mem_iff_getElem?.mp ht
        rw [enumD_get] at hi
        cases hxi : xs[i]? with
        | none => rw [hxi] at hi; cases hi
        | some x =>
          rw [hxi] at hi
          cases hi
          have hm := List.mem_of_getElem? hxi
          refine ⟨envO v (xs.filter axB) (impl xs) (.fz (.int (i : Int))) (.fz x), by simp [envO], ?_, fun _ _ => trivial⟩
          rw [co_step hB k hv hx hl _ i x hm]
          simp only [Nat.zero_add, Int.toNat_natCast]
          cases badO xs i x <;> simp [stepOk]
    have hr := runF_enum (E := fun _ : Unit => envO v (xs.filter axB) (impl xs) .un .un) (s := ()) (bad := badO xs) (c := 1) (F := fun i x => envO v (xs.filter axB) (impl xs) (.fz (.int i)) (.fz x)) (f := (fun _ t => match t with
        | .tup [.int j, x] => if badO xs j.toNat x then .inr (.err 1 [.int j] (envO v (xs.filter axB) (impl xs) (.fz (.int j)) (.fz x))) else .inl ()
        | _ => .inl ())) xs 0 (fun i x _ => by simp)
    have he : chkO xs = (firstBad (badO xs) 0 xs).map fun i => D.int (i : Int) := by unfold chkO; rw [if_pos hl]
    rw [he]
    cases hf : firstBad (badO xs) 0 xs with
    | none =>
      rw [hf] at hr
      rw [hr] at hlp
      unfold envO at hlp
      simp [b_check_ontology, k_check_ontology_1, k_check_ontology_2, hq, hlen, g_MAX_AXIOMS hB, hl', k1, k2, hlp]
    | some i =>
      rw [hf] at hr
      obtain ⟨x, hr⟩ := hr
      rw [hr] at hlp
      unfold envO at hlp
      simp [b_check_ontology, k_check_ontology_1, k_check_ontology_2, hq, hlen, g_MAX_AXIOMS hB, hl', k1, k2, hlp]
  · have hl' : (16 : Int) < xs.length := by omega
    simp [b_check_ontology, hq, hlen, g_MAX_AXIOMS hB, hl', chkO, hl]
theorem p_check_ontology (k : Nat) {v : D} (hv : gk 9 v = true) : callN shownD P (k + 6) i_check_ontology [v] = match ontR v with
    | none => .ok .non []
    | some d => .err 1 [d] [] := by
  cases v with
  | lst xs => exact p_check_seq hB k (Or.inl rfl) fun x hx => List.all_eq_true.mp hv x hx
  | tup xs => exact p_check_seq hB k (Or.inr rfl) fun x hx => List.all_eq_true.mp hv x hx
  | _ =>
    rw [callN_def (at_check_ontology hB) rfl]
    simp [b_check_ontology, p_is_sequence hB (k + 4), ontR]
end
/-! ### small data, and what it is shown as -/
def sd : Nat → D → Bool
  | _, .non => true
  | _, .bl _ => true
  | _, .int i => decide ((PyData.int i).shown.length ≤ 1002) && decide (i.natAbs.log2 < 1920)
  | _, .str s => decide (s.length ≤ 100) && s.cps.toList.all fun c => decide (c < 4294967296)
  | _, .dct kvs => kvs.isEmpty
  | n + 1, .tup xs => decide (xs.length ≤ 16) && xs.all (sd n)
  | n + 1, .lst xs => decide (xs.length ≤ 16) && xs.all (sd n)
  | 0, .tup _ => false
  | 0, .lst _ => false
def bnd : Nat → Nat
  | 0 => 1002
  | n + 1 => 16 * bnd n + 35
theorem bnd_ge : ∀ n : Nat, 1002 ≤ bnd n
  | 0 => Nat.le_refl _
  | n + 1 => by have := bnd_ge n; show 1002 ≤ 16 * bnd n + 35; omega
theorem sum_le {b : Nat} : ∀ {xs : List Str}, (∀ x ∈ xs, x.length ≤ b) → (xs.map (·.length)).sum ≤ xs.length * b
  | [], _ => by simp
  | x :: xs, h => by
    rw [List.map_cons, List.sum_cons, List.length_cons, Nat.succ_mul]
    have h1 := h x List.mem_cons_self
    have h2 := sum_le fun y hy => h y (List.mem_cons_of_mem _ hy)
    omega
theorem toPs_len : ∀ xs : List D, (PyData.shownAll (D.toP.toPs xs)).length = xs.length
  | [] => rfl
  | x :: xs => by
    rw [show D.toP.toPs (x :: xs) = x.toP :: D.toP.toPs xs from rfl, PyData.shownAll, List.length_cons, toPs_len xs, List.length_cons]
theorem toPs_all {m b : Nat} : ∀ xs : List D, (∀ x ∈ xs, x.toP.showable = true ∧ x.toP.depth ≤ m ∧ x.toP.shown.length ≤ b) → PyData.showableAll (D.toP.toPs xs) = true ∧ PyData.depthAll (D.toP.toPs xs) ≤ m ∧ ∀ t ∈ PyData.shownAll (D.toP.toPs xs), t.length ≤ b
  | [], _ => ⟨by rw [show D.toP.toPs [] = [] from rfl, PyData.showableAll], by rw [show D.toP.toPs [] = [] from rfl, PyData.depthAll]; exact Nat.zero_le _, by rw [show D.toP.toPs [] = [] from rfl, PyData.shownAll]; exact fun _ h => nomatch h⟩
  | x :: xs, h => by
    obtain ⟨h1, h2, h3⟩ := h x List.mem_cons_self
    obtain ⟨k1, k2, k3⟩ := toPs_all xs fun y hy => h y (List.mem_cons_of_mem _ hy)
    rw [show D.toP.toPs (x :: xs) = x.toP :: D.toP.toPs xs from rfl]
    refine ⟨by rw [PyData.showableAll, h1, k1]; rfl, by rw [PyData.depthAll]; exact Nat.max_le.mpr ⟨h2, k2⟩, ?_⟩
    rw [PyData.shownAll]
    intro t ht
    rcases List.mem_cons.mp ht with rfl | ht
    · exact h3
    · exact k3 t ht
theorem sd_shown : ∀ (n : Nat) (v : D), sd n v = true → v.toP.showable = true ∧ v.toP.depth ≤ n + 1 ∧ v.toP.shown.length ≤ bnd n := by
  intro n
  induction n with
  | zero =>
    intro v h
    cases v with
    | non => exact ⟨by rw [D.toP, PyData.showable], by rw [D.toP, PyData.depth] <;> first | exact Nat.zero_le _ | (intros; simp), by rw [D.toP, PyData.shown]; decide⟩
    | bl b => exact ⟨by rw [D.toP, PyData.showable], by rw [D.toP, PyData.depth] <;> first | exact Nat.zero_le _ | (intros; simp), by rw [D.toP, PyData.shown]; cases b <;> decide⟩
    | int i =>
      rw [sd, Bool.and_eq_true, decide_eq_true_eq, decide_eq_true_eq] at h
      exact ⟨by rw [D.toP, PyData.showable]; exact decide_eq_true h.2, by rw [D.toP, PyData.depth] <;> first | exact Nat.zero_le _ | (intros; simp), h.1⟩
    | str s =>
      rw [sd, Bool.and_eq_true, decide_eq_true_eq, List.all_eq_true] at h
      refine ⟨by rw [D.toP, PyData.showable], by rw [D.toP, PyData.depth] <;> first | exact Nat.zero_le _ | (intros; simp), ?_⟩
      rw [D.toP, PyData.shown]
      have := StrLaws.reprText_len s fun c hc => of_decide_eq_true (h.2 c hc)
      show _ ≤ 1002
      omega
    | tup xs => cases h
    | lst xs => cases h
    | dct kvs =>
      have h : kvs.isEmpty = true := h
      obtain rfl := List.isEmpty_iff.mp h
      decide +kernel
  | succ n ih =>
    intro v h
    have hb := bnd_ge (n + 1)
    cases v with
    | non => exact ⟨by rw [D.toP, PyData.showable], by rw [D.toP, PyData.depth] <;> first | exact Nat.zero_le _ | (intros; simp), by rw [D.toP, PyData.shown]; exact Nat.le_trans (by decide) hb⟩
    | bl b => exact ⟨by rw [D.toP, PyData.showable], by rw [D.toP, PyData.depth] <;> first | exact Nat.zero_le _ | (intros; simp), by rw [D.toP, PyData.shown]; exact Nat.le_trans (by cases b <;> decide) hb⟩
    | int i =>
      rw [sd, Bool.and_eq_true, decide_eq_true_eq, decide_eq_true_eq] at h
      exact ⟨by rw [D.toP, PyData.showable]; exact decide_eq_true h.2, by rw [D.toP, PyData.depth] <;> first | exact Nat.zero_le _ | (intros; simp), Nat.le_trans h.1 hb⟩
    | str s =>
      rw [sd, Bool.and_eq_true, decide_eq_true_eq, List.all_eq_true] at h
      refine ⟨by rw [D.toP, PyData.showable], by rw [D.toP, PyData.depth] <;> first | exact Nat.zero_le _ | (intros; simp), ?_⟩
      rw [D.toP, PyData.shown]
      have := StrLaws.reprText_len s fun c hc => of_decide_eq_true (h.2 c hc)
      omega
    | tup xs =>
      rw [sd, Bool.and_eq_true, decide_eq_true_eq, List.all_eq_true] at h
      obtain ⟨k1, k2, k3⟩ := toPs_all xs fun x hx => ih x (h.2 x hx)
      rw [D.toP]
      refine ⟨by rw [PyData.showable]; exact k1, by rw [PyData.depth]; omega, ?_⟩
      rw [PyData.shown]
      have t1 := tupleText_len_le (PyData.shownAll (D.toP.toPs xs))
      have t2 := sum_le k3
      rw [toPs_len] at t1 t2
      show _ ≤ 16 * bnd n + 35
      have t3 : xs.length * bnd n ≤ 16 * bnd n := Nat.mul_le_mul_right _ h.1
      omega
    | lst xs =>
      rw [sd, Bool.and_eq_true, decide_eq_true_eq, List.all_eq_true] at h
      obtain ⟨k1, k2, k3⟩ := toPs_all xs fun x hx => ih x (h.2 x hx)
      rw [D.toP]
      refine ⟨by rw [PyData.showable]; exact k1, by rw [PyData.depth]; omega, ?_⟩
      rw [PyData.shown]
      have t1 := listText_len_le (PyData.shownAll (D.toP.toPs xs))
      have t2 := sum_le k3
      rw [toPs_len] at t1 t2
      show _ ≤ 16 * bnd n + 35
      have t3 : xs.length * bnd n ≤ 16 * bnd n := Nat.mul_le_mul_right _ h.1
      omega
    | dct kvs =>
      have h : kvs.isEmpty = true := h
      obtain rfl := List.isEmpty_iff.mp h
      have e : (D.dct []).toP.showable = true ∧ (D.dct []).toP.depth = 1 ∧ (D.dct []).toP.shown.length ≤ 1002 := by decide +kernel
      exact ⟨e.1, by rw [e.2.1]; omega, Nat.le_trans e.2.2 hb⟩
theorem sd_repr {v : D} (h : sd 3 v = true) : ∃ s, shownD v = some s ∧ s.length ≤ line := by
  obtain ⟨h1, h2, h3⟩ := sd_shown 3 v h
  have hl : v.toP.shown.length ≤ line := Nat.le_trans h3 (by decide)
  refine ⟨v.toP.shown, ?_, hl⟩
  unfold shownD
  rw [h1, decide_eq_true (Nat.le_trans h2 (by decide)), decide_eq_true hl]
  rfl
theorem sd_str (n : Nat) (s : Str) : sd n (.str s) = (decide (s.length ≤ 100) && s.cps.toList.all fun c => decide (c < 4294967296)) := by cases n <;> rfl
theorem wordB_sd {d : D} (n : Nat) (h : wordB d = true) : sd n d = true := by
  cases d <;> try (cases h; done)
  rename_i s
  have h : (decide (1 ≤ s.length) && (decide (s.length ≤ 8) && s.cps.toList.all fun c => decide (c ∈ LT.cps.toList))) = true := h
  simp only [Bool.and_eq_true, decide_eq_true_eq, List.all_eq_true] at h
  have hc : ∀ c ∈ LT.cps.toList, c < 4294967296 := by decide
  have e : ∀ n, sd n (.str s) = (decide (s.length ≤ 100) && s.cps.toList.all fun c => decide (c < 4294967296)) := fun n => by cases n <;> rfl
  rw [e]
  simp only [Bool.and_eq_true, decide_eq_true_eq, List.all_eq_true]
  exact ⟨by omega, fun c hq => hc c (h.2.2 c hq)⟩
@[simp] theorem sd_tup (n : Nat) (xs : List D) : sd (n + 1) (.tup xs) = (decide (xs.length ≤ 16) && xs.all (sd n)) := (rfl)
@[simp] theorem sd_lst (n : Nat) (xs : List D) : sd (n + 1) (.lst xs) = (decide (xs.length ≤ 16) && xs.all (sd n)) := (rfl)
theorem conB_sd {d : D} (n : Nat) (h : conB d = true) : sd (n + 1) d = true := by
  obtain ⟨s, w, rfl, hs, hw⟩ := conB_of h
  have h2 := wordB_sd n hw
  have hk : ∀ n, sd n (.str "out") = true ∧ sd n (.str "in") = true ∧ sd n (.str "concept") = true := fun n => by simp only [sd_str]; decide
  rcases hs with rfl | rfl | rfl <;> simp [h2, (hk n).1, (hk n).2.1, (hk n).2.2]
theorem dirB_con {d : D} (h : dirB d = true) : conB d = true := by
  obtain ⟨s, w, rfl, hs, hw⟩ := dirB_of h
  rcases hs with rfl | rfl <;> simp [conB, hw]
theorem axB_sd {d : D} (n : Nat) (h : axB d = true) : sd (n + 2) d = true := by
  have hk : ∀ n, sd n (.str "functional") = true ∧ sd n (.str "subclass") = true ∧ sd n (.str "disjoint") = true ∧ sd n (.str "subrole") = true ∧ sd n (.str "subrole_inverse") = true ∧ sd n (.str "disjoint_roles") = true ∧ sd n (.str "disjoint_inverse") = true := fun n => by simp only [sd_str]; decide
  obtain ⟨k1, k2, k3, k4, k5, k6, k7⟩ := hk (n + 1)
  cases axB_of h with
  | fn d h => simp [k1, conB_sd n (dirB_con h)]
  | con s c d hs hc hd => rcases hs with rfl | rfl <;> simp [k2, k3, conB_sd n hc, conB_sd n hd]
  | rol s c d hs hc hd => rcases hs with rfl | rfl | rfl | rfl <;> simp [k4, k5, k6, k7, wordB_sd (n + 1) hc, wordB_sd (n + 1) hd]
/-! ### facts.py: individuals, facts, check_facts -/
abbrev DG : Str := "0123456789"
abbrev VT : Str := LT ++ DG
def valB (d : D) : Bool := strOf VT d
def indB : D → Bool
  | .tup [x, y] => wordB x && valB y
  | _ => false
def factB : D → Bool
  | .tup [x, y, a] => eqW "concept" x && (wordB y && indB a)
  | .tup [x, y, a, b] => eqW "role" x && (wordB y && (indB a && indB b))
  | _ => false
def formB : D → Bool
  | .tup [x, y, _] => eqW "concept" x && wordB y
  | .tup [x, y, _, _] => eqW "role" x && wordB y
  | _ => false
theorem valB_str {d : D} (h : valB d = true) : ∃ s : Str, d = .str s ∧ s.length ≤ 8 := by
  cases d <;> try (cases h; done)
  rename_i s
  have h : (decide (1 ≤ s.length) && (decide (s.length ≤ 8) && _)) = true := h
  simp only [Bool.and_eq_true, decide_eq_true_eq] at h
  exact ⟨s, rfl, h.2.1⟩
theorem indB_of {d : D} (h : indB d = true) : ∃ x y, d = .tup [x, y] ∧ wordB x = true ∧ valB y = true := by
  cases d <;> try (cases h; done)
  rename_i xs
  match xs, h with
  | [x, y], h =>
    have h : (wordB x && valB y) = true := h
    rw [Bool.and_eq_true] at h
    exact ⟨x, y, rfl, h.1, h.2⟩
/-- what a fact looks like -/
inductive FactF : D → Prop
  | con (c a : D) (hc : wordB c = true) (ha : indB a = true) : FactF (.tup [.str "concept", c, a])
  | rol (c a b : D) (hc : wordB c = true) (ha : indB a = true) (hb : indB b = true) : FactF (.tup [.str "role", c, a, b])
theorem factB_of {d : D} (h : factB d = true) : FactF d := by
  cases d <;> try (cases h; done)
  rename_i xs
  match xs, h with
  | [x, y, a], h =>
    have h : (eqW "concept" x && (wordB y && indB a)) = true := h
    simp only [Bool.and_eq_true] at h
    rw [eqW_str h.1]
    exact .con _ _ h.2.1 h.2.2
  | [x, y, a, b], h =>
    have h : (eqW "role" x && (wordB y && (indB a && indB b))) = true := h
    simp only [Bool.and_eq_true] at h
    rw [eqW_str h.1]
    exact .rol _ _ _ h.2.1 h.2.2.1 h.2.2.2
theorem FactF.b {d : D} (h : FactF d) : factB d = true := by
  cases h with
  | con c a hc ha => simp [factB, hc, ha]
  | rol c a b hc ha hb => simp [factB, hc, ha, hb]
theorem word_hk {d : D} (n : Nat) (h : wordB d = true) : d.hk n = true := by
  obtain ⟨s, rfl, _⟩ := wordB_str h
  exact hk_str ..
theorem val_hk {d : D} (n : Nat) (h : valB d = true) : d.hk n = true := by
  obtain ⟨s, rfl, _⟩ := valB_str h
  exact hk_str ..
theorem ind_hk {d : D} (n : Nat) (h : indB d = true) : d.hk (n + 1) = true := by
  obtain ⟨x, y, rfl, h1, h2⟩ := indB_of h
  simp [word_hk n h1, val_hk n h2]
theorem fact_hk {d : D} (n : Nat) (h : factB d = true) : d.hk (n + 2) = true := by
  cases factB_of h with
  | con c a hc ha => simp [word_hk _ hc, ind_hk n ha]
  | rol c a b hc ha hb => simp [word_hk _ hc, ind_hk n ha, ind_hk n hb]
theorem val_lv {d : D} (n : Nat) (h : valB d = true) : d.lv n = true := by
  obtain ⟨s, rfl, _⟩ := valB_str h
  exact lv_str ..
theorem val_gk {d : D} (n : Nat) (h : valB d = true) : gk n d = true := by
  obtain ⟨s, rfl, hs⟩ := valB_str h
  rw [gk_str]
  exact decide_eq_true (Nat.le_trans hs (by decide))
theorem ind_gk {d : D} (n : Nat) (h : indB d = true) : gk (n + 1) d = true ∧ d.lv (n + 1) = true := by
  obtain ⟨x, y, rfl, h1, h2⟩ := indB_of h
  simp [wordB_gk n h1, val_gk n h2, wordB_lv n h1, val_lv n h2]
theorem fact_gk {d : D} (n : Nat) (h : factB d = true) : gk (n + 2) d = true ∧ d.lv (n + 2) = true := by
  have k : gk (n + 1) (.str "concept") = true ∧ gk (n + 1) (.str "role") = true := by simp only [gk_str]; decide
  cases factB_of h with
  | con c a hc ha => simp [k.1, wordB_gk (n + 1) hc, wordB_lv (n + 1) hc, (ind_gk n ha).1, (ind_gk n ha).2]
  | rol c a b hc ha hb => simp [k.2, wordB_gk (n + 1) hc, wordB_lv (n + 1) hc, (ind_gk n ha).1, (ind_gk n ha).2, (ind_gk n hb).1, (ind_gk n hb).2]
theorem val_sd {d : D} (n : Nat) (h : valB d = true) : sd n d = true := by
  cases d <;> try (cases h; done)
  rename_i s
  have h : (decide (1 ≤ s.length) && (decide (s.length ≤ 8) && s.cps.toList.all fun c => decide (c ∈ VT.cps.toList))) = true := h
  simp only [Bool.and_eq_true, decide_eq_true_eq, List.all_eq_true] at h
  have hc : ∀ c ∈ VT.cps.toList, c < 4294967296 := by decide
  rw [sd_str]
  simp only [Bool.and_eq_true, decide_eq_true_eq, List.all_eq_true]
  exact ⟨by omega, fun c hq => hc c (h.2.2 c hq)⟩
theorem ind_sd {d : D} (n : Nat) (h : indB d = true) : sd (n + 1) d = true := by
  obtain ⟨x, y, rfl, h1, h2⟩ := indB_of h
  simp [wordB_sd n h1, val_sd n h2]
theorem fact_sd {d : D} (n : Nat) (h : factB d = true) : sd (n + 2) d = true := by
  have k : ∀ n, sd n (.str "concept") = true ∧ sd n (.str "role") = true := fun n => by simp only [sd_str]; decide
  cases factB_of h with
  | con c a hc ha => simp [(k _).1, wordB_sd (n + 1) hc, ind_sd n ha]
  | rol c a b hc ha hb => simp [(k _).2, wordB_sd (n + 1) hc, ind_sd n ha, ind_sd n hb]
section
variable {P : Prog} (hB : Base P)
include hB
theorem p_is_value (k : Nat) (v : D) (hv : sok v = true) : callN shownD P (k + 2) i_is_value [v] = .ok (.bl (valB v)) [] := by
  rw [callN_def (at_is_value hB) rfl]
  have e : Op.ap shownD .add [.str LT, .str DG] = some (.str VT) := az_add_s _ _ (by decide)
  simp [b_is_value, g_LETTERS hB, g_DIGITS hB, e, p_is_string_of hB k v _ hv, valB]
theorem p_is_individual (k n : Nat) (v : D) (hv : gk n v = true) : callN shownD P (k + 3) i_is_individual [v] = .ok (.bl (indB v)) [] := by
  rw [callN_def (at_is_individual hB) rfl]
  cases v <;> try (simp [b_is_individual, indB]; done)
  rename_i xs
  match xs, hv with
  | [], _ => simp [b_is_individual, indB]
  | [x], _ => simp [b_is_individual, indB]
  | x :: y :: z :: l, _ =>
    have : ¬ ((l.length : Int) + 1 + 1 + 1 = 2) := by omega
    simp [b_is_individual, indB, this]
  | [x, y], hv =>
    obtain ⟨m, rfl, hm⟩ := gkx hv
    have hx := gk_sok (hm x (by simp))
    have hy := gk_sok (hm y (by simp))
    cases h : wordB x <;> simp [b_is_individual, indB, p_is_word hB k x hx, p_is_value hB k y hy, h]
theorem p_individuals_of (k : Nat) (xs : List D) : callN shownD P (k + 1) i_individuals_of [.tup xs] = .ok (.tup (xs.drop 2)) [] := by
  rw [callN_def (at_individuals_of hB) rfl]
  have e : cutD xs (some 2) none = xs.drop 2 := by
    unfold cutD slEnd
    have h : ¬ ((2 : Int) < 0) := by decide
    simp only [if_neg h]
    rw [show (2 : Int).toNat = 2 from rfl]
    by_cases hl : 2 ≤ xs.length
    · rw [Nat.min_eq_left hl, List.take_of_length_le (by rw [List.length_drop]; omega)]
    · rw [Nat.min_eq_right (by omega), List.drop_length, List.drop_eq_nil_of_le (by omega)]
      simp
  simp [b_individuals_of, e]
theorem p_has_fact_form (k n : Nat) (v : D) (hv : gk n v = true) : callN shownD P (k + 3) i_has_fact_form [v] = .ok (.bl (formB v)) [] := by
  rw [callN_def (at_has_fact_form hB) rfl]
  cases v <;> try (simp [b_has_fact_form, formB]; done)
  rename_i xs
  have c2 : (D.lst [.tup [.str "concept", .int 3], .tup [.str "role", .int 4]]).cmp = true := by decide
  match xs, hv with
  | [], _ => simp [b_has_fact_form, formB]
  | [x], _ => simp [b_has_fact_form, formB]
  | [x, y], _ => simp [b_has_fact_form, formB]
  | x :: y :: a :: b :: z :: l, _ =>
    have h1 : ¬ ((l.length : Int) + 1 + 1 + 1 + 1 + 1 ≤ 4) := by omega
    have h2 : ((3 : Int) ≤ (l.length : Int) + 1 + 1 + 1 + 1 + 1) := by omega
    simp [b_has_fact_form, formB, h1, h2]
  | [x, y, a], hv =>
    obtain ⟨m, rfl, hm⟩ := gkx hv
    have hy := gk_sok (hm y (by simp))
    cases x <;> try (simp [b_has_fact_form, formB]; done)
    rename_i s
    cases h : wordB y <;> by_cases h1 : s = "concept" <;> simp [b_has_fact_form, formB, p_is_word hB (k) y hy, h, h1, az_in_t]
  | [x, y, a, b], hv =>
    obtain ⟨m, rfl, hm⟩ := gkx hv
    have hy := gk_sok (hm y (by simp))
    cases x <;> try (simp [b_has_fact_form, formB]; done)
    rename_i s
    cases h : wordB y <;> by_cases h1 : s = "role" <;> simp [b_has_fact_form, formB, p_is_word hB (k) y hy, h, h1, az_in_t]
theorem p_is_fact (k n : Nat) (v : D) (hv : gk n v = true) : callN shownD P (k + 4) i_is_fact [v] = .ok (.bl (factB v)) [] := by
  rw [callN_def (at_is_fact hB) rfl]
  have hf := p_has_fact_form hB k n v hv
  cases h : formB v with
  | false =>
    rw [h] at hf
    have e : factB v = false := by
      cases hb : factB v with
      | false => rfl
      | true =>
        cases factB_of hb with
        | con c a hc ha => simp [formB, hc] at h
        | rol c a b hc ha hb => simp [formB, hc] at h
    simp [b_is_fact, hf, e]
  | true =>
    rw [h] at hf
    cases v <;> try (cases h; done)
    rename_i xs
    obtain ⟨m, rfl, hm⟩ := gkx hv
    have hd := p_individuals_of hB (k + 2) xs
    have hk : k_is_fact_1.ev shownD P (callN shownD P (k + 3)) [.fz (.tup xs), .un] = .ok [.lst ((xs.drop 2).map fun x => .bl (indB x))] [.fz (.tup xs), .un] := by
      unfold k_is_fact_1
      refine comp_map (fun x => .bl (indB x)) (x := .tup (xs.drop 2)) (xs := xs.drop 2) (r1 := [.fz (.tup xs), .un]) (by simp [hd]) rfl (by simp) ?_ ?_
      · have : xs.length ≤ 4 := by
          match xs, h with
          | [x, y, a], _ => simp
          | [x, y, a, b], _ => simp
        rw [List.length_drop]
        exact Nat.le_trans (Nat.sub_le ..) (Nat.le_trans this (by decide))
      · intro x hx
        exact ⟨[.fz (.tup xs), .fz x], rfl, rfl, by simp [p_is_individual hB k m x (hm x (List.mem_of_mem_drop hx))]⟩
    unfold k_is_fact_1 at hk
    match xs, h with
    | [x, y, a], h =>
      have h : (eqW "concept" x && wordB y) = true := h
      rw [Bool.and_eq_true] at h
      simp [b_is_fact, k_is_fact_1, hf, hk, factB, h.1, h.2, D.bools]
    | [x, y, a, b], h =>
      have h : (eqW "role" x && wordB y) = true := h
      rw [Bool.and_eq_true] at h
      simp [b_is_fact, k_is_fact_1, hf, hk, factB, h.1, h.2, D.bools]
end
/-- no fact, or one that stands before it -/
def badF (xs : List D) (i : Nat) (x : D) : Bool := !factB x || inD x (xs.take i)
def firstBadA (l : List D) : Nat → List D → Option Nat
  | _, [] => none
  | n, x :: xs => if !factB x || inD x l then some n else firstBadA (l ++ [x]) (n + 1) xs
theorem firstBadA_eq : ∀ (l xs : List D), firstBadA l l.length xs = firstBad (badF (l ++ xs)) l.length xs
  | l, [] => rfl
  | l, x :: xs => by
    show (if !factB x || inD x l then _ else _) = (if badF (l ++ x :: xs) l.length x then _ else _)
    have e : badF (l ++ x :: xs) l.length x = (!factB x || inD x l) := by
      unfold badF
      rw [List.take_left']
      rfl
    rw [e]
    split
    · rfl
    · have := firstBadA_eq (l ++ [x]) xs
      rw [List.length_append, List.length_cons, List.length_nil, List.append_assoc] at this
      exact this
def seenD (l : List D) : D := .dct (l.map fun x => (x, .bl true))
theorem dhas_seen (l : List D) (x : D) : dhas (l.map fun x => (x, D.bl true)) x = inD x l := by
  unfold dhas inD
  rw [List.any_map]
  rfl
def envF (v : D) (l : List D) (a b : Slot) : Env := [.fz v, .ow (seenD l), a, b]
def chkF (xs : List D) : Option D := (firstBad (badF xs) 0 xs).map fun (i : Nat) => D.int (i : Int)
def facR (v : D) : Option D := match v with
  | .lst xs => chkF xs
  | .tup xs => chkF xs
  | _ => some .non
theorem runF_seen {v : D} {f : List D → D → Sum (List D) (Out Fl)} (hf : ∀ (l : List D) (j : Int) (x : D), f l (.tup [.int j, x]) = if !factB x || inD x l then .inr (.err 4 [.int j] (envF v l (.fz (.int j)) (.fz x))) else .inl (l ++ [x])) :
    ∀ (xs l : List D) (n : Nat), match firstBadA l n xs with
      | none => runF (fun l => envF v l .un .un) f l (enumD n xs) = .ok .nx (envF v (l ++ xs) .un .un)
      | some i => ∃ l' x, runF (fun l => envF v l .un .un) f l (enumD n xs) = .err 4 [.int (i : Int)] (envF v l' (.fz (.int (i : Int))) (.fz x))
  | [], l, n => by
    show runF _ f l [] = _
    rw [List.append_nil]
    rfl
  | x :: xs, l, n => by
    rw [show enumD n (x :: xs) = .tup [.int (n : Int), x] :: enumD (n + 1) xs from rfl, runF_cons]
    rw [hf]
    have ih := runF_seen hf xs (l ++ [x]) (n + 1)
    have e : firstBadA l n (x :: xs) = if !factB x || inD x l then some n else firstBadA (l ++ [x]) (n + 1) xs := rfl
    rw [e]
    cases hb : (!factB x || inD x l) with
    | true => exact ⟨l, x, rfl⟩
    | false =>
      simp only [Bool.false_eq_true, if_false]
      rw [List.append_assoc] at ih
      exact ih
section
variable {P : Prog} (hB : Base P)
include hB
theorem p_check_fseq (k : Nat) {v : D} {xs : List D} (hv : IsSeq v xs) (hx : ∀ x ∈ xs, gk 8 x = true) (hl : xs.length < line) : callN shownD P (k + 5) i_check_facts [v] = match chkF xs with
    | none => .ok .non []
    | some d => .err 4 [d] [] := by
  rw [callN_def (at_check_facts hB) rfl]
  have hq : callN shownD P (k + 4) i_is_sequence [v] = .ok (.bl true) [] := by
    rw [p_is_sequence hB (k + 3) v]
    rcases hv with rfl | rfl <;> rfl
  have hlp : l_check_facts_1.ev shownD P (callN shownD P (k + 4)) true (envF v [] .un .un) = runF (fun l => envF v l .un .un) (fun l t => match t with
      | .tup [.int j, x] => if !factB x || inD x l then .inr (.err 4 [.int j] (envF v l (.fz (.int j)) (.fz x))) else .inl (l ++ [x])
      | _ => .inl l) [] (enumD 0 xs) := by
    unfold l_check_facts_1
    rw [sv_for]
    have hi : (ME.op .enum (.cons (.cap 0) .nil)).ev shownD P (callN shownD P (k + 4)) (envF v [] .un .un) = .ok [.lst (enumD 0 xs)] (envF v [] .un .un) := by
      rcases hv with rfl | rfl <;> simp [envF]
    rw [hi]
    simp only [bd_ok, one_one, itemsD_l, optk_some]
    have key : ∀ (ys l : List D) (n : Nat), (∀ y ∈ ys, gk 8 y = true) → l.length + ys.length < line → forLoop (.tup (.cons (.sl 2) (.cons (.sl 3) .nil))) (l_check_facts_1_b.ev shownD P (callN shownD P (k + 4)) true) (enumD n ys) (envF v l .un .un) = runF (fun l => envF v l .un .un) (fun l t => match t with
      | .tup [.int j, x] => if !factB x || inD x l then .inr (.err 4 [.int j] (envF v l (.fz (.int j)) (.fz x))) else .inl (l ++ [x])
      | _ => .inl l) l (enumD n ys) := by
      intro ys
      induction ys with
      | nil => intro l n _ _; rfl
      | cons y ys ih =>
        intro l n hy hlen
        have hyk := p_is_fact hB k 8 y (hy y List.mem_cons_self)
        have b1 : (MG.tup (.cons (.sl 2) (.cons (.sl 3) .nil))).bind (.tup [.int (n : Int), y]) (envF v l .un .un) = some (envF v l (.fz (.int (n : Int))) (.fz y)) := by simp [envF]
        rw [List.length_cons] at hlen
        have e0 : enumD n (y :: ys) = .tup [.int (n : Int), y] :: enumD (n + 1) ys := rfl
        rw [e0]
        show (match (MG.tup (.cons (.sl 2) (.cons (.sl 3) .nil))).bind (.tup [.int (n : Int), y]) (envF v l .un .un) with
          | none => Out.stk
          | some r1 => (l_check_facts_1_b.ev shownD P (callN shownD P (k + 4)) true r1).bind fun f r2 => match f with
            | .nx => forLoop (.tup (.cons (.sl 2) (.cons (.sl 3) .nil))) (l_check_facts_1_b.ev shownD P (callN shownD P (k + 4)) true) (enumD (n + 1) ys) r2
            | .ct => forLoop (.tup (.cons (.sl 2) (.cons (.sl 3) .nil))) (l_check_facts_1_b.ev shownD P (callN shownD P (k + 4)) true) (enumD (n + 1) ys) r2
            | .bk => .ok .nx r2
            | .ret d => .ok (.ret d) r2) = _
        rw [b1]
        rw [runF_cons]
        dsimp only
        cases hf : factB y with
        | false =>
          rw [hf] at hyk
          have : l_check_facts_1_b.ev shownD P (callN shownD P (k + 4)) true (envF v l (.fz (.int (n : Int))) (.fz y)) = .err 4 [.int (n : Int)] (envF v l (.fz (.int (n : Int))) (.fz y)) := by
            simp [l_check_facts_1_b, envF, hyk]
          rw [this]
          rfl
        | true =>
          rw [hf] at hyk
          have hh := fact_hk 6 hf
          have e1 := az_in_dct y (l.map fun x => (x, D.bl true)) hh
          rw [dhas_seen] at e1
          cases hd : inD y l with
          | true =>
            rw [hd] at e1
            have : l_check_facts_1_b.ev shownD P (callN shownD P (k + 4)) true (envF v l (.fz (.int (n : Int))) (.fz y)) = .err 4 [.int (n : Int)] (envF v l (.fz (.int (n : Int))) (.fz y)) := by
              simp [l_check_facts_1_b, envF, seenD, hyk, e1]
            rw [this]
            rfl
          | false =>
            rw [hd] at e1
            have e2 := mop_setd (l.map fun x => (x, D.bl true)) y (.bl true) hh (by rw [List.length_map]; omega)
            rw [dput_new _ (by rw [dhas_seen]; exact hd)] at e2
            have : l_check_facts_1_b.ev shownD P (callN shownD P (k + 4)) true (envF v l (.fz (.int (n : Int))) (.fz y)) = .ok .nx (envF v (l ++ [y]) .un .un) := by
              simp [l_check_facts_1_b, envF, seenD, hyk, e1, e2]
            rw [this]
            simp only [Out.bind, Bool.not_true, Bool.or_self, Bool.false_eq_true, if_false]
            exact ih (l ++ [y]) (n + 1) (fun z hz => hy z (List.mem_cons_of_mem _ hz)) (by rw [List.length_append]; simp only [List.length_cons, List.length_nil]; omega)
    exact key xs [] 0 hx (by simpa using hl)
  have hr := runF_seen (v := v) (f := (fun l t => match t with
      | .tup [.int j, x] => if !factB x || inD x l then .inr (.err 4 [.int j] (envF v l (.fz (.int j)) (.fz x))) else .inl (l ++ [x])
      | _ => .inl l)) (fun l j x => rfl) xs [] 0
  have he : chkF xs = (firstBadA [] 0 xs).map fun (i : Nat) => D.int (i : Int) := by
    unfold chkF
    have h0 : firstBadA [] 0 xs = firstBad (badF xs) 0 xs := firstBadA_eq [] xs
    rw [h0]
  rw [he]
  cases hf : firstBadA [] 0 xs with
  | none =>
    rw [hf] at hr
    rw [hr] at hlp
    unfold envF seenD at hlp
    simp only [List.map_nil] at hlp
    simp [b_check_facts, hq, hlp]
  | some i =>
    rw [hf] at hr
    obtain ⟨l', x, hr⟩ := hr
    rw [hr] at hlp
    unfold envF seenD at hlp
    simp only [List.map_nil] at hlp
    simp [b_check_facts, hq, hlp]
theorem p_check_facts (k : Nat) {v : D} (hv : gk 9 v = true) (hl : ∀ n, lenD v = some n → n < line) : callN shownD P (k + 5) i_check_facts [v] = match facR v with
    | none => .ok .non []
    | some d => .err 4 [d] [] := by
  cases v with
  | lst xs => exact p_check_fseq hB k (Or.inl rfl) (fun x hx => List.all_eq_true.mp hv x hx) (hl _ rfl)
  | tup xs => exact p_check_fseq hB k (Or.inr rfl) (fun x hx => List.all_eq_true.mp hv x hx) (hl _ rfl)
  | _ =>
    rw [callN_def (at_check_facts hB) rfl]
    simp [b_check_facts, p_is_sequence hB (k + 3), facR]
end
/-- texts and tuples of texts -/
def tx : Nat → D → Bool
  | _, .str _ => true
  | n + 1, .tup xs => xs.all (tx n)
  | _, _ => false
theorem tx_str (n : Nat) (s : Str) : tx n (.str s) = true := by cases n <;> rfl
theorem eq_str_of {s : Str} {y : D} (e : D.eq (.str s) y = true) : y = .str s := by
  cases y <;> try (cases e; done)
  rename_i t
  rw [eq_str_str, decide_eq_true_eq] at e
  rw [e]
theorem txs_eq {n : Nat} (ih : ∀ {x y : D}, tx n x = true → D.eq x y = true → y = x) : ∀ {xs ys : List D}, (∀ z ∈ xs, tx n z = true) → D.eq.eqs xs ys = true → ys = xs
  | [], [], _, _ => rfl
  | [], _ :: _, _, e => by cases e
  | _ :: _, [], _, e => by cases e
  | x :: xs, y :: ys, h, e => by
    rw [eqs_cc, Bool.and_eq_true] at e
    rw [ih (h x (List.mem_cons_self ..)) e.1, txs_eq ih (fun z hz => h z (List.mem_cons_of_mem _ hz)) e.2]
theorem tx_eq : ∀ {n : Nat} {x y : D}, tx n x = true → D.eq x y = true → y = x := by
  intro n
  induction n with
  | zero =>
    intro x y h e
    cases x <;> try (cases h; done)
    exact eq_str_of e
  | succ n ih =>
    intro x y h e
    cases x <;> try (cases h; done)
    · exact eq_str_of e
    · rename_i xs
      cases y <;> try (cases e; done)
      rw [txs_eq ih (List.all_eq_true.mp h) e]
theorem word_tx {d : D} (n : Nat) (h : wordB d = true) : tx n d = true := by
  obtain ⟨s, rfl, _⟩ := wordB_str h
  exact tx_str ..
theorem val_tx {d : D} (n : Nat) (h : valB d = true) : tx n d = true := by
  obtain ⟨s, rfl, _⟩ := valB_str h
  exact tx_str ..
theorem ind_tx {d : D} (n : Nat) (h : indB d = true) : tx (n + 1) d = true := by
  obtain ⟨x, y, rfl, h1, h2⟩ := indB_of h
  simp [tx, word_tx n h1, val_tx n h2]
theorem fact_tx {d : D} (h : factB d = true) : tx 2 d = true := by
  cases factB_of h with
  | con c a hc ha => simp [tx, tx_str, word_tx 1 hc, ind_tx 0 ha]
  | rol c a b hc ha hb => simp [tx, tx_str, word_tx 1 hc, ind_tx 0 ha, ind_tx 0 hb]
theorem inD_mem {n : Nat} {x : D} {l : List D} (h : tx n x = true) : inD x l = true ↔ ∃ y ∈ l, D.eq y x = true := by
  unfold inD
  rw [List.any_eq_true]
/-- a text or a tuple of texts equals itself alone -/
theorem inD_tx {n : Nat} {x : D} {l : List D} (h : tx n x = true) (hf : D.flat x = true) : inD x l = true ↔ x ∈ l := by
  rw [inD_mem h]
  constructor
  · rintro ⟨y, hy, e⟩
    rw [deq_comm] at e
    rw [← tx_eq h e]
    exact hy
  · intro hx
    exact ⟨x, hx, D.eq_refl x hf⟩
theorem inD_fact {x : D} {l : List D} (h : factB x = true) : inD x l = true ↔ x ∈ l := inD_tx (fact_tx h) (lv_ok (fact_gk 0 h).2).1
/-! the laws' drawn facts -/
def envW (s : St) (N I m : D) (xs : List D) (t : Slot) : Env := [.ow (stD s), .fz N, .fz I, .fz m, .ow (.lst xs), t, .un, .un, .un]
theorem fact_cmp {d : D} (h : factB d = true) : d.cmp = true := lv_cmp 2 (fact_gk 0 h).2 (by decide)
theorem facts_cmp {xs : List D} (h : ∀ x ∈ xs, factB x = true) : (D.lst xs).cmp = true := cmp_lst 2 (fun x hx => (fact_gk 0 (h x hx)).2) (by decide)
section
variable {P : Prog} (hB : Base P)
include hB
theorem facts_turn (k : Nat) {N : D} {C R I : List D} (hn : NamesOk N C R) (hI : ∀ a ∈ I, indB a = true) (nI : I ≠ []) (lI : I.length ≤ 1000) (m : D) (s : St) {xs : List D} (hx : ∀ x ∈ xs, factB x = true) (hl : xs.length ≤ 1000) (t : Slot) :
    ∃ ys s', l_law_facts_2_1_b.ev shownD P (callN shownD P (k + 2)) true (envW s N (.lst I) m xs t) = .ok .nx (envW s' N (.lst I) m ys .un) ∧ (∀ y ∈ ys, factB y = true) ∧ ys.length ≤ xs.length + 1 := by
  obtain ⟨rfl, hC, hR, nC, nR, lC, lR⟩ := hn
  have c1 := p_choose hB k s I nI (by omega)
  have w1 := hI _ (chv_mem s nI)
  generalize chv s I = a at c1 w1
  generalize drs s I.length = s1 at c1
  have c2 := p_choose hB k s1 I nI (by omega)
  have w2 := hI _ (chv_mem s1 nI)
  generalize chv s1 I = b at c2 w2
  generalize drs s1 I.length = s2 at c2
  have c3 := p_choose hB k s2 C nC (by omega)
  have w3 := hC _ (chv_mem s2 nC)
  generalize chv s2 C = c at c3 w3
  generalize drs s2 C.length = s3 at c3
  have hd := p_draw hB (k + 1) s3 2 (by decide) (by decide)
  generalize drv s3 2 = i at hd
  generalize drs s3 2 = s4 at hd
  have c4 := p_choose hB k s4 R nR (by omega)
  have w4 := hR _ (chv_mem s4 nR)
  generalize chv s4 R = r at c4 w4
  generalize drs s4 R.length = s5 at c4
  have fin : ∀ x : D, factB x = true → ∃ ys, (Op.ap shownD .notin [x, .lst xs] = some (.bl (!inD x xs))) ∧ (∀ y ∈ ys, factB y = true) ∧ ys.length ≤ xs.length + 1 ∧ ys = (if inD x xs then xs else xs ++ [x]) := by
    intro x hf
    refine ⟨_, az_nin_l x xs (fact_cmp hf) (facts_cmp hx), ?_, ?_, rfl⟩
    · intro y hy
      split at hy
      · exact hx y hy
      · rcases List.mem_append.mp hy with hy | hy
        · exact hx y hy
        · simp only [List.mem_singleton] at hy
          rw [hy]
          exact hf
    · split
      · omega
      · rw [List.length_append, List.length_cons, List.length_nil]; omega
  have ha := fun x => mop_append xs x (Nat.lt_of_le_of_lt hl (by decide))
  by_cases hi : i = 0
  · have hf := (FactF.rol r a b w4 w1 w2).b
    obtain ⟨ys, e1, e2, e3, rfl⟩ := fin _ hf
    refine ⟨_, s5, ?_, e2, e3⟩
    cases h : inD (.tup [.str "role", r, a, b]) xs <;> rw [h] at e1 <;> simp [l_law_facts_2_1_b, envW, c1, c2, c3, c4, hd, hi, e1, ha, h, at_law_choose hB]
  · have hf := (FactF.con c a w3 w1).b
    obtain ⟨ys, e1, e2, e3, rfl⟩ := fin _ hf
    refine ⟨_, s4, ?_, e2, e3⟩
    cases h : inD (.tup [.str "concept", c, a]) xs <;> rw [h] at e1 <;> simp [l_law_facts_2_1_b, envW, c1, c2, c3, c4, hd, hi, e1, ha, h, at_law_choose hB]
theorem p_law_facts_2 (k : Nat) (s : St) {N : D} {C R I : List D} (hn : NamesOk N C R) (hI : ∀ a ∈ I, indB a = true) (nI : I ≠ []) (lI : I.length ≤ 1000) (m : Int) (h0 : 0 ≤ m) (h1 : m ≤ 100) :
    ∃ ys s', callN shownD P (k + 3) i_law_facts_2 [stD s, N, .lst I, .int m] = .ok (.lst ys) [stD s'] ∧ (∀ y ∈ ys, factB y = true) ∧ ys.length ≤ m.toNat := by
  rw [callN_def (at_law_facts_2 hB) rfl]
  have hd := p_draw hB (k + 1) s (m + 1) (by omega) (by omega)
  have l1 := drv_lo s (n := m + 1) (by omega)
  have l2 := drv_hi s (n := m + 1) (by omega)
  generalize drv s (m + 1) = i at hd l1 l2
  generalize drs s (m + 1) = s1 at hd
  have hr : rngOk i = true := by unfold rngOk; rw [decide_eq_true (by omega), decide_eq_true (by omega)]; rfl
  have h5 : ∃ r', l_law_facts_2_1.ev shownD P (callN shownD P (k + 2)) true (envW s N (.lst I) (.int m) [] .un) = .ok .nx r' ∧ ∃ s xs, r' = envW s N (.lst I) (.int m) xs .un ∧ (∀ x ∈ xs, factB x = true) ∧ xs.length ≤ (iota 0 i.toNat).length := by
    unfold l_law_facts_2_1
    refine sv_for_invN (P := P) (x := .lst (iota 0 i.toNat)) (xs := iota 0 i.toNat) (r1 := envW s1 N (.lst I) (.int m) [] .un) (fun n r' => ∃ s xs, r' = envW s N (.lst I) (.int m) xs .un ∧ (∀ x ∈ xs, factB x = true) ∧ xs.length ≤ n) (by simp [envW, hd, hr]) rfl ⟨s1, [], rfl, by simp, by simp⟩ ?_
    rintro x hx n r hn' ⟨s, xs, rfl, hf, hq⟩
    rw [iota_length] at hn'
    obtain ⟨zs, s', g1, g2, g3⟩ := facts_turn hB k hn hI nI lI (.int m) s hf (by omega) (.fz x)
    exact ⟨envW s N (.lst I) (.int m) xs (.fz x), _, by simp [envW], g1, s', zs, rfl, g2, by omega⟩
  obtain ⟨r', h5, s3, xs, rfl, hf, hq⟩ := h5
  rw [iota_length] at hq
  unfold envW at h5
  exact ⟨xs, s3, by simp [b_law_facts_2, h5], hf, by omega⟩
end
def topS (i : Nat) : Stmt := PySem.Challenge.pw_factsandfar_k12_check_facts.main.body.getD i (.Pass ⟨0, 0, 0, 0⟩)
abbrev t_is_string_of : DefT := ⟨"is_string_of", ["candidate", "characters", "character"], ["candidate", "characters"], defScope (topS 7), defBody (topS 7)⟩
abbrev t_is_word : DefT := ⟨"is_word", ["candidate"], ["candidate"], defScope (topS 8), defBody (topS 8)⟩
abbrev t_is_value : DefT := ⟨"is_value", ["candidate"], ["candidate"], defScope (topS 9), defBody (topS 9)⟩
abbrev t_is_sequence : DefT := ⟨"is_sequence", ["candidate"], ["candidate"], defScope (topS 10), defBody (topS 10)⟩
abbrev t_is_individual : DefT := ⟨"is_individual", ["candidate"], ["candidate"], defScope (topS 12), defBody (topS 12)⟩
abbrev t_individuals_of : DefT := ⟨"individuals_of", ["fact"], ["fact"], defScope (topS 13), defBody (topS 13)⟩
abbrev t_has_fact_form : DefT := ⟨"has_fact_form", ["candidate"], ["candidate"], defScope (topS 14), defBody (topS 14)⟩
abbrev t_is_fact : DefT := ⟨"is_fact", ["candidate", "item"], ["candidate"], defScope (topS 15), defBody (topS 15)⟩
abbrev t_check_facts : DefT := ⟨"check_facts", ["candidate", "seen", "index", "fact"], ["candidate"], defScope (topS 16), defBody (topS 16)⟩
abbrev t_law_stream : DefT := ⟨"_law_stream", ["script", "k", "cell", "size", "mixed"], ["script", "k"], defScope (topS 18), defBody (topS 18)⟩
abbrev t_law_draw : DefT := ⟨"_law_draw", ["stream", "count", "result"], ["stream", "count"], defScope (topS 19), defBody (topS 19)⟩
abbrev t_law_choose : DefT := ⟨"_law_choose", ["stream", "items"], ["stream", "items"], defScope (topS 20), defBody (topS 20)⟩
abbrev t_law_names : DefT := ⟨"_law_names", ["stream", "head", "concept_names", "role_names", "sign"], ["stream"], defScope (topS 21), defBody (topS 21)⟩
abbrev t_law_facts_2 : DefT := ⟨"_law_facts", ["stream", "names", "individuals", "most", "result", "turn", "one", "other", "own"], ["stream", "names", "individuals", "most"], defScope (topS 26), defBody (topS 26)⟩
def y_claw_outcome_1 : MS := (.tryx (.seq (.asg (.sl 1) (.op .lst (.cons (.kst (.str "returned")) (.cons (.call 29 [] (.cons (.cap 0) .nil)) .nil))))
    .nil) 4 (some 2) (.seq (.asg 1 (.lst (.cons (.kst (.str "no")) (.cons .fld (.cons (.isi (.own 0)) (.cons (.isi (.ty "ValueError")) .nil)))))) .nil))
def cb_law_outcome : MS := (.seq (.asg (.sl 1) (.kst .non))
    (.seq y_claw_outcome_1
    (.seq (.ret (.nm 1))
    .nil)))
abbrev cf_law_outcome : FDef := ⟨3, [false], true, cb_law_outcome⟩
abbrev t_law_outcome : DefT := ⟨"_law_outcome", ["value", "before", "e"], ["value"], defScope (topS 27), defBody (topS 27)⟩
def cb_law_invalid_ones : MS := (.seq (.asg (.sl 0) (.op .tup (.cons (.kst (.str "p")) (.cons (.kst (.str "a")) .nil))))
    (.seq (.asg (.sl 1) (.op .lst (.cons (.kst .non) (.cons (.kst (.bl true)) (.cons (.kst (.int 1)) (.cons (.kst (.str "concept")) (.cons (.op .tup .nil) (.cons (.op .lst .nil) (.cons (.kst (.dct [])) (.cons (.op .tup (.cons (.kst (.str "concept")) .nil)) (.cons (.op .tup (.cons (.kst (.str "concept")) (.cons (.kst (.str "a")) .nil))) (.cons (.op .tup (.cons (.kst (.str "concept")) (.cons (.kst (.str "a")) (.cons (.cap 0) (.cons (.cap 0) .nil))))) (.cons (.op .tup (.cons (.kst (.str "role")) (.cons (.kst (.str "r")) (.cons (.cap 0) .nil)))) .nil)))))))))))))
    (.seq (.asg (.sl 1) (.op .add (.cons (.nm 1) (.cons (.op .lst (.cons (.op .tup (.cons (.kst (.str "concept")) (.cons (.kst (.str "A")) (.cons (.cap 0) .nil)))) (.cons (.op .tup (.cons (.kst (.str "concept")) (.cons (.kst (.str "")) (.cons (.cap 0) .nil)))) (.cons (.op .tup (.cons (.kst (.str "concept")) (.cons (.kst (.str "a")) (.cons (.kst (.str "p")) .nil)))) (.cons (.op .tup (.cons (.kst (.str "concept")) (.cons (.kst (.str "a")) (.cons (.op .tup (.cons (.kst (.str "p")) (.cons (.kst (.str "A")) .nil))) .nil)))) (.cons (.op .tup (.cons (.kst (.str "concept")) (.cons (.kst (.int 1)) (.cons (.cap 0) .nil)))) .nil)))))) .nil))))
    (.seq (.asg (.sl 1) (.op .add (.cons (.nm 1) (.cons (.op .lst (.cons (.op .tup (.cons (.kst (.str "concept")) (.cons (.kst (.str "a")) (.cons (.op .tup (.cons (.kst (.str "p")) .nil)) .nil)))) (.cons (.op .tup (.cons (.kst (.str "concept")) (.cons (.kst (.str "a")) (.cons (.op .tup (.cons (.kst (.str "p")) (.cons (.kst (.str "a")) (.cons (.kst (.str "b")) .nil)))) .nil)))) (.cons (.op .tup (.cons (.kst (.str "concept")) (.cons (.kst (.str "a")) (.cons (.op .lst (.cons (.kst (.str "p")) (.cons (.kst (.str "a")) .nil))) .nil)))) (.cons (.op .tup (.cons (.kst (.str "concept")) (.cons (.kst (.str "a")) (.cons (.kst (.int 0)) .nil)))) .nil))))) .nil))))
    (.seq (.asg (.sl 1) (.op .add (.cons (.nm 1) (.cons (.op .lst (.cons (.op .tup (.cons (.kst (.str "role")) (.cons (.kst (.str "r")) (.cons (.cap 0) (.cons (.kst (.int 3)) .nil))))) (.cons (.op .tup (.cons (.kst (.str "role")) (.cons (.kst (.str "r")) (.cons (.cap 0) (.cons (.op .tup (.cons (.kst (.str "P")) (.cons (.kst (.str "a")) .nil))) .nil))))) (.cons (.op .tup (.cons (.kst (.str "role")) (.cons (.kst (.str "r1")) (.cons (.cap 0) (.cons (.cap 0) .nil))))) (.cons (.op .tup (.cons (.kst (.str "Tie")) (.cons (.kst (.str "r")) (.cons (.cap 0) (.cons (.cap 0) .nil))))) .nil))))) .nil))))
    (.seq (.asg (.sl 1) (.op .add (.cons (.nm 1) (.cons (.op .lst (.cons (.op .lst (.cons (.kst (.str "concept")) (.cons (.kst (.str "a")) (.cons (.cap 0) .nil)))) (.cons (.op .tup (.cons (.kst (.str "concept")) (.cons (.kst (.str "a")) (.cons (.op .tup (.cons (.kst (.str "p")) (.cons (.kst (.str "")) .nil))) .nil)))) (.cons (.op .tup (.cons (.kst (.str "concept")) (.cons (.kst (.str "a")) (.cons (.op .tup (.cons (.kst (.str "p")) (.cons (.kst (.str "abcdefghi")) .nil))) .nil)))) .nil)))) .nil))))
    (.seq (.expr (.mop .append 1 (.cons (.op .tup (.cons (.kst (.str "concept")) (.cons (.kst (.str "a")) (.cons (.op .tup (.cons (.kst (.int 1)) (.cons (.kst (.str "a")) .nil))) .nil)))) .nil)))
    (.seq (.ret (.op .add (.cons (.nm 1) (.cons (.op .lst (.cons (.op .tup (.cons (.kst (.str "role")) (.cons (.kst (.str "r")) (.cons (.cap 0) (.cons (.op .tup (.cons (.kst (.str "p")) (.cons (.kst (.int 1)) .nil))) .nil))))) (.cons (.op .tup (.cons (.op .tup (.cons (.kst (.str "concept")) .nil)) (.cons (.kst (.str "a")) (.cons (.cap 0) .nil)))) (.cons (.op .tup (.cons (.kst (.str "concept")) (.cons (.op .lst (.cons (.kst (.str "a")) .nil)) (.cons (.cap 0) .nil)))) (.cons (.op .tup (.cons (.kst (.str "out")) (.cons (.kst (.str "r")) (.cons (.cap 0) (.cons (.cap 0) .nil))))) .nil))))) .nil))))
    .nil))))))))
abbrev cf_law_invalid_ones : FDef := ⟨2, [], true, cb_law_invalid_ones⟩
abbrev t_law_invalid_ones : DefT := ⟨"_law_invalid_ones", ["one", "odd"], [], defScope (topS 28), defBody (topS 28)⟩
def l_claw_expected_1_b : MS := (.scrub [2, 3] (.seq (.ife (.or_ (.op .isin (.cons (.nm 3) (.cons (.nm 1) .nil))) (.op .isin (.cons (.nm 3) (.cons (.op (.sl false true) (.cons (.nm 0) (.cons (.nm 2) .nil))) .nil)))) (.seq (.ret (.op .lst (.cons (.kst (.str "no")) (.cons (.cap 2) (.cons (.kst (.bl true)) (.cons (.kst (.bl true)) .nil))))))
    .nil) .nil)
    .nil))
def l_claw_expected_1 : MS := (.for_ (.tup (.cons (.sl 2) (.cons (.sl 3) .nil))) (.op .enum (.cons (.cap 0) .nil)) l_claw_expected_1_b)
def cb_law_expected : MS := (.frz [0] (.seq l_claw_expected_1
    (.seq (.ret (.op .lst (.cons (.kst (.str "returned")) (.cons (.kst .non) .nil))))
    .nil)))
abbrev cf_law_expected : FDef := ⟨4, [false, false], true, cb_law_expected⟩
abbrev t_law_expected : DefT := ⟨"_law_expected", ["items", "odd", "position", "own"], ["items", "odd"], defScope (topS 29), defBody (topS 29)⟩
def l_claw_1_b : MS := (.scrub [2] (.seq (.ife (.op .ne (.cons (.call 356 [] (.cons (.cap 2) .nil)) (.cons (.op .lst (.cons (.kst (.str "no")) (.cons (.kst .non) (.cons (.kst (.bl true)) (.cons (.kst (.bl true)) .nil))))) .nil))) (.seq (.ret (.kst (.bl false)))
    .nil) .nil)
    .nil))
def l_claw_1 : MS := (.for_ (.sl 2) (.op .lst (.cons (.kst .non) (.cons (.kst (.int 5)) (.cons (.kst (.bl true)) (.cons (.kst (.str "facts")) (.cons (.kst (.dct [])) .nil)))))) l_claw_1_b)
def l_claw_2_b : MS := (.scrub [2] (.seq (.ife (.op .ne (.cons (.call 356 [] (.cons (.cap 2) .nil)) (.cons (.op .lst (.cons (.kst (.str "returned")) (.cons (.kst .non) .nil))) .nil))) (.seq (.ret (.kst (.bl false)))
    .nil) .nil)
    .nil))
def l_claw_2 : MS := (.for_ (.sl 2) (.op .lst (.cons (.op .lst .nil) (.cons (.op .tup .nil) (.cons (.op .lst (.cons (.op .tup (.cons (.kst (.str "concept")) (.cons (.kst (.str "abcdefgh")) (.cons (.op .tup (.cons (.kst (.str "abcdefgh")) (.cons (.kst (.str "a1b2c3d4")) .nil))) .nil)))) .nil)) (.cons (.op .lst (.cons (.op .tup (.cons (.kst (.str "role")) (.cons (.kst (.str "r")) (.cons (.op .tup (.cons (.kst (.str "p")) (.cons (.kst (.str "0")) .nil))) (.cons (.op .tup (.cons (.kst (.str "p")) (.cons (.kst (.str "0")) .nil))) .nil))))) .nil)) .nil))))) l_claw_2_b)
def l_claw_3_b : MS := (.scrub [3] (.seq (.ife (.op .ne (.cons (.call 356 [] (.cons (.op .lst (.cons (.cap 3) .nil)) .nil)) (.cons (.op .lst (.cons (.kst (.str "no")) (.cons (.kst (.int 0)) (.cons (.kst (.bl true)) (.cons (.kst (.bl true)) .nil))))) .nil))) (.seq (.ret (.kst (.bl false)))
    .nil) .nil)
    .nil))
def l_claw_3 : MS := (.for_ (.sl 3) (.cap 1) l_claw_3_b)
def l_claw_6_b : MS := (.scrub [10] (.seq (.expr (.mop .insert 9 (.cons (.call 285 [5] (.cons (.nm 5) (.cons (.op .add (.cons (.op .len (.cons (.nm 9) .nil)) (.cons (.kst (.int 1)) .nil))) .nil))) (.cons (.call 279 [5] (.cons (.nm 5) (.cons (.op .add (.cons (.nm 1) (.cons (.nm 9) .nil))) .nil))) .nil))))
    .nil))
def l_claw_6 : MS := (.for_ (.sl 10) (.op .range1 (.cons (.call 285 [5] (.cons (.nm 5) (.cons (.kst (.int 3)) .nil))) .nil)) l_claw_6_b)
def l_claw_5_b : MS := (.scrub [8, 9, 10, 11] (.seq (.asg (.sl 9) (.call 291 [5] (.cons (.nm 5) (.cons (.cap 6) (.cons (.cap 7) (.cons (.kst (.int 8)) .nil))))))
    (.seq l_claw_6
    (.seq (.asg (.sl 11) (.op .repr (.cons (.nm 9) .nil)))
    (.seq (.ife (.op .ne (.cons (.call 356 [] (.cons (.cap 9) .nil)) (.cons (.call 358 [] (.cons (.cap 9) (.cons (.cap 1) .nil))) .nil))) (.seq (.ret (.kst (.bl false)))
    .nil) .nil)
    (.seq (.ife (.op .ne (.cons (.call 356 [] (.cons (.op .toTuple (.cons (.nm 9) .nil)) .nil)) (.cons (.call 358 [] (.cons (.cap 9) (.cons (.cap 1) .nil))) .nil))) (.seq (.ret (.kst (.bl false)))
    .nil) .nil)
    (.seq (.ife (.op .ne (.cons (.op .repr (.cons (.nm 9) .nil)) (.cons (.nm 11) .nil))) (.seq (.ret (.kst (.bl false)))
    .nil) .nil)
    .nil)))))))
def l_claw_5 : MS := (.for_ (.sl 8) (.op .range1 (.cons (.kst (.int 5)) .nil)) l_claw_5_b)
def l_claw_4_b : MS := (.scrub [4, 5, 6, 7, 8, 9, 10, 11] (.seq (.asg (.sl 5) (.call 334 [] (.cons (.cap 0) (.cons (.cap 4) .nil))))
    (.seq (.asg (.sl 6) (.call 304 [5] (.cons (.nm 5) .nil)))
    (.seq (.asg (.sl 7) (.op .lst (.cons (.op .tup (.cons (.kst (.str "p")) (.cons (.kst (.str "a")) .nil))) (.cons (.op .tup (.cons (.kst (.str "q")) (.cons (.kst (.str "a")) .nil))) (.cons (.op .tup (.cons (.kst (.str "p")) (.cons (.kst (.str "1")) .nil))) (.cons (.op .tup (.cons (.kst (.str "p")) (.cons (.kst (.str "zz9")) .nil))) .nil))))))
    (.frz [1, 6, 7] (.seq l_claw_5
    .nil))))))
def l_claw_4 : MS := (.for_ (.sl 4) (.op .range1 (.cons (.op .max2 (.cons (.kst (.int 1)) (.cons (.op .min2 (.cons (.kst (.int 12)) (.cons (.op .len (.cons (.nm 0) .nil)) .nil))) .nil))) .nil)) l_claw_4_b)
def cb_law : MS := (.seq (.asg (.sl 1) (.call 357 [] .nil))
    (.seq l_claw_1
    (.seq l_claw_2
    (.frz [1] (.seq l_claw_3
    (.frz [0, 1] (.seq l_claw_4
    (.seq (.ret (.kst (.bl true)))
    .nil))))))))
abbrev cf_law : FDef := ⟨12, [false], true, cb_law⟩
abbrev t_law : DefT := ⟨"law", ["script", "odd", "value", "own", "k", "stream", "names", "individuals", "turn", "items", "item", "before"], ["script"], defScope (topS 30), defBody (topS 30)⟩
def fsOwn : List FDef := [cf_law_outcome, cf_law_invalid_ones, cf_law_expected, cf_law]
abbrev i_claw_outcome : Nat := 356
abbrev i_claw_invalid_ones : Nat := 357
abbrev i_claw_expected : Nat := 358
abbrev i_claw : Nat := 359
def P : Prog := ⟨gtAll, fsBase ++ fsOwn, xsAll, [0, 10, 1], [0, 4], []⟩
def tdefs : List (Option DefT) := [none, none, none, none, none, none, none, none, none, none, none, none, none, none, none, none, none, none, none, none, none, none, none, none, none, none, none, none, none, some t_check_facts, none, none, none, none, none, none, none, none, none, none, none, none, none, none, none, none, none, none, none, none, none, none, none, none, none, none, none, none, none, none, none, none, none, none, none, none, none, none, none, none, none, none, none, none, none, none, none, none, none, none, none, none, none, none, none, none, none, none, none, none, none, none, none, none, none, none, none, none, none, none, none, some t_has_fact_form, none, none, none, none, none, some t_individuals_of, none, none, none, none, none, none, none, none, none, none, none, none, none, none, none, none, none, none, none, none, none, none, none, some t_is_fact, none, none, none, some t_is_individual, none, none, none, none, none, none, none, none, none, none, none, none, none, none, none, none, some t_is_sequence, none, none, some t_is_string_of, none, none, none, none, none, none, some t_is_value, some t_is_word, none, none, none, none, none, none, none, none, none, none, none, none, none, none, none, none, none, none, none, none, none, none, none, none, none, none, none, none, none, none, none, none, none, none, none, none, none, none, none, none, none, none, none, none, none, none, none, none, none, none, none, none, none, none, none, none, none, none, none, none, none, none, none, none, none, none, none, none, none, none, none, none, none, none, none, none, none, none, none, none, none, none, none, none, none, none, none, none, none, none, none, none, none, none, none, none, none, none, none, none, none, none, none, none, none, none, none, none, none, none, none, none, none, none, none, some t_law_choose, none, none, none, none, none, some t_law_draw, none, none, none, none, none, some t_law_facts_2, none, none, none, none, none, none, none, none, none, none, none, none, some t_law_names, none, none, none, none, none, none, none, none, none, none, none, none, none, none, none, none, none, none, none, none, none, none, none, none, none, none, none, none, none, some t_law_stream, none, none, none, none, none, none, none, none, none, none, none, none, none, none, none, none, none, none, none, none, none, some t_law_outcome, some t_law_invalid_ones, some t_law_expected, some t_law]
def FN : List Str := tdefs.map nameO
/-! ### k12: the law's own part -/
theorem base : Base P := ⟨rfl, rfl, fun i h => List.getElem?_append_left (show i < fsBase.length from Nat.lt_of_lt_of_eq h (by rfl))⟩
def outF (o : Option D) : D := match o with
  | none => .lst [.str "returned", .non]
  | some d => .lst [.str "no", d, .bl true, .bl true]
theorem p_outcome (k : Nat) {v : D} (hv : gk 9 v = true) (hl : ∀ n, lenD v = some n → n < line) : callN shownD P (k + 7) i_claw_outcome [v] = .ok (outF (facR v)) [] := by
  rw [callN_def (fd := cf_law_outcome) rfl rfl]
  have hc := p_check_facts base (k + 1) hv hl
  cases ho : facR v with
  | none =>
    rw [ho] at hc
    simp [cb_law_outcome, y_claw_outcome_1, hc, outF]
  | some d =>
    rw [ho] at hc
    have hh : HS.ev xc_InvalidFacts [d] true (.seq (.asg 1 (.lst (.cons (.kst (.str "no")) (.cons .fld (.cons (.isi (.own 0)) (.cons (.isi (.ty "ValueError")) .nil)))))) .nil) [.fz v, .fz .non, .un] = some (.nx, [.fz v, .ow (.lst [.str "no", d, .bl true, .bl true]), .un]) := rfl
    simp [cb_law_outcome, y_claw_outcome_1, hc, outF, x_InvalidFacts base, hotOk, hotE, hh]
/-- what a list must be: the odd ones are those that are no facts -/
structure It (odd xs : List D) : Prop where
  g : ∀ x ∈ xs, gk 8 x = true
  c : ∀ x ∈ xs, D.lv 8 x = true
  o : ∀ x ∈ xs, inD x odd = !factB x
def envE (xs odd : List D) (a b : Slot) : Env := [.fz (.lst xs), .fz (.lst odd), a, b]
theorem ex_step (k : Nat) {odd xs : List D} (hI : It odd xs) (hodd : (D.lst odd).cmp = true) (i : Nat) (x : D) (hm : x ∈ xs) :
    stepOk (fun _ : Unit => envE xs odd .un .un) (l_claw_expected_1_b.ev shownD P (callN shownD P k) true (envE xs odd (.fz (.int (i : Int))) (.fz x))) (if badF xs i x then .inr (.ok (.ret (outF (some (.int (i : Int))))) (envE xs odd .un .un)) else .inl ()) := by
  have hx := lv_cmp 8 (hI.c x hm) (by decide)
  have e0 := az_in_l x odd hx hodd
  rw [hI.o x hm] at e0
  cases ha : factB x with
  | false =>
    rw [ha] at e0
    simp [l_claw_expected_1_b, envE, badF, ha, e0, outF, stepOk]
  | true =>
    rw [ha] at e0
    have c2 : (D.lst (xs.take i)).cmp = true := cmp_lst 8 (fun y hy => hI.c y (List.mem_of_mem_take hy)) (by decide)
    have e1 := az_in_l x (xs.take i) hx c2
    cases hd : inD x (xs.take i) <;> simp [l_claw_expected_1_b, envE, badF, ha, e0, e1, hd, cutD_take, outF, stepOk]
theorem runF_enumR {σ : Type} {E : σ → Env} {s : σ} {f : σ → D → Sum σ (Out Fl)} {bad : Nat → D → Bool} {R : Nat → Out Fl} (xs : List D) : ∀ (n : Nat), (∀ i x, xs[i]? = some x → f s (.tup [.int ((n + i : Nat) : Int), x]) = if bad (n + i) x then .inr (R (n + i)) else .inl s) →
    runF E f s (enumD n xs) = match firstBad bad n xs with
      | none => .ok .nx (E s)
      | some i => R i := by
  induction xs with
  | nil => intro n _; rfl
  | cons x xs ih =>
    intro n h
    have h0 := h 0 x rfl
    rw [Nat.add_zero] at h0
    have hr : runF E f s (enumD n (x :: xs)) = (match f s (.tup [.int (n : Int), x]) with
      | .inl s' => runF E f s' (enumD (n + 1) xs)
      | .inr o => o) := rfl
    rw [hr, h0]
    cases hb : bad n x with
    | true => simp only [firstBad, hb, if_true]
    | false =>
      simp only [Bool.false_eq_true, if_false, firstBad, hb]
      exact ih (n + 1) fun i y hi => by
        have := h (i + 1) y hi
        rw [show n + (i + 1) = n + 1 + i by omega] at this
        exact this
theorem p_expected (k : Nat) {odd xs : List D} (hI : It odd xs) (hodd : (D.lst odd).cmp = true) : callN shownD P (k + 1) i_claw_expected [.lst xs, .lst odd] = .ok (outF (chkF xs)) [] := by
  rw [callN_def (fd := cf_law_expected) rfl rfl]
  have hlp : l_claw_expected_1.ev shownD P (callN shownD P k) true (envE xs odd .un .un) = runF (fun _ : Unit => envE xs odd .un .un) (fun _ t => match t with
      | .tup [.int j, x] => if badF xs j.toNat x then .inr (.ok (.ret (outF (some (.int j)))) (envE xs odd .un .un)) else .inl ()
      | _ => .inl ()) () (enumD 0 xs) := by
    unfold l_claw_expected_1
    refine sv_for_run (P := P) (x := .lst (enumD 0 xs)) _ _ (fun _ => True) () (by simp [envE]) rfl trivial ?_
    intro t ht _ _
    obtain ⟨i, hi⟩ := List.mem_iff_getElem?.mp ht
    rw [enumD_get] at hi
    cases hxi : xs[i]? with
    | none => rw [hxi] at hi; cases hi
    | some x =>
      rw [hxi] at hi
      cases hi
      refine ⟨envE xs odd (.fz (.int (i : Int))) (.fz x), by simp [envE], ?_, fun _ _ => trivial⟩
      have := ex_step k hI hodd i x (List.mem_of_getElem? hxi)
      simpa only [Nat.zero_add, Int.toNat_natCast] using this
  have hr := runF_enumR (E := fun _ : Unit => envE xs odd .un .un) (s := ()) (bad := badF xs) (R := fun i => .ok (.ret (outF (some (.int i)))) (envE xs odd .un .un)) (f := (fun _ t => match t with
      | .tup [.int j, x] => if badF xs j.toNat x then .inr (.ok (.ret (outF (some (.int j)))) (envE xs odd .un .un)) else .inl ()
      | _ => .inl ())) xs 0 (fun i x _ => by simp)
  unfold chkF
  cases hf : firstBad (badF xs) 0 xs with
  | none =>
    rw [hf] at hr
    rw [hr] at hlp
    unfold envE at hlp
    simp [cb_law_expected, hlp, outF]
  | some i =>
    rw [hf] at hr
    rw [hr] at hlp
    unfold envE at hlp
    simp [cb_law_expected, hlp]
def oddL : List D := match callN shownD P 1 i_claw_invalid_ones [] with
  | .ok (.lst l) _ => l
  | _ => []
theorem p_invalid (k : Nat) : callN shownD P (k + 1) i_claw_invalid_ones [] = .ok (.lst oddL) [] := rfl
theorem odd_facts : (oddL.all fun x => !factB x && (gk 8 x && (D.lv 8 x && sd 2 x))) = true ∧ (oddL.all fun x => inD x oddL) = true ∧ oddL.length = 32 := by decide +kernel
theorem odd_cmp : (D.lst oddL).cmp = true := cmp_lst 8 (fun x hx => by
  have := List.all_eq_true.mp odd_facts.1 x hx
  simp only [Bool.and_eq_true] at this
  exact this.2.2.1) (by decide)
/-- an item: a fact or an odd one -/
def IsIt (x : D) : Prop := factB x = true ∨ x ∈ oddL
theorem IsIt.all {x : D} (h : IsIt x) : gk 8 x = true ∧ D.lv 8 x = true ∧ sd 2 x = true ∧ inD x oddL = !factB x := by
  rcases h with h | h
  · refine ⟨(fact_gk 6 h).1, (fact_gk 6 h).2, fact_sd 0 h, ?_⟩
    rw [h, Bool.not_true, ← Bool.not_eq_true, inD_fact h]
    intro hx
    have := List.all_eq_true.mp odd_facts.1 x hx
    rw [h] at this
    cases this
  · have h1 := List.all_eq_true.mp odd_facts.1 x h
    have h2 := List.all_eq_true.mp odd_facts.2.1 x h
    simp only [Bool.and_eq_true, Bool.not_eq_true'] at h1
    exact ⟨h1.2.1, h1.2.2.1, h1.2.2.2, by rw [h2, h1.1]; rfl⟩
theorem It.of {xs : List D} (h : ∀ x ∈ xs, IsIt x) : It oddL xs := ⟨fun x hx => (h x hx).all.1, fun x hx => (h x hx).all.2.1, fun x hx => (h x hx).all.2.2.2⟩
theorem chkF_k (xs : List D) : chkF xs = none ∨ ∃ i : Int, chkF xs = some (.int i) := by
  unfold chkF
  cases firstBad (badF xs) 0 xs with
  | none => exact Or.inl rfl
  | some i => exact Or.inr ⟨i, rfl⟩
theorem ne_out (xs : List D) : Op.ap shownD .ne [outF (chkF xs), outF (chkF xs)] = some (.bl false) := by
  rcases chkF_k xs with h | ⟨i, h⟩ <;> rw [h] <;> simp [outF, az_ne]
/-- what the law asks of a list of items -/
structure Ask (k : Nat) (xs : List D) : Prop where
  o : callN shownD P (k + 7) i_claw_outcome [.lst xs] = .ok (outF (chkF xs)) []
  t : callN shownD P (k + 7) i_claw_outcome [.tup xs] = .ok (outF (chkF xs)) []
  e : callN shownD P (k + 7) i_claw_expected [.lst xs, .lst oddL] = .ok (outF (chkF xs)) []
theorem ask (k : Nat) {xs : List D} (h : ∀ x ∈ xs, IsIt x) (hl : xs.length < line) : Ask k xs := by
  have g : ∀ x ∈ xs, gk 8 x = true := fun x hx => (h x hx).all.1
  exact ⟨p_outcome k (v := .lst xs) (List.all_eq_true.mpr g) (fun n e => by cases e; exact hl), p_outcome k (v := .tup xs) (List.all_eq_true.mpr g) (fun n e => by cases e; exact hl), p_expected (k + 6) (It.of h) odd_cmp⟩
/-! the law's loops -/
theorem cmp_dct0 : (D.dct []).cmp = true := (rfl)
def env1 (S : D) : Env := [.fz S, .ow (.lst oddL), .un, .un, .un, .un, .un, .un, .un, .un, .un, .un]
theorem loop1 (k : Nat) (S : D) : l_claw_1.ev shownD P (callN shownD P (k + 7)) true (env1 S) = .ok .nx (env1 S) := by
  unfold l_claw_1
  refine (sv_for_fold (P := P) (x := .lst [.non, .int 5, .bl true, .str "facts", .dct []]) (fun _ : Unit => env1 S) (fun _ _ => ()) (fun _ => True) () (by simp) rfl trivial ?_).1
  intro x hx _ _
  have key : ∀ v : D, gk 9 v = true → facR v = some .non → (∀ n, lenD v = some n → n < line) → callN shownD P (k + 7) i_claw_outcome [v] = .ok (.lst [.str "no", .non, .bl true, .bl true]) [] := by
    intro v hv hw hl
    rw [p_outcome k hv hl, hw]
    rfl
  simp only [List.mem_cons, List.not_mem_nil, or_false] at hx
  rcases hx with rfl | rfl | rfl | rfl | rfl
  · refine ⟨_, rfl, Or.inl ?_, trivial⟩
    have h := key .non rfl rfl (fun n e => by cases e)
    simp [l_claw_1_b, env1, h, az_eq, az_ne]
  · refine ⟨_, rfl, Or.inl ?_, trivial⟩
    have h := key (.int 5) rfl rfl (fun n e => by cases e)
    simp [l_claw_1_b, env1, h, az_eq, az_ne]
  · refine ⟨_, rfl, Or.inl ?_, trivial⟩
    have h := key (.bl true) rfl rfl (fun n e => by cases e)
    simp [l_claw_1_b, env1, h, az_eq, az_ne]
  · refine ⟨_, rfl, Or.inl ?_, trivial⟩
    have h := key (.str "facts") (by decide) rfl (fun n e => by cases e; decide)
    simp [l_claw_1_b, env1, h, az_eq, az_ne]
  · refine ⟨_, rfl, Or.inl ?_, trivial⟩
    have h := key (.dct []) rfl rfl (fun n e => by cases e; decide)
    simp [l_claw_1_b, env1, h, az_eq, az_ne, cmp_dct0]
theorem loop2 (k : Nat) (S : D) : l_claw_2.ev shownD P (callN shownD P (k + 7)) true (env1 S) = .ok .nx (env1 S) := by
  unfold l_claw_2
  refine (sv_for_fold (P := P) (x := .lst [.lst [], .tup [], .lst [.tup [.str "concept", .str "abcdefgh", .tup [.str "abcdefgh", .str "a1b2c3d4"]]], .lst [.tup [.str "role", .str "r", .tup [.str "p", .str "0"], .tup [.str "p", .str "0"]]]]) (fun _ : Unit => env1 S) (fun _ _ => ()) (fun _ => True) () (by simp) rfl trivial ?_).1
  intro x hx _ _
  have key : ∀ v : D, gk 9 v = true → facR v = none → (∀ n, lenD v = some n → n < line) → callN shownD P (k + 7) i_claw_outcome [v] = .ok (.lst [.str "returned", .non]) [] := by
    intro v hv hw hl
    rw [p_outcome k hv hl, hw]
    rfl
  simp only [List.mem_cons, List.not_mem_nil, or_false] at hx
  rcases hx with rfl | rfl | rfl | rfl
  · refine ⟨_, rfl, Or.inl ?_, trivial⟩
    have h := key (.lst []) rfl rfl (fun n e => by cases e; decide)
    simp [l_claw_2_b, env1, h, az_eq, az_ne]
  · refine ⟨_, rfl, Or.inl ?_, trivial⟩
    have h := key (.tup []) rfl rfl (fun n e => by cases e; decide)
    simp [l_claw_2_b, env1, h, az_eq, az_ne]
  · refine ⟨_, rfl, Or.inl ?_, trivial⟩
    have h := key (.lst [.tup [.str "concept", .str "abcdefgh", .tup [.str "abcdefgh", .str "a1b2c3d4"]]]) (by decide +kernel) (by
      have : (facR (.lst [.tup [.str "concept", .str "abcdefgh", .tup [.str "abcdefgh", .str "a1b2c3d4"]]])).isNone = true := by decide +kernel
      exact Option.isNone_iff_eq_none.mp this) (fun n e => by cases e; decide)
    simp [l_claw_2_b, env1, h, az_eq, az_ne]
  · refine ⟨_, rfl, Or.inl ?_, trivial⟩
    have h := key (.lst [.tup [.str "role", .str "r", .tup [.str "p", .str "0"], .tup [.str "p", .str "0"]]]) (by decide +kernel) (by
      have : (facR (.lst [.tup [.str "role", .str "r", .tup [.str "p", .str "0"], .tup [.str "p", .str "0"]]])).isNone = true := by decide +kernel
      exact Option.isNone_iff_eq_none.mp this) (fun n e => by cases e; decide)
    simp [l_claw_2_b, env1, h, az_eq, az_ne]
def env3 (S : D) : Env := [.fz S, .fz (.lst oddL), .un, .un, .un, .un, .un, .un, .un, .un, .un, .un]
theorem loop3 (k : Nat) (S : D) : l_claw_3.ev shownD P (callN shownD P (k + 7)) true (env3 S) = .ok .nx (env3 S) := by
  unfold l_claw_3
  refine (sv_for_fold (P := P) (x := .lst oddL) (fun _ : Unit => env3 S) (fun _ _ => ()) (fun _ => True) () (by simp [env3]) rfl trivial ?_).1
  intro x hx _ _
  refine ⟨_, rfl, Or.inl ?_, trivial⟩
  have hI : IsIt x := Or.inr hx
  have ho := (ask k (xs := [x]) (fun y hy => by simp only [List.mem_singleton] at hy; rw [hy]; exact hI) (show 1 < line by decide)).o
  have hn : factB x = false := by
    have h1 := List.all_eq_true.mp odd_facts.1 x hx
    simp only [Bool.and_eq_true, Bool.not_eq_true'] at h1
    exact h1.1
  have hc : chkF [x] = some (.int 0) := by
    simp [chkF, firstBad, badF, hn]
  rw [hc] at ho
  simp [l_claw_3_b, env3, ho, outF, az_eq, az_ne]
/-- slots within the turns -/
def INDS : List D := [.tup [.str "p", .str "a"], .tup [.str "q", .str "a"], .tup [.str "p", .str "1"], .tup [.str "p", .str "zz9"]]
theorem inds_ok : ∀ a ∈ INDS, indB a = true := List.all_eq_true.mp (by decide +kernel)
def env4 (S K N T : D) (s : St) (x9 x10 x11 : Slot) : Env := [.fz S, .fz (.lst oddL), .un, .un, .fz K, .ow (stD s), .fz N, .fz (.lst INDS), .fz T, x9, x10, x11]
theorem insert_ok (k : Nat) (S K N T : D) (s : St) {xs : List D} (hx : ∀ x ∈ xs, IsIt x) (hl : xs.length ≤ 20) (x : Slot) : ∃ ys s', l_claw_6_b.ev shownD P (callN shownD P (k + 4)) true (env4 S K N T s (.ow (.lst xs)) x .un) = .ok .nx (env4 S K N T s' (.ow (.lst ys)) .un .un) ∧ (∀ y ∈ ys, IsIt y) ∧ ys.length = xs.length + 1 := by
  have hd := p_draw base (k + 3) s ((xs.length : Int) + 1) (by omega) (by omega)
  have l1 := drv_lo s (n := (xs.length : Int) + 1) (by omega)
  have l2 := drv_hi s (n := (xs.length : Int) + 1) (by omega)
  generalize drv s ((xs.length : Int) + 1) = i at hd l1 l2
  generalize drs s ((xs.length : Int) + 1) = s1 at hd
  have ho : oddL.length = 32 := odd_facts.2.2
  have hne : oddL ++ xs ≠ [] := fun e => by
    have := congrArg List.length e
    rw [List.length_append, ho] at this
    simp at this
  have hc := p_choose base (k + 2) s1 (oddL ++ xs) hne (by rw [List.length_append, ho]; omega)
  have hm := chv_mem s1 hne
  have hi := az_add_l oddL xs (by rw [ho]; exact Nat.le_trans (Nat.add_le_add_left hl 32) (by decide))
  have hmop := mop_insert xs i (chv s1 (oddL ++ xs)) ⟨Nat.lt_of_le_of_lt hl (by decide), l1, by omega⟩
  have hI : IsIt (chv s1 (oddL ++ xs)) := by
    rcases List.mem_append.mp hm with h | h
    · exact Or.inr h
    · exact hx _ h
  generalize chv s1 (oddL ++ xs) = v at hc hmop hI
  refine ⟨xs.take i.toNat ++ [v] ++ xs.drop i.toNat, drs s1 (oddL ++ xs).length, ?_, ?_, ?_⟩
  · simp only [List.length_append, ho] at hc
    simp [l_claw_6_b, env4, hd, hc, hi, hmop, ho]
  · intro y hy
    simp only [List.append_assoc, List.mem_append, List.mem_cons, List.not_mem_nil, or_false] at hy
    rcases hy with hy | rfl | hy
    · exact hx y (List.mem_of_mem_take hy)
    · exact hI
    · exact hx y (List.mem_of_mem_drop hy)
  · simp only [List.length_append, List.length_take, List.length_cons, List.length_nil, List.length_drop]
    omega
theorem turn_ok (k : Nat) {N : D} {C R : List D} (hn : NamesOk N C R) (S K T : D) (s : St) : ∃ s', l_claw_5_b.ev shownD P (callN shownD P (k + 7)) true (env4 S K N T s .un .un .un) = .ok .nx ([.fz S, .fz (.lst oddL), .un, .un, .fz K, .ow (stD s'), .fz N, .fz (.lst INDS), .un, .un, .un, .un]) := by
  obtain ⟨ys, s1, h1, hy, hl⟩ := p_law_facts_2 base (k + 4) s hn inds_ok (by simp [INDS]) (by decide) 8 (by decide) (by decide)
  have hl : ys.length ≤ 8 := hl
  have hd := p_draw base (k + 6) s1 3 (by decide) (by decide)
  have l1 := drv_lo s1 (n := 3) (by decide)
  have l2 := drv_hi s1 (n := 3) (by decide)
  generalize drv s1 3 = i at hd l1 l2
  generalize drs s1 3 = s2 at hd
  have hr : rngOk i = true := by unfold rngOk; rw [decide_eq_true (by omega), decide_eq_true (by omega)]; rfl
  have h5 : ∃ r', l_claw_6.ev shownD P (callN shownD P (k + 7)) true (env4 S K N T s1 (.ow (.lst ys)) .un .un) = .ok .nx r' ∧ ∃ s xs x, r' = env4 S K N T s (.ow (.lst xs)) x .un ∧ (∀ x ∈ xs, IsIt x) ∧ xs.length = (iota 0 i.toNat).length + ys.length := by
    unfold l_claw_6
    refine sv_for_invN (P := P) (x := .lst (iota 0 i.toNat)) (xs := iota 0 i.toNat) (r1 := env4 S K N T s2 (.ow (.lst ys)) .un .un) (fun n r' => ∃ s xs x, r' = env4 S K N T s (.ow (.lst xs)) x .un ∧ (∀ x ∈ xs, IsIt x) ∧ xs.length = n + ys.length) (by simp [env4, hd, hr]) rfl ⟨s2, ys, .un, rfl, fun x hx => Or.inl (hy x hx), by omega⟩ ?_
    rintro x hx n r hn ⟨s, xs, x12, rfl, hI, hq⟩
    rw [iota_length] at hn
    obtain ⟨zs, s', g1, g2, g3⟩ := insert_ok (k + 3) S K N T s hI (by omega) (.fz x)
    exact ⟨env4 S K N T s (.ow (.lst xs)) (.fz x) .un, _, by simp [env4], g1, s', zs, .un, rfl, g2, by omega⟩
  obtain ⟨r', h5, s3, xs, x12, rfl, hI, hq⟩ := h5
  rw [iota_length] at hq
  unfold env4 INDS at h5
  unfold INDS at h1
  obtain ⟨q1, q2, q3⟩ := ask k hI (Nat.lt_of_le_of_lt (show xs.length ≤ 100 by omega) (by decide))
  have hsd : sd 3 (.lst xs) = true := by
    rw [sd_lst, Bool.and_eq_true]
    exact ⟨decide_eq_true (by omega), List.all_eq_true.mpr fun x hx => (hI x hx).all.2.2.1⟩
  obtain ⟨z, hz, _⟩ := sd_repr hsd
  refine ⟨s3, ?_⟩
  simp [l_claw_5_b, env4, INDS, h1, h5, hz, q1, q2, q3, ne_out, at_law_facts_2 base]
theorem turns_ok (k : Nat) {N : D} {C R : List D} (hn : NamesOk N C R) (S K : D) (s : St) : ∃ s', l_claw_5.ev shownD P (callN shownD P (k + 7)) true ([.fz S, .fz (.lst oddL), .un, .un, .fz K, .ow (stD s), .fz N, .fz (.lst INDS), .un, .un, .un, .un]) = .ok .nx ([.fz S, .fz (.lst oddL), .un, .un, .fz K, .ow (stD s'), .fz N, .fz (.lst INDS), .un, .un, .un, .un]) := by
  have hr : rngOk 5 = true := by decide
  unfold l_claw_5
  obtain ⟨r', h, s', rfl⟩ := sv_for_inv (P := P) (cf := callN shownD P (k + 7)) (rf := true) (tg := .sl 8) (it := .op .range1 (.cons (.kst (.int 5)) .nil)) (body := l_claw_5_b) (x := .lst (iota 0 5)) (xs := iota 0 5) (r := [.fz S, .fz (.lst oddL), .un, .un, .fz K, .ow (stD s), .fz N, .fz (.lst INDS), .un, .un, .un, .un]) (r1 := [.fz S, .fz (.lst oddL), .un, .un, .fz K, .ow (stD s), .fz N, .fz (.lst INDS), .un, .un, .un, .un])
    (fun r => ∃ s, r = [.fz S, .fz (.lst oddL), .un, .un, .fz K, .ow (stD s), .fz N, .fz (.lst INDS), .un, .un, .un, .un]) (by simp [hr]) rfl ⟨s, rfl⟩ (by
      rintro x _ r ⟨s, rfl⟩
      obtain ⟨s', h⟩ := turn_ok k hn S K x s
      exact ⟨env4 S K N x s .un .un .un, _, by simp [env4], h, s', rfl⟩)
  exact ⟨s', h⟩
theorem law_good (ns : List Int) (hl : ns.length ≤ 63) : ∃ outs, callN shownD P 20 i_claw [.lst (ns.map .int)] = .ok (.bl true) outs := by
  refine ⟨[], ?_⟩
  show callN shownD P (19 + 1) i_claw _ = _
  rw [callN_def (fd := cf_law) rfl rfl]
  have h1 := loop1 12 (.lst (ns.map .int))
  have h2 := loop2 12 (.lst (ns.map .int))
  unfold env1 at h1 h2
  have h3 := loop3 12 (.lst (ns.map .int))
  unfold env3 at h3
  have h0 := p_invalid 18
  have h4 : l_claw_4.ev shownD P (callN shownD P 19) true [.fz (.lst (ns.map .int)), .fz (.lst oddL), .un, .un, .un, .un, .un, .un, .un, .un, .un, .un] = .ok .nx [.fz (.lst (ns.map .int)), .fz (.lst oddL), .un, .un, .un, .un, .un, .un, .un, .un, .un, .un] := by
    unfold l_claw_4
    generalize hm : (if (if (ns.length : Int) < 12 then (ns.length : Int) else 12) > 1 then (if (ns.length : Int) < 12 then (ns.length : Int) else 12) else 1) = m
    have hm0 : 0 ≤ m := by split at hm <;> omega
    have hm1 : m ≤ 12 := by split at hm <;> (try split at hm) <;> omega
    have hr : rngOk m = true := by unfold rngOk; rw [decide_eq_true (by omega), decide_eq_true (by omega)]; rfl
    refine (sv_for_fold (P := P) (x := .lst (iota 0 m.toNat)) (xs := iota 0 m.toNat) (fun _ : Unit => [.fz (.lst (ns.map .int)), .fz (.lst oddL), .un, .un, .un, .un, .un, .un, .un, .un, .un, .un]) (fun _ _ => ()) (fun _ => True) () ?_ rfl trivial ?_).1
    · simp only [gt_iff_lt] at hm
      simp [hm, hr]
    · intro x hx _ _
      obtain ⟨j, rfl, j0, j1⟩ := iota_mem hx
      obtain ⟨s, hs⟩ := p_stream base 18 ns j j0 (by omega)
      obtain ⟨N, s', C, R, hN, hok⟩ := p_names base 17 s
      obtain ⟨s2, ht⟩ := turns_ok 12 hok (.lst (ns.map .int)) (.int j) s'
      have hmk : mkSlot N = .fz N := by rw [hok.1]; rfl
      unfold INDS at ht
      refine ⟨_, rfl, Or.inl ?_, trivial⟩
      simp [l_claw_4_b, hs, hN, ht, at_law_stream base, at_law_names base, hmk]
  have a1 : P.fs[357]? = some cf_law_invalid_ones := rfl
  simp [cb_law, h1, h2, h3, h0, h4, a1]
theorem top_mk {w : World} {K : PySem.W.Frag} {h : Heap} {mg : Str → Option Value} (X : K.In h) (G : h.Ns mainGlobals mg)
    {f0 : Addr} {oc0 kV0 dc0 pm0 cd0 ct0 : Value} {od0 an0 : Option Addr} {sl0 : Array (Option Value)}
    (a0 : PySem.W.nsIn K mainGlobals "is_string_of" = some (some (.ref f0))) (l0 : K.lookup f0 = some ⟨oc0, od0, .func (PySem.W.fnOf "is_string_of" "is_string_of" (defArgs (topS 7)) (defBody (topS 7)) (defScope (topS 7)) .none kV0 dc0 pm0 an0 cd0 ct0), sl0⟩) (c0 : PySem.W.codeIn K cd0 "is_string_of" = true) (k0 : PySem.W.keepIn K (.ref f0) = true)
    {f1 : Addr} {oc1 kV1 dc1 pm1 cd1 ct1 : Value} {od1 an1 : Option Addr} {sl1 : Array (Option Value)}
    (a1 : PySem.W.nsIn K mainGlobals "is_word" = some (some (.ref f1))) (l1 : K.lookup f1 = some ⟨oc1, od1, .func (PySem.W.fnOf "is_word" "is_word" (defArgs (topS 8)) (defBody (topS 8)) (defScope (topS 8)) .none kV1 dc1 pm1 an1 cd1 ct1), sl1⟩) (c1 : PySem.W.codeIn K cd1 "is_word" = true) (k1 : PySem.W.keepIn K (.ref f1) = true)
    {f2 : Addr} {oc2 kV2 dc2 pm2 cd2 ct2 : Value} {od2 an2 : Option Addr} {sl2 : Array (Option Value)}
    (a2 : PySem.W.nsIn K mainGlobals "is_value" = some (some (.ref f2))) (l2 : K.lookup f2 = some ⟨oc2, od2, .func (PySem.W.fnOf "is_value" "is_value" (defArgs (topS 9)) (defBody (topS 9)) (defScope (topS 9)) .none kV2 dc2 pm2 an2 cd2 ct2), sl2⟩) (c2 : PySem.W.codeIn K cd2 "is_value" = true) (k2 : PySem.W.keepIn K (.ref f2) = true)
    {f3 : Addr} {oc3 kV3 dc3 pm3 cd3 ct3 : Value} {od3 an3 : Option Addr} {sl3 : Array (Option Value)}
    (a3 : PySem.W.nsIn K mainGlobals "is_sequence" = some (some (.ref f3))) (l3 : K.lookup f3 = some ⟨oc3, od3, .func (PySem.W.fnOf "is_sequence" "is_sequence" (defArgs (topS 10)) (defBody (topS 10)) (defScope (topS 10)) .none kV3 dc3 pm3 an3 cd3 ct3), sl3⟩) (c3 : PySem.W.codeIn K cd3 "is_sequence" = true) (k3 : PySem.W.keepIn K (.ref f3) = true)
    {f4 : Addr} {oc4 kV4 dc4 pm4 cd4 ct4 : Value} {od4 an4 : Option Addr} {sl4 : Array (Option Value)}
    (a4 : PySem.W.nsIn K mainGlobals "is_individual" = some (some (.ref f4))) (l4 : K.lookup f4 = some ⟨oc4, od4, .func (PySem.W.fnOf "is_individual" "is_individual" (defArgs (topS 12)) (defBody (topS 12)) (defScope (topS 12)) .none kV4 dc4 pm4 an4 cd4 ct4), sl4⟩) (c4 : PySem.W.codeIn K cd4 "is_individual" = true) (k4 : PySem.W.keepIn K (.ref f4) = true)
    {f5 : Addr} {oc5 kV5 dc5 pm5 cd5 ct5 : Value} {od5 an5 : Option Addr} {sl5 : Array (Option Value)}
    (a5 : PySem.W.nsIn K mainGlobals "individuals_of" = some (some (.ref f5))) (l5 : K.lookup f5 = some ⟨oc5, od5, .func (PySem.W.fnOf "individuals_of" "individuals_of" (defArgs (topS 13)) (defBody (topS 13)) (defScope (topS 13)) .none kV5 dc5 pm5 an5 cd5 ct5), sl5⟩) (c5 : PySem.W.codeIn K cd5 "individuals_of" = true) (k5 : PySem.W.keepIn K (.ref f5) = true)
    {f6 : Addr} {oc6 kV6 dc6 pm6 cd6 ct6 : Value} {od6 an6 : Option Addr} {sl6 : Array (Option Value)}
    (a6 : PySem.W.nsIn K mainGlobals "has_fact_form" = some (some (.ref f6))) (l6 : K.lookup f6 = some ⟨oc6, od6, .func (PySem.W.fnOf "has_fact_form" "has_fact_form" (defArgs (topS 14)) (defBody (topS 14)) (defScope (topS 14)) .none kV6 dc6 pm6 an6 cd6 ct6), sl6⟩) (c6 : PySem.W.codeIn K cd6 "has_fact_form" = true) (k6 : PySem.W.keepIn K (.ref f6) = true)
    {f7 : Addr} {oc7 kV7 dc7 pm7 cd7 ct7 : Value} {od7 an7 : Option Addr} {sl7 : Array (Option Value)}
    (a7 : PySem.W.nsIn K mainGlobals "is_fact" = some (some (.ref f7))) (l7 : K.lookup f7 = some ⟨oc7, od7, .func (PySem.W.fnOf "is_fact" "is_fact" (defArgs (topS 15)) (defBody (topS 15)) (defScope (topS 15)) .none kV7 dc7 pm7 an7 cd7 ct7), sl7⟩) (c7 : PySem.W.codeIn K cd7 "is_fact" = true) (k7 : PySem.W.keepIn K (.ref f7) = true)
    {f8 : Addr} {oc8 kV8 dc8 pm8 cd8 ct8 : Value} {od8 an8 : Option Addr} {sl8 : Array (Option Value)}
    (a8 : PySem.W.nsIn K mainGlobals "check_facts" = some (some (.ref f8))) (l8 : K.lookup f8 = some ⟨oc8, od8, .func (PySem.W.fnOf "check_facts" "check_facts" (defArgs (topS 16)) (defBody (topS 16)) (defScope (topS 16)) .none kV8 dc8 pm8 an8 cd8 ct8), sl8⟩) (c8 : PySem.W.codeIn K cd8 "check_facts" = true) (k8 : PySem.W.keepIn K (.ref f8) = true)
    {f9 : Addr} {oc9 kV9 dc9 pm9 cd9 ct9 : Value} {od9 an9 : Option Addr} {sl9 : Array (Option Value)}
    (a9 : PySem.W.nsIn K mainGlobals "_law_stream" = some (some (.ref f9))) (l9 : K.lookup f9 = some ⟨oc9, od9, .func (PySem.W.fnOf "_law_stream" "_law_stream" (defArgs (topS 18)) (defBody (topS 18)) (defScope (topS 18)) .none kV9 dc9 pm9 an9 cd9 ct9), sl9⟩) (c9 : PySem.W.codeIn K cd9 "_law_stream" = true) (k9 : PySem.W.keepIn K (.ref f9) = true)
    {f10 : Addr} {oc10 kV10 dc10 pm10 cd10 ct10 : Value} {od10 an10 : Option Addr} {sl10 : Array (Option Value)}
    (a10 : PySem.W.nsIn K mainGlobals "_law_draw" = some (some (.ref f10))) (l10 : K.lookup f10 = some ⟨oc10, od10, .func (PySem.W.fnOf "_law_draw" "_law_draw" (defArgs (topS 19)) (defBody (topS 19)) (defScope (topS 19)) .none kV10 dc10 pm10 an10 cd10 ct10), sl10⟩) (c10 : PySem.W.codeIn K cd10 "_law_draw" = true) (k10 : PySem.W.keepIn K (.ref f10) = true)
    {f11 : Addr} {oc11 kV11 dc11 pm11 cd11 ct11 : Value} {od11 an11 : Option Addr} {sl11 : Array (Option Value)}
    (a11 : PySem.W.nsIn K mainGlobals "_law_choose" = some (some (.ref f11))) (l11 : K.lookup f11 = some ⟨oc11, od11, .func (PySem.W.fnOf "_law_choose" "_law_choose" (defArgs (topS 20)) (defBody (topS 20)) (defScope (topS 20)) .none kV11 dc11 pm11 an11 cd11 ct11), sl11⟩) (c11 : PySem.W.codeIn K cd11 "_law_choose" = true) (k11 : PySem.W.keepIn K (.ref f11) = true)
    {f12 : Addr} {oc12 kV12 dc12 pm12 cd12 ct12 : Value} {od12 an12 : Option Addr} {sl12 : Array (Option Value)}
    (a12 : PySem.W.nsIn K mainGlobals "_law_names" = some (some (.ref f12))) (l12 : K.lookup f12 = some ⟨oc12, od12, .func (PySem.W.fnOf "_law_names" "_law_names" (defArgs (topS 21)) (defBody (topS 21)) (defScope (topS 21)) .none kV12 dc12 pm12 an12 cd12 ct12), sl12⟩) (c12 : PySem.W.codeIn K cd12 "_law_names" = true) (k12 : PySem.W.keepIn K (.ref f12) = true)
    {f13 : Addr} {oc13 kV13 dc13 pm13 cd13 ct13 : Value} {od13 an13 : Option Addr} {sl13 : Array (Option Value)}
    (a13 : PySem.W.nsIn K mainGlobals "_law_facts" = some (some (.ref f13))) (l13 : K.lookup f13 = some ⟨oc13, od13, .func (PySem.W.fnOf "_law_facts" "_law_facts" (defArgs (topS 26)) (defBody (topS 26)) (defScope (topS 26)) .none kV13 dc13 pm13 an13 cd13 ct13), sl13⟩) (c13 : PySem.W.codeIn K cd13 "_law_facts" = true) (k13 : PySem.W.keepIn K (.ref f13) = true)
    {f14 : Addr} {oc14 kV14 dc14 pm14 cd14 ct14 : Value} {od14 an14 : Option Addr} {sl14 : Array (Option Value)}
    (a14 : PySem.W.nsIn K mainGlobals "_law_outcome" = some (some (.ref f14))) (l14 : K.lookup f14 = some ⟨oc14, od14, .func (PySem.W.fnOf "_law_outcome" "_law_outcome" (defArgs (topS 27)) (defBody (topS 27)) (defScope (topS 27)) .none kV14 dc14 pm14 an14 cd14 ct14), sl14⟩) (c14 : PySem.W.codeIn K cd14 "_law_outcome" = true) (k14 : PySem.W.keepIn K (.ref f14) = true)
    {f15 : Addr} {oc15 kV15 dc15 pm15 cd15 ct15 : Value} {od15 an15 : Option Addr} {sl15 : Array (Option Value)}
    (a15 : PySem.W.nsIn K mainGlobals "_law_invalid_ones" = some (some (.ref f15))) (l15 : K.lookup f15 = some ⟨oc15, od15, .func (PySem.W.fnOf "_law_invalid_ones" "_law_invalid_ones" (defArgs (topS 28)) (defBody (topS 28)) (defScope (topS 28)) .none kV15 dc15 pm15 an15 cd15 ct15), sl15⟩) (c15 : PySem.W.codeIn K cd15 "_law_invalid_ones" = true) (k15 : PySem.W.keepIn K (.ref f15) = true)
    {f16 : Addr} {oc16 kV16 dc16 pm16 cd16 ct16 : Value} {od16 an16 : Option Addr} {sl16 : Array (Option Value)}
    (a16 : PySem.W.nsIn K mainGlobals "_law_expected" = some (some (.ref f16))) (l16 : K.lookup f16 = some ⟨oc16, od16, .func (PySem.W.fnOf "_law_expected" "_law_expected" (defArgs (topS 29)) (defBody (topS 29)) (defScope (topS 29)) .none kV16 dc16 pm16 an16 cd16 ct16), sl16⟩) (c16 : PySem.W.codeIn K cd16 "_law_expected" = true) (k16 : PySem.W.keepIn K (.ref f16) = true)
    {f17 : Addr} {oc17 kV17 dc17 pm17 cd17 ct17 : Value} {od17 an17 : Option Addr} {sl17 : Array (Option Value)}
    (a17 : PySem.W.nsIn K mainGlobals "law" = some (some (.ref f17))) (l17 : K.lookup f17 = some ⟨oc17, od17, .func (PySem.W.fnOf "law" "law" (defArgs (topS 30)) (defBody (topS 30)) (defScope (topS 30)) .none kV17 dc17 pm17 an17 cd17 ct17), sl17⟩) (c17 : PySem.W.codeIn K cd17 "law" = true) (k17 : PySem.W.keepIn K (.ref f17) = true)
    (z0 : PySem.W.nsIn K mainGlobals "isinstance" = some none)
    (z1 : PySem.W.nsIn K mainGlobals "str" = some none)
    (z2 : PySem.W.nsIn K mainGlobals "tuple" = some none)
    (z3 : PySem.W.nsIn K mainGlobals "list" = some none)
    (z4 : PySem.W.nsIn K mainGlobals "int" = some none)
    (z5 : PySem.W.nsIn K mainGlobals "bool" = some none)
    (z6 : PySem.W.nsIn K mainGlobals "dict" = some none)
    (z7 : PySem.W.nsIn K mainGlobals "len" = some none)
    (z8 : PySem.W.nsIn K mainGlobals "all" = some none)
    (z9 : PySem.W.nsIn K mainGlobals "any" = some none)
    (z10 : PySem.W.nsIn K mainGlobals "max" = some none)
    (z11 : PySem.W.nsIn K mainGlobals "min" = some none)
    (z12 : PySem.W.nsIn K mainGlobals "repr" = some none)
    (z13 : PySem.W.nsIn K mainGlobals "range" = some none)
    (z14 : PySem.W.nsIn K mainGlobals "enumerate" = some none)
    (z15 : PySem.W.nsIn K mainGlobals "sorted" = some none)
    (z16 : PySem.W.nsIn K mainGlobals "set" = some none)
    (z17 : PySem.W.nsIn K mainGlobals "zip" = some none)
    (z18 : PySem.W.nsIn K mainGlobals "sum" = some none)
    (z19 : PySem.W.nsIn K mainGlobals "ValueError" = some none)
    (z20 : PySem.W.nsIn K mainGlobals "LookupError" = some none)
    (z21 : PySem.W.nsIn K mainGlobals "OverflowError" = some none)
    (z22 : PySem.W.nsIn K mainGlobals "RuntimeError" = some none)
    {gt0 : Tok} (gq0 : PySem.W.nsIn K mainGlobals "LETTERS" = some (some (.str "abcdefghijklmnopqrstuvwxyz" gt0)))
    {gt1 : Tok} (gq1 : PySem.W.nsIn K mainGlobals "DIGITS" = some (some (.str "0123456789" gt1)))
    {gt2 : Tok} (gq2 : PySem.W.nsIn K mainGlobals "MAX_LENGTH" = some (some (.int 8 gt2)))
    {e0 : Addr}
    (xa0 : PySem.W.nsIn K mainGlobals "OntologyError" = some (some (.ref e0)))
    (xk0 : PySem.W.keepIn K (.ref e0) = true)
    (xb0 : PySem.W.subIn K (.ref e0) (.type "BaseException") = some true)
    (xt0 : PySem.W.typeIn K (.ref e0) = some (.type "type"))
    (xc0 : PySem.W.isClsIn K e0 = true)
    (xh0 : PySem.W.hasDictIn K e0 = true)
    (xg0 : PySem.W.findIn K (.ref e0) "__getattribute__" = some (some (.builtin "BaseException.__getattribute__")))
    (xi0 : PySem.W.findIn K (.ref e0) "__getattr__" = some none)
    (xj0 : PySem.W.findIn K (.ref e0) "__class__" = some (some (.builtin "object.__class__")))
    (xm0 : PySem.W.mroIn K e0 (.type "object") = some true)
    (xy0_ValueError : PySem.W.subIn K (.ref e0) (.type "ValueError") = some true)
    (xy0_LookupError : PySem.W.subIn K (.ref e0) (.type "LookupError") = some false)
    (xy0_OverflowError : PySem.W.subIn K (.ref e0) (.type "OverflowError") = some false)
    (xy0_RuntimeError : PySem.W.subIn K (.ref e0) (.type "RuntimeError") = some false)
    {e4 : Addr}
    (xa4 : PySem.W.nsIn K mainGlobals "InvalidFacts" = some (some (.ref e4)))
    (xk4 : PySem.W.keepIn K (.ref e4) = true)
    (xb4 : PySem.W.subIn K (.ref e4) (.type "BaseException") = some true)
    (xt4 : PySem.W.typeIn K (.ref e4) = some (.type "type"))
    (xc4 : PySem.W.isClsIn K e4 = true)
    (xh4 : PySem.W.hasDictIn K e4 = true)
    (xg4 : PySem.W.findIn K (.ref e4) "__getattribute__" = some (some (.builtin "BaseException.__getattribute__")))
    (xi4 : PySem.W.findIn K (.ref e4) "__getattr__" = some none)
    (xj4 : PySem.W.findIn K (.ref e4) "__class__" = some (some (.builtin "object.__class__")))
    (xm4 : PySem.W.mroIn K e4 (.type "object") = some true)
    (xy4_ValueError : PySem.W.subIn K (.ref e4) (.type "ValueError") = some true)
    (xy4_LookupError : PySem.W.subIn K (.ref e4) (.type "LookupError") = some false)
    (xy4_OverflowError : PySem.W.subIn K (.ref e4) (.type "OverflowError") = some false)
    (xy4_RuntimeError : PySem.W.subIn K (.ref e4) (.type "RuntimeError") = some false)
    (xgs : PySem.W.specialIn K (.builtin "object.__class__") "__get__" = some (some (.builtin "getset_descriptor.__get__")))
    (xtk : PySem.W.takesIn K (.builtin "object.__class__") = some true)
    (xs0_0 : PySem.W.subIn K (.ref e0) (.ref e0) = some true)
    (xs0_4 : PySem.W.subIn K (.ref e0) (.ref e4) = some false)
    (xs4_0 : PySem.W.subIn K (.ref e4) (.ref e0) = some true)
    (xs4_4 : PySem.W.subIn K (.ref e4) (.ref e4) = some true)
    (xz0 : PySem.W.excIn K e0 [.type "ValueError", .type "Exception", .type "BaseException", .type "object"] "ValueError.__new__" = true)
    (xo4 : ∃ nm q N bs bm sn sub ab col dd k0 k1 k2 k3 k5, K.lookup e4 = some (excClassObj nm q e4 N bs bm true sn sub ab col dd k0 k1 k2 k3 k5 "ValueError.__new__") ∧ PySem.HandSPX.refsVE bm = true)
    (xq4 : PySem.W.findIn K (.ref e4) "__setattr__" = some (some (.builtin "object.__setattr__")))
    (xn4 : PySem.W.findIn K (.ref e4) "index" = some none)
    {xf4 : Addr} {xoc4 xkV4 xdc4 xpm4 xcd4 xct4 : Value} {xod4 xan4 : Option Addr} {xsl4 : Array (Option Value)}
    (xu4 : PySem.W.findIn K (.ref e4) "__init__" = some (some (.ref xf4)))
    (xv4 : PySem.W.typeIn K (.ref xf4) = some (.type "function"))
    (xl4 : K.lookup xf4 = some ⟨xoc4, xod4, .func (PySem.W.fnOf "__init__" "InvalidFacts.__init__" (defArgs (clsInit (topS 2))) (defBody (clsInit (topS 2))) (defScope (clsInit (topS 2))) .none xkV4 xdc4 xpm4 xan4 xcd4 xct4), xsl4⟩)
    (xw4 : PySem.W.codeIn K xcd4 "InvalidFacts.__init__" = true)
    (bg0 : PySem.W.specialIn K (.ref e0) "__getattribute__" = some (some (.builtin "type.__getattribute__")))
    (br0 : PySem.W.readsIn K e0 (.type "type") = true)
    (bf0 : PySem.W.findCls K (.ref e0) (.type "type") "__init__" = some (.val (.builtin "ValueError.__init__")))
    : (∃ l, AllAt K mg tdefs l) ∧ (∀ x ∈ bnames, mg x = none) ∧ (∀ (i : Nat) (x : Str) (d : D), P.gt.lookup i = some (x, d) → i ∈ P.gp → ∃ (u : Value) (v : V), mg x = some u ∧ RelV v u ∧ ∀ G, RV ⟨K, w⟩ G d v) ∧ (∀ (i : Nat) (x : Str) (kvs : List (D × D)), P.gt.lookup i = some (x, .dct kvs) → i ∈ P.gd → ∃ a : Addr, mg x = some (.ref a) ∧ ∀ s v, findS kvs s = some v → KDct K w a s (.str v)) ∧ ∃ C : Nat → Addr, ∀ (n : Nat) (xc : XC), P.xs.lookup n = some xc → n ∈ P.xp → XcK K mg C P.xs P.xp n xc := by
  refine ⟨?_, ?_, ?_, ?_, ?_⟩
  · exact ⟨[fd0, fd0, fd0, fd0, fd0, fd0, fd0, fd0, fd0, fd0, fd0, fd0, fd0, fd0, fd0, fd0, fd0, fd0, fd0, fd0, fd0, fd0, fd0, fd0, fd0, fd0, fd0, fd0, fd0, (_, _), fd0, fd0, fd0, fd0, fd0, fd0, fd0, fd0, fd0, fd0, fd0, fd0, fd0, fd0, fd0, fd0, fd0, fd0, fd0, fd0, fd0, fd0, fd0, fd0, fd0, fd0, fd0, fd0, fd0, fd0, fd0, fd0, fd0, fd0, fd0, fd0, fd0, fd0, fd0, fd0, fd0, fd0, fd0, fd0, fd0, fd0, fd0, fd0, fd0, fd0, fd0, fd0, fd0, fd0, fd0, fd0, fd0, fd0, fd0, fd0, fd0, fd0, fd0, fd0, fd0, fd0, fd0, fd0, fd0, fd0, fd0, (_, _), fd0, fd0, fd0, fd0, fd0, (_, _), fd0, fd0, fd0, fd0, fd0, fd0, fd0, fd0, fd0, fd0, fd0, fd0, fd0, fd0, fd0, fd0, fd0, fd0, fd0, fd0, fd0, fd0, fd0, (_, _), fd0, fd0, fd0, (_, _), fd0, fd0, fd0, fd0, fd0, fd0, fd0, fd0, fd0, fd0, fd0, fd0, fd0, fd0, fd0, fd0, (_, _), fd0, fd0, (_, _), fd0, fd0, fd0, fd0, fd0, fd0, (_, _), (_, _), fd0, fd0, fd0, fd0, fd0, fd0, fd0, fd0, fd0, fd0, fd0, fd0, fd0, fd0, fd0, fd0, fd0, fd0, fd0, fd0, fd0, fd0, fd0, fd0, fd0, fd0, fd0, fd0, fd0, fd0, fd0, fd0, fd0, fd0, fd0, fd0, fd0, fd0, fd0, fd0, fd0, fd0, fd0, fd0, fd0, fd0, fd0, fd0, fd0, fd0, fd0, fd0, fd0, fd0, fd0, fd0, fd0, fd0, fd0, fd0, fd0, fd0, fd0, fd0, fd0, fd0, fd0, fd0, fd0, fd0, fd0, fd0, fd0, fd0, fd0, fd0, fd0, fd0, fd0, fd0, fd0, fd0, fd0, fd0, fd0, fd0, fd0, fd0, fd0, fd0, fd0, fd0, fd0, fd0, fd0, fd0, fd0, fd0, fd0, fd0, fd0, fd0, fd0, fd0, fd0, fd0, fd0, fd0, fd0, fd0, fd0, fd0, fd0, fd0, fd0, (_, _), fd0, fd0, fd0, fd0, fd0, (_, _), fd0, fd0, fd0, fd0, fd0, (_, _), fd0, fd0, fd0, fd0, fd0, fd0, fd0, fd0, fd0, fd0, fd0, fd0, (_, _), fd0, fd0, fd0, fd0, fd0, fd0, fd0, fd0, fd0, fd0, fd0, fd0, fd0, fd0, fd0, fd0, fd0, fd0, fd0, fd0, fd0, fd0, fd0, fd0, fd0, fd0, fd0, fd0, fd0, (_, _), fd0, fd0, fd0, fd0, fd0, fd0, fd0, fd0, fd0, fd0, fd0, fd0, fd0, fd0, fd0, fd0, fd0, fd0, fd0, fd0, fd0, (_, _), (_, _), (_, _), (_, _)], ⟨_, _, rfl, ⟨_, _, rfl, ⟨_, _, rfl, ⟨_, _, rfl, ⟨_, _, rfl, ⟨_, _, rfl, ⟨_, _, rfl, ⟨_, _, rfl, ⟨_, _, rfl, ⟨_, _, rfl, ⟨_, _, rfl, ⟨_, _, rfl, ⟨_, _, rfl, ⟨_, _, rfl, ⟨_, _, rfl, ⟨_, _, rfl, ⟨_, _, rfl, ⟨_, _, rfl, ⟨_, _, rfl, ⟨_, _, rfl, ⟨_, _, rfl, ⟨_, _, rfl, ⟨_, _, rfl, ⟨_, _, rfl, ⟨_, _, rfl, ⟨_, _, rfl, ⟨_, _, rfl, ⟨_, _, rfl, ⟨_, _, rfl, ⟨_, _, _, rfl, at_mk X G (fun _ _ _ _ _ _ us hl => match us, hl with | [_], _ => rfl) a8 l8 c8 k8, ⟨_, _, rfl, ⟨_, _, rfl, ⟨_, _, rfl, ⟨_, _, rfl, ⟨_, _, rfl, ⟨_, _, rfl, ⟨_, _, rfl, ⟨_, _, rfl, ⟨_, _, rfl, ⟨_, _, rfl, ⟨_, _, rfl, ⟨_, _, rfl, ⟨_, _, rfl, ⟨_, _, rfl, ⟨_, _, rfl, ⟨_, _, rfl, ⟨_, _, rfl, ⟨_, _, rfl, ⟨_, _, rfl, ⟨_, _, rfl, ⟨_, _, rfl, ⟨_, _, rfl, ⟨_, _, rfl, ⟨_, _, rfl, ⟨_, _, rfl, ⟨_, _, rfl, ⟨_, _, rfl, ⟨_, _, rfl, ⟨_, _, rfl, ⟨_, _, rfl, ⟨_, _, rfl, ⟨_, _, rfl, ⟨_, _, rfl, ⟨_, _, rfl, ⟨_, _, rfl, ⟨_, _, rfl, ⟨_, _, rfl, ⟨_, _, rfl, ⟨_, _, rfl, ⟨_, _, rfl, ⟨_, _, rfl, ⟨_, _, rfl, ⟨_, _, rfl, ⟨_, _, rfl, ⟨_, _, rfl, ⟨_, _, rfl, ⟨_, _, rfl, ⟨_, _, rfl, ⟨_, _, rfl, ⟨_, _, rfl, ⟨_, _, rfl, ⟨_, _, rfl, ⟨_, _, rfl, ⟨_, _, rfl, ⟨_, _, rfl, ⟨_, _, rfl, ⟨_, _, rfl, ⟨_, _, rfl, ⟨_, _, rfl, ⟨_, _, rfl, ⟨_, _, rfl, ⟨_, _, rfl, ⟨_, _, rfl, ⟨_, _, rfl, ⟨_, _, rfl, ⟨_, _, rfl, ⟨_, _, rfl, ⟨_, _, rfl, ⟨_, _, rfl, ⟨_, _, rfl, ⟨_, _, rfl, ⟨_, _, _, rfl, at_mk X G (fun _ _ _ _ _ _ us hl => match us, hl with | [_], _ => rfl) a6 l6 c6 k6, ⟨_, _, rfl, ⟨_, _, rfl, ⟨_, _, rfl, ⟨_, _, rfl, ⟨_, _, rfl, ⟨_, _, _, rfl, at_mk X G (fun _ _ _ _ _ _ us hl => match us, hl with | [_], _ => rfl) a5 l5 c5 k5, ⟨_, _, rfl, ⟨_, _, rfl, ⟨_, _, rfl, ⟨_, _, rfl, ⟨_, _, rfl, ⟨_, _, rfl, ⟨_, _, rfl, ⟨_, _, rfl, ⟨_, _, rfl, ⟨_, _, rfl, ⟨_, _, rfl, ⟨_, _, rfl, ⟨_, _, rfl, ⟨_, _, rfl, ⟨_, _, rfl, ⟨_, _, rfl, ⟨_, _, rfl, ⟨_, _, rfl, ⟨_, _, rfl, ⟨_, _, rfl, ⟨_, _, rfl, ⟨_, _, rfl, ⟨_, _, rfl, ⟨_, _, _, rfl, at_mk X G (fun _ _ _ _ _ _ us hl => match us, hl with | [_], _ => rfl) a7 l7 c7 k7, ⟨_, _, rfl, ⟨_, _, rfl, ⟨_, _, rfl, ⟨_, _, _, rfl, at_mk X G (fun _ _ _ _ _ _ us hl => match us, hl with | [_], _ => rfl) a4 l4 c4 k4, ⟨_, _, rfl, ⟨_, _, rfl, ⟨_, _, rfl, ⟨_, _, rfl, ⟨_, _, rfl, ⟨_, _, rfl, ⟨_, _, rfl, ⟨_, _, rfl, ⟨_, _, rfl, ⟨_, _, rfl, ⟨_, _, rfl, ⟨_, _, rfl, ⟨_, _, rfl, ⟨_, _, rfl, ⟨_, _, rfl, ⟨_, _, rfl, ⟨_, _, _, rfl, at_mk X G (fun _ _ _ _ _ _ us hl => match us, hl with | [_], _ => rfl) a3 l3 c3 k3, ⟨_, _, rfl, ⟨_, _, rfl, ⟨_, _, _, rfl, at_mk X G (fun _ _ _ _ _ _ us hl => match us, hl with | [_, _], _ => rfl) a0 l0 c0 k0, ⟨_, _, rfl, ⟨_, _, rfl, ⟨_, _, rfl, ⟨_, _, rfl, ⟨_, _, rfl, ⟨_, _, rfl, ⟨_, _, _, rfl, at_mk X G (fun _ _ _ _ _ _ us hl => match us, hl with | [_], _ => rfl) a2 l2 c2 k2, ⟨_, _, _, rfl, at_mk X G (fun _ _ _ _ _ _ us hl => match us, hl with | [_], _ => rfl) a1 l1 c1 k1, ⟨_, _, rfl, ⟨_, _, rfl, ⟨_, _, rfl, ⟨_, _, rfl, ⟨_, _, rfl, ⟨_, _, rfl, ⟨_, _, rfl, ⟨_, _, rfl, ⟨_, _, rfl, ⟨_, _, rfl, ⟨_, _, rfl, ⟨_, _, rfl, ⟨_, _, rfl, ⟨_, _, rfl, ⟨_, _, rfl, ⟨_, _, rfl, ⟨_, _, rfl, ⟨_, _, rfl, ⟨_, _, rfl, ⟨_, _, rfl, ⟨_, _, rfl, ⟨_, _, rfl, ⟨_, _, rfl, ⟨_, _, rfl, ⟨_, _, rfl, ⟨_, _, rfl, ⟨_, _, rfl, ⟨_, _, rfl, ⟨_, _, rfl, ⟨_, _, rfl, ⟨_, _, rfl, ⟨_, _, rfl, ⟨_, _, rfl, ⟨_, _, rfl, ⟨_, _, rfl, ⟨_, _, rfl, ⟨_, _, rfl, ⟨_, _, rfl, ⟨_, _, rfl, ⟨_, _, rfl, ⟨_, _, rfl, ⟨_, _, rfl, ⟨_, _, rfl, ⟨_, _, rfl, ⟨_, _, rfl, ⟨_, _, rfl, ⟨_, _, rfl, ⟨_, _, rfl, ⟨_, _, rfl, ⟨_, _, rfl, ⟨_, _, rfl, ⟨_, _, rfl, ⟨_, _, rfl, ⟨_, _, rfl, ⟨_, _, rfl, ⟨_, _, rfl, ⟨_, _, rfl, ⟨_, _, rfl, ⟨_, _, rfl, ⟨_, _, rfl, ⟨_, _, rfl, ⟨_, _, rfl, ⟨_, _, rfl, ⟨_, _, rfl, ⟨_, _, rfl, ⟨_, _, rfl, ⟨_, _, rfl, ⟨_, _, rfl, ⟨_, _, rfl, ⟨_, _, rfl, ⟨_, _, rfl, ⟨_, _, rfl, ⟨_, _, rfl, ⟨_, _, rfl, ⟨_, _, rfl, ⟨_, _, rfl, ⟨_, _, rfl, ⟨_, _, rfl, ⟨_, _, rfl, ⟨_, _, rfl, ⟨_, _, rfl, ⟨_, _, rfl, ⟨_, _, rfl, ⟨_, _, rfl, ⟨_, _, rfl, ⟨_, _, rfl, ⟨_, _, rfl, ⟨_, _, rfl, ⟨_, _, rfl, ⟨_, _, rfl, ⟨_, _, rfl, ⟨_, _, rfl, ⟨_, _, rfl, ⟨_, _, rfl, ⟨_, _, rfl, ⟨_, _, rfl, ⟨_, _, rfl, ⟨_, _, rfl, ⟨_, _, rfl, ⟨_, _, rfl, ⟨_, _, rfl, ⟨_, _, rfl, ⟨_, _, rfl, ⟨_, _, rfl, ⟨_, _, rfl, ⟨_, _, rfl, ⟨_, _, rfl, ⟨_, _, rfl, ⟨_, _, rfl, ⟨_, _, rfl, ⟨_, _, rfl, ⟨_, _, rfl, ⟨_, _, rfl, ⟨_, _, rfl, ⟨_, _, rfl, ⟨_, _, _, rfl, at_mk X G (fun _ _ _ _ _ _ us hl => match us, hl with | [_, _], _ => rfl) a11 l11 c11 k11, ⟨_, _, rfl, ⟨_, _, rfl, ⟨_, _, rfl, ⟨_, _, rfl, ⟨_, _, rfl, ⟨_, _, _, rfl, at_mk X G (fun _ _ _ _ _ _ us hl => match us, hl with | [_, _], _ => rfl) a10 l10 c10 k10, ⟨_, _, rfl, ⟨_, _, rfl, ⟨_, _, rfl, ⟨_, _, rfl, ⟨_, _, rfl, ⟨_, _, _, rfl, at_mk X G (fun _ _ _ _ _ _ us hl => match us, hl with | [_, _, _, _], _ => rfl) a13 l13 c13 k13, ⟨_, _, rfl, ⟨_, _, rfl, ⟨_, _, rfl, ⟨_, _, rfl, ⟨_, _, rfl, ⟨_, _, rfl, ⟨_, _, rfl, ⟨_, _, rfl, ⟨_, _, rfl, ⟨_, _, rfl, ⟨_, _, rfl, ⟨_, _, rfl, ⟨_, _, _, rfl, at_mk X G (fun _ _ _ _ _ _ us hl => match us, hl with | [_], _ => rfl) a12 l12 c12 k12, ⟨_, _, rfl, ⟨_, _, rfl, ⟨_, _, rfl, ⟨_, _, rfl, ⟨_, _, rfl, ⟨_, _, rfl, ⟨_, _, rfl, ⟨_, _, rfl, ⟨_, _, rfl, ⟨_, _, rfl, ⟨_, _, rfl, ⟨_, _, rfl, ⟨_, _, rfl, ⟨_, _, rfl, ⟨_, _, rfl, ⟨_, _, rfl, ⟨_, _, rfl, ⟨_, _, rfl, ⟨_, _, rfl, ⟨_, _, rfl, ⟨_, _, rfl, ⟨_, _, rfl, ⟨_, _, rfl, ⟨_, _, rfl, ⟨_, _, rfl, ⟨_, _, rfl, ⟨_, _, rfl, ⟨_, _, rfl, ⟨_, _, rfl, ⟨_, _, _, rfl, at_mk X G (fun _ _ _ _ _ _ us hl => match us, hl with | [_, _], _ => rfl) a9 l9 c9 k9, ⟨_, _, rfl, ⟨_, _, rfl, ⟨_, _, rfl, ⟨_, _, rfl, ⟨_, _, rfl, ⟨_, _, rfl, ⟨_, _, rfl, ⟨_, _, rfl, ⟨_, _, rfl, ⟨_, _, rfl, ⟨_, _, rfl, ⟨_, _, rfl, ⟨_, _, rfl, ⟨_, _, rfl, ⟨_, _, rfl, ⟨_, _, rfl, ⟨_, _, rfl, ⟨_, _, rfl, ⟨_, _, rfl, ⟨_, _, rfl, ⟨_, _, rfl, ⟨_, _, _, rfl, at_mk X G (fun _ _ _ _ _ _ us hl => match us, hl with | [_], _ => rfl) a14 l14 c14 k14, ⟨_, _, _, rfl, at_mk X G (fun _ _ _ _ _ _ us hl => match us, hl with | [], _ => rfl) a15 l15 c15 k15, ⟨_, _, _, rfl, at_mk X G (fun _ _ _ _ _ _ us hl => match us, hl with | [_, _], _ => rfl) a16 l16 c16 k16, ⟨_, _, _, rfl, at_mk X G (fun _ _ _ _ _ _ us hl => match us, hl with | [_], _ => rfl) a17 l17 c17 k17, rfl⟩⟩⟩⟩⟩⟩⟩⟩⟩⟩⟩⟩⟩⟩⟩⟩⟩⟩⟩⟩⟩⟩⟩⟩⟩⟩⟩⟩⟩⟩⟩⟩⟩⟩⟩⟩⟩⟩⟩⟩⟩⟩⟩⟩⟩⟩⟩⟩⟩⟩⟩⟩⟩⟩⟩⟩⟩⟩⟩⟩⟩⟩⟩⟩⟩⟩⟩⟩⟩⟩⟩⟩⟩⟩⟩⟩⟩⟩⟩⟩⟩⟩⟩⟩⟩⟩⟩⟩⟩⟩⟩⟩⟩⟩⟩⟩⟩⟩⟩⟩⟩⟩⟩⟩⟩⟩⟩⟩⟩⟩⟩⟩⟩⟩⟩⟩⟩⟩⟩⟩⟩⟩⟩⟩⟩⟩⟩⟩⟩⟩⟩⟩⟩⟩⟩⟩⟩⟩⟩⟩⟩⟩⟩⟩⟩⟩⟩⟩⟩⟩⟩⟩⟩⟩⟩⟩⟩⟩⟩⟩⟩⟩⟩⟩⟩⟩⟩⟩⟩⟩⟩⟩⟩⟩⟩⟩⟩⟩⟩⟩⟩⟩⟩⟩⟩⟩⟩⟩⟩⟩⟩⟩⟩⟩⟩⟩⟩⟩⟩⟩⟩⟩⟩⟩⟩⟩⟩⟩⟩⟩⟩⟩⟩⟩⟩⟩⟩⟩⟩⟩⟩⟩⟩⟩⟩⟩⟩⟩⟩⟩⟩⟩⟩⟩⟩⟩⟩⟩⟩⟩⟩⟩⟩⟩⟩⟩⟩⟩⟩⟩⟩⟩⟩⟩⟩⟩⟩⟩⟩⟩⟩⟩⟩⟩⟩⟩⟩⟩⟩⟩⟩⟩⟩⟩⟩⟩⟩⟩⟩⟩⟩⟩⟩⟩⟩⟩⟩⟩⟩⟩⟩⟩⟩⟩⟩⟩⟩⟩⟩⟩⟩⟩⟩⟩⟩⟩⟩⟩⟩⟩⟩⟩⟩⟩⟩⟩⟩⟩⟩⟩⟩⟩⟩⟩⟩⟩⟩⟩⟩⟩⟩⟩⟩⟩⟩⟩⟩⟩⟩⟩⟩⟩⟩⟩⟩⟩⟩⟩⟩⟩⟩⟩⟩⟩⟩⟩⟩⟩⟩⟩⟩
  · intro x hx
    simp only [bnames, List.mem_cons, List.not_mem_nil, or_false] at hx
    rcases hx with rfl | rfl | rfl | rfl | rfl | rfl | rfl | rfl | rfl | rfl | rfl | rfl | rfl | rfl | rfl | rfl | rfl | rfl | rfl
    · exact PySem.W.mg_none_of X G z0
    · exact PySem.W.mg_none_of X G z1
    · exact PySem.W.mg_none_of X G z2
    · exact PySem.W.mg_none_of X G z3
    · exact PySem.W.mg_none_of X G z4
    · exact PySem.W.mg_none_of X G z5
    · exact PySem.W.mg_none_of X G z6
    · exact PySem.W.mg_none_of X G z7
    · exact PySem.W.mg_none_of X G z8
    · exact PySem.W.mg_none_of X G z9
    · exact PySem.W.mg_none_of X G z10
    · exact PySem.W.mg_none_of X G z11
    · exact PySem.W.mg_none_of X G z12
    · exact PySem.W.mg_none_of X G z13
    · exact PySem.W.mg_none_of X G z14
    · exact PySem.W.mg_none_of X G z15
    · exact PySem.W.mg_none_of X G z16
    · exact PySem.W.mg_none_of X G z17
    · exact PySem.W.mg_none_of X G z18
  · intro i x d e hi
    have hi : i ∈ [0, 10, 1] := hi
    simp only [List.mem_cons, List.not_mem_nil, or_false] at hi
    rcases hi with rfl | rfl | rfl
    · cases e
      exact gl_str X G gq0
    · cases e
      exact gl_str X G gq1
    · cases e
      exact gl_int X G gq2
  · intro i x kvs e hi
    have hi : i ∈ ([] : List Nat) := hi
    simp only [List.mem_cons, List.not_mem_nil, or_false] at hi
  · refine ⟨fun n => if n = 0 then e0 else if n = 4 then e4 else 0, ?_⟩
    intro n xc hl hn
    have hn : n ∈ ([0, 4] : List Nat) := hn
    simp only [List.mem_cons, List.not_mem_nil, or_false] at hn
    rcases hn with rfl | rfl
    · cases hl
      exact {
        nm := PySem.W.mg_of X G xa0
        dbg := by decide
        keep := xk0
        exC := xb0
        tyC := xt0
        cls := xc0
        self := xs0_0
        sub := by
          intro m xm hm hp hq
          have hp : m ∈ ([0, 4] : List Nat) := hp
          simp only [List.mem_cons, List.not_mem_nil, or_false] at hp
          rcases hp with rfl | rfl
          · cases hm
            cases hq
          · cases hm
            cases hq
        hd := xh0
        ga := xg0
        gg := xi0
        cl := xj0
        gs := xgs
        tk := xtk
        mro := xm0
        isa := by
          intro t b ht
          simp only [List.mem_cons, List.not_mem_nil, or_false, Prod.mk.injEq] at ht
          rcases ht with ⟨rfl, rfl⟩ | ⟨rfl, rfl⟩ | ⟨rfl, rfl⟩ | ⟨rfl, rfl⟩ | ⟨rfl, rfl⟩ | ⟨rfl, rfl⟩ | ⟨rfl, rfl⟩ | ⟨rfl, rfl⟩ | ⟨rfl, rfl⟩ | ⟨rfl, rfl⟩ | ⟨rfl, rfl⟩ | ⟨rfl, rfl⟩ | ⟨rfl, rfl⟩ | ⟨rfl, rfl⟩ | ⟨rfl, rfl⟩ | ⟨rfl, rfl⟩ | ⟨rfl, rfl⟩ | ⟨rfl, rfl⟩ | ⟨rfl, rfl⟩ | ⟨rfl, rfl⟩ | ⟨rfl, rfl⟩
          · exact fun _ => ⟨_, rfl, PySem.W.mg_of X G xa0, by decide, kit_own xs0_0 xs0_0 xc0 xt0⟩
          · exact fun q => absurd q (by decide)
          · exact fun q => absurd q (by decide)
          · exact fun q => absurd q (by decide)
          · exact fun _ => ⟨_, rfl, PySem.W.mg_of X G xa4, by decide, kit_own xs0_4 xs4_4 xc4 xt4⟩
          · exact fun q => absurd q (by decide)
          · exact fun q => absurd q (by decide)
          · exact fun q => absurd q (by decide)
          · exact fun q => absurd q (by decide)
          · exact fun q => absurd q (by decide)
          · exact fun q => absurd q (by decide)
          · exact fun q => absurd q (by decide)
          · exact fun q => absurd q (by decide)
          · exact fun q => absurd q (by decide)
          · exact fun q => absurd q (by decide)
          · exact fun q => absurd q (by decide)
          · exact fun q => absurd q (by decide)
          · exact ⟨"ValueError", PySem.W.mg_none_of X G z19, by decide +kernel, by decide, by decide, kit_ty (by decide +kernel) xy0_ValueError⟩
          · exact ⟨"LookupError", PySem.W.mg_none_of X G z20, by decide +kernel, by decide, by decide, kit_ty (by decide +kernel) xy0_LookupError⟩
          · exact ⟨"OverflowError", PySem.W.mg_none_of X G z21, by decide +kernel, by decide, by decide, kit_ty (by decide +kernel) xy0_OverflowError⟩
          · exact ⟨"RuntimeError", PySem.W.mg_none_of X G z22, by decide +kernel, by decide, by decide, kit_ty (by decide +kernel) xy0_RuntimeError⟩
        zero := fun _ => ⟨_, _, _, _, PySem.F.excBase_ValueError, xz0⟩
        one := fun f q => nomatch q }
    · cases hl
      exact {
        nm := PySem.W.mg_of X G xa4
        dbg := by decide
        keep := xk4
        exC := xb4
        tyC := xt4
        cls := xc4
        self := xs4_4
        sub := by
          intro m xm hm hp hq
          have hp : m ∈ ([0, 4] : List Nat) := hp
          simp only [List.mem_cons, List.not_mem_nil, or_false] at hp
          rcases hp with rfl | rfl
          · cases hm
            exact xs0_4
          · cases hm
            cases hq
        hd := xh4
        ga := xg4
        gg := xi4
        cl := xj4
        gs := xgs
        tk := xtk
        mro := xm4
        isa := by
          intro t b ht
          simp only [List.mem_cons, List.not_mem_nil, or_false, Prod.mk.injEq] at ht
          rcases ht with ⟨rfl, rfl⟩ | ⟨rfl, rfl⟩ | ⟨rfl, rfl⟩ | ⟨rfl, rfl⟩ | ⟨rfl, rfl⟩ | ⟨rfl, rfl⟩ | ⟨rfl, rfl⟩ | ⟨rfl, rfl⟩ | ⟨rfl, rfl⟩ | ⟨rfl, rfl⟩ | ⟨rfl, rfl⟩ | ⟨rfl, rfl⟩ | ⟨rfl, rfl⟩ | ⟨rfl, rfl⟩ | ⟨rfl, rfl⟩ | ⟨rfl, rfl⟩ | ⟨rfl, rfl⟩ | ⟨rfl, rfl⟩ | ⟨rfl, rfl⟩ | ⟨rfl, rfl⟩ | ⟨rfl, rfl⟩
          · exact fun _ => ⟨_, rfl, PySem.W.mg_of X G xa0, by decide, kit_own xs4_0 xs0_0 xc0 xt0⟩
          · exact fun q => absurd q (by decide)
          · exact fun q => absurd q (by decide)
          · exact fun q => absurd q (by decide)
          · exact fun _ => ⟨_, rfl, PySem.W.mg_of X G xa4, by decide, kit_own xs4_4 xs4_4 xc4 xt4⟩
          · exact fun q => absurd q (by decide)
          · exact fun q => absurd q (by decide)
          · exact fun q => absurd q (by decide)
          · exact fun q => absurd q (by decide)
          · exact fun q => absurd q (by decide)
          · exact fun q => absurd q (by decide)
          · exact fun q => absurd q (by decide)
          · exact fun q => absurd q (by decide)
          · exact fun q => absurd q (by decide)
          · exact fun q => absurd q (by decide)
          · exact fun q => absurd q (by decide)
          · exact fun q => absurd q (by decide)
          · exact ⟨"ValueError", PySem.W.mg_none_of X G z19, by decide +kernel, by decide, by decide, kit_ty (by decide +kernel) xy4_ValueError⟩
          · exact ⟨"LookupError", PySem.W.mg_none_of X G z20, by decide +kernel, by decide, by decide, kit_ty (by decide +kernel) xy4_LookupError⟩
          · exact ⟨"OverflowError", PySem.W.mg_none_of X G z21, by decide +kernel, by decide, by decide, kit_ty (by decide +kernel) xy4_OverflowError⟩
          · exact ⟨"RuntimeError", PySem.W.mg_none_of X G z22, by decide +kernel, by decide, by decide, kit_ty (by decide +kernel) xy4_RuntimeError⟩
        zero := fun q => nomatch q
        one := by
          intro f q
          cases q
          have OC : OexC K e4 := ⟨xo4, xq4, xb4, xt4, xk4⟩
          refine ⟨OC, xn4, xf4, PySem.W.fnOf "__init__" "InvalidFacts.__init__" (defArgs (clsInit (topS 2))) (defBody (clsInit (topS 2))) (defScope (clsInit (topS 2))) .none xkV4 xdc4 xpm4 xan4 xcd4 xct4, xu4, xv4, .all (fun us hl => match us, hl with | [_, _], _ => rfl), fun Pg w base => ?_⟩
          exact init_ok (b := "OntologyError") (f := "index") xl4 xw4 (scope_of (by decide +kernel)) rfl rfl rfl (by decide) (by decide) (by decide) (fun _ => ⟨_, rfl⟩) ⟨bg0, br0, bf0⟩ (PySem.W.mg_of X G xa0) OC xn4 }
theorem chk_all : chkAll P FN tdefs = true := by decide +kernel
theorem law_at {Pg : Program} {w : World} {K : PySem.W.Frag} {h : Heap} {mg : Str → Option Value} {fa : Addr} (X : K.In h) (G : h.Ns mainGlobals mg) (named : mg "law" = some (.ref fa)) (T : (∃ l, AllAt K mg tdefs l) ∧ (∀ x ∈ bnames, mg x = none) ∧ (∀ (i : Nat) (x : Str) (d : D), P.gt.lookup i = some (x, d) → i ∈ P.gp → ∃ (u : Value) (v : V), mg x = some u ∧ RelV v u ∧ ∀ G, RV ⟨K, w⟩ G d v) ∧ (∀ (i : Nat) (x : Str) (kvs : List (D × D)), P.gt.lookup i = some (x, .dct kvs) → i ∈ P.gd → ∃ a : Addr, mg x = some (.ref a) ∧ ∀ s v, findS kvs s = some v → KDct K w a s (.str v)) ∧ ∃ C : Nat → Addr, ∀ (n : Nat) (xc : XC), P.xs.lookup n = some xc → n ∈ P.xp → XcK K mg C P.xs P.xp n xc) :
    ∃ (fd : FuncData) (c : Cfg), c.K.K = K ∧ Binds K fd ["script"] [] ∧ ∀ base : Heap, K.In base → base.Ns mainGlobals mg → SysM base → FnG Pg w K mg base (L2.CX Pg w) 22 fa fd ["script"] (spG c [false] cf_law.rf (callN shownD P 20 i_claw)) := by
  obtain ⟨⟨l, hl⟩, bt, gl, gd, C, hxc⟩ := T
  exact law_F (iL := i_claw) (tL := t_law) (fdL := cf_law) hl chk_all bt hxc gl gd rfl rfl rfl rfl named
end VL.Claim
open PySem PySem.W PyProof.Rows
set_option maxHeartbeats 0 in
theorem PySem.Challenge.cw_factsandfar_k12_check_facts_holds : PySem.Challenge.rw_factsandfar_k12_check_facts.Holds := by
  w_on; o_law; k_head; (case hw => w_witness2)
  k_fill
  refine VL.law_walk (l := PySem.Challenge.rw_factsandfar_k12_check_facts) (n := 63) (k := 22) (x := "script") (rf := VL.Claim.cf_law.rf) (run := VL.callN VL.shownD VL.Claim.P 20 VL.Claim.i_claw) rfl (by decide) rfl ⟨rfl, by decide, by decide⟩ (by decide +kernel) (fun w h Y => PySem.W.kIn_of Y) ?F (fun ns hn => VL.Claim.law_good ns hn)
  case F =>
    intro w mg fa h KX G hmg
    refine VL.Claim.law_at KX G hmg ?T
    refine' VL.Claim.top_mk (w := w) KX G ?a0 ?l0 ?c0 ?k0 ?a1 ?l1 ?c1 ?k1 ?a2 ?l2 ?c2 ?k2 ?a3 ?l3 ?c3 ?k3 ?a4 ?l4 ?c4 ?k4 ?a5 ?l5 ?c5 ?k5 ?a6 ?l6 ?c6 ?k6 ?a7 ?l7 ?c7 ?k7 ?a8 ?l8 ?c8 ?k8 ?a9 ?l9 ?c9 ?k9 ?a10 ?l10 ?c10 ?k10 ?a11 ?l11 ?c11 ?k11 ?a12 ?l12 ?c12 ?k12 ?a13 ?l13 ?c13 ?k13 ?a14 ?l14 ?c14 ?k14 ?a15 ?l15 ?c15 ?k15 ?a16 ?l16 ?c16 ?k16 ?a17 ?l17 ?c17 ?k17 ?z0 ?z1 ?z2 ?z3 ?z4 ?z5 ?z6 ?z7 ?z8 ?z9 ?z10 ?z11 ?z12 ?z13 ?z14 ?z15 ?z16 ?z17 ?z18 ?z19 ?z20 ?z21 ?z22 ?gq0 ?gq1 ?gq2 ?xa0 ?xk0 ?xb0 ?xt0 ?xc0 ?xh0 ?xg0 ?xi0 ?xj0 ?xm0 ?xy0_ValueError ?xy0_LookupError ?xy0_OverflowError ?xy0_RuntimeError ?xa4 ?xk4 ?xb4 ?xt4 ?xc4 ?xh4 ?xg4 ?xi4 ?xj4 ?xm4 ?xy4_ValueError ?xy4_LookupError ?xy4_OverflowError ?xy4_RuntimeError ?xgs ?xtk ?xs0_0 ?xs0_4 ?xs4_0 ?xs4_4 ?xz0 ?xo4 ?xq4 ?xn4 ?xu4 ?xv4 ?xl4 ?xw4 ?bg0 ?br0 ?bf0
    case a0 => k_is
    case l0 => k_is
    case c0 => k_is
    case k0 => k_is
    case a1 => k_is
    case l1 => k_is
    case c1 => k_is
    case k1 => k_is
    case a2 => k_is
    case l2 => k_is
    case c2 => k_is
    case k2 => k_is
    case a3 => k_is
    case l3 => k_is
    case c3 => k_is
    case k3 => k_is
    case a4 => k_is
    case l4 => k_is
    case c4 => k_is
    case k4 => k_is
    case a5 => k_is
    case l5 => k_is
    case c5 => k_is
    case k5 => k_is
    case a6 => k_is
    case l6 => k_is
    case c6 => k_is
    case k6 => k_is
    case a7 => k_is
    case l7 => k_is
    case c7 => k_is
    case k7 => k_is
    case a8 => k_is
    case l8 => k_is
    case c8 => k_is
    case k8 => k_is
    case a9 => k_is
    case l9 => k_is
    case c9 => k_is
    case k9 => k_is
    case a10 => k_is
    case l10 => k_is
    case c10 => k_is
    case k10 => k_is
    case a11 => k_is
    case l11 => k_is
    case c11 => k_is
    case k11 => k_is
    case a12 => k_is
    case l12 => k_is
    case c12 => k_is
    case k12 => k_is
    case a13 => k_is
    case l13 => k_is
    case c13 => k_is
    case k13 => k_is
    case a14 => k_is
    case l14 => k_is
    case c14 => k_is
    case k14 => k_is
    case a15 => k_is
    case l15 => k_is
    case c15 => k_is
    case k15 => k_is
    case a16 => k_is
    case l16 => k_is
    case c16 => k_is
    case k16 => k_is
    case a17 => k_is
    case l17 => k_is
    case c17 => k_is
    case k17 => k_is
    case z0 => k_is
    case z1 => k_is
    case z2 => k_is
    case z3 => k_is
    case z4 => k_is
    case z5 => k_is
    case z6 => k_is
    case z7 => k_is
    case z8 => k_is
    case z9 => k_is
    case z10 => k_is
    case z11 => k_is
    case z12 => k_is
    case z13 => k_is
    case z14 => k_is
    case z15 => k_is
    case z16 => k_is
    case z17 => k_is
    case z18 => k_is
    case z19 => k_is
    case z20 => k_is
    case z21 => k_is
    case z22 => k_is
    case gq0 => k_is
    case gq1 => k_is
    case gq2 => k_is
    case xa0 => k_is
    case xk0 => k_is
    case xb0 => k_is
    case xt0 => k_is
    case xc0 => k_is
    case xh0 => k_is
    case xg0 => k_is
    case xi0 => k_is
    case xj0 => k_is
    case xm0 => k_is
    case xy0_ValueError => k_is
    case xy0_LookupError => k_is
    case xy0_OverflowError => k_is
    case xy0_RuntimeError => k_is
    case xa4 => k_is
    case xk4 => k_is
    case xb4 => k_is
    case xt4 => k_is
    case xc4 => k_is
    case xh4 => k_is
    case xg4 => k_is
    case xi4 => k_is
    case xj4 => k_is
    case xm4 => k_is
    case xy4_ValueError => k_is
    case xy4_LookupError => k_is
    case xy4_OverflowError => k_is
    case xy4_RuntimeError => k_is
    case xgs => k_is
    case xtk => k_is
    case xs0_0 => k_is
    case xs0_4 => k_is
    case xs4_0 => k_is
    case xs4_4 => k_is
    case xz0 => first | k_exc | k_is
    case xo4 => (refine' VL.xo_mk ?xobA ?xobB; (case xobA => k_is); (case xobB => decide +kernel))
    case xq4 => k_is
    case xn4 => k_is
    case xu4 => k_is
    case xv4 => k_is
    case xl4 => k_is
    case xw4 => k_is
    case bg0 => k_is
    case br0 => k_is
    case bf0 => k_is
