import PyProof.Rows.All
import HandS.ForMost
import KE.KeyNested
import KE.KDictWalk
import KE.KEqNest
import HandS.DictEq
import KE.KDictCopyH
import HandS.DictComp
import HandS.IsInst
import HandS.OwnEq
import KE.SortData
import Wide.All
import OpenK.AllK
import Wide.FinOn
import KE.KStateDown
import HandS.Base
import HandS.Call
import HandS.Ends
import HandS.More
import HandS.Words
import HandS.WordsExc
import HandS.Defaults
import HandS.Head0
import HandS.Head1
import HandS.Head2
import HandS.HeadEnd
import HandS.HeadHook1
import HandS.HeadHook2
import HandS.Flow
import HandS.NoneIn
import HandS.Style
import HandS.Deep
import HandS.TupAny
import HandS.CallRecv
import HandS.Iter
import KE.Datum
import Lean
import PySem.Challenge.RW_filedalike_k50_whole_index
set_option Elab.async false
set_option linter.all false
set_option maxRecDepth 100000
set_option maxHeartbeats 4000000
/-! Dicts whose keys are any nested keys (ints, bools, texts, None, tuples of such), mixed. Level of the machine. -/
namespace ND
open PySem PySem.W PySem.Spec PyProof.Rows

section lists
variable {κ β γ : Type} [DecidableEq κ]
def atN (xs : List (κ × β × γ)) (k : κ) : Option (β × γ) := (xs.find? fun x => decide (x.1 = k)).map (·.2)
def repN (k : κ) (v : γ) (x : κ × β × γ) : κ × β × γ := if x.1 = k then (x.1, x.2.1, v) else x
def storeN (xs : List (κ × β × γ)) (k : κ) (a : β) (v : γ) : List (κ × β × γ) :=
  if (atN xs k).isSome then xs.map (repN k v) else xs ++ [(k, a, v)]
def cutN (xs : List (κ × β × γ)) (k : κ) : List (κ × β × γ) := xs.filter fun x => decide (x.1 ≠ k)

theorem storeN_new {xs : List (κ × β × γ)} {k : κ} (h : atN xs k = none) (a : β) (v : γ) : storeN xs k a v = xs ++ [(k, a, v)] := by
  unfold storeN; rw [h]; rfl
theorem storeN_old {xs : List (κ × β × γ)} {k : κ} {p : β × γ} (h : atN xs k = some p) (a : β) (v : γ) : storeN xs k a v = xs.map (repN k v) := by
  unfold storeN; rw [h]; rfl
theorem one_place {xs : List (κ × β × γ)} (hn : (xs.map (·.1)).Nodup) {i j : Nat} {k : κ} {p q : β × γ} (hi : xs[i]? = some (k, p)) (hj : xs[j]? = some (k, q)) : i = j := by
  have a : (xs.map (·.1))[i]? = some k := by rw [List.getElem?_map, hi]; rfl
  have b : (xs.map (·.1))[j]? = some k := by rw [List.getElem?_map, hj]; rfl
  exact (List.getElem?_inj (List.getElem?_eq_some_iff.mp a).1 hn).mp (a.trans b.symm)
theorem atN_some {xs : List (κ × β × γ)} {k : κ} {p : β × γ} (hn : (xs.map (·.1)).Nodup) {i : Nat} (h : xs[i]? = some (k, p)) : atN xs k = some p := by
  unfold atN
  cases q : xs.find? (fun x => decide (x.1 = k)) with
  | none =>
    have z := List.find?_eq_none.mp q (k, p) (List.mem_of_getElem? h)
    simp at z
  | some y =>
    have hy : y.1 = k := by simpa using List.find?_some q
    obtain ⟨j, hj⟩ := List.mem_iff_getElem?.mp (List.mem_of_find?_eq_some q)
    have hj' : xs[j]? = some (k, y.2) := by rw [hj, ← hy]
    have e := one_place hn h hj'
    subst e
    rw [h] at hj'
    cases hj'
    rfl
theorem atN_none {xs : List (κ × β × γ)} {k : κ} (h : ∀ (j : Nat) (p : β × γ), xs[j]? ≠ some (k, p)) : atN xs k = none := by
  unfold atN
  rw [Option.map_eq_none_iff, List.find?_eq_none]
  intro x hx hk
  obtain ⟨j, hj⟩ := List.mem_iff_getElem?.mp hx
  have e : x.1 = k := by simpa using hk
  exact h j x.2 (by rw [hj, ← e])
theorem atN_get {xs : List (κ × β × γ)} {k : κ} {p : β × γ} (h : atN xs k = some p) : ∃ j : Nat, xs[j]? = some (k, p) := by
  unfold atN at h
  obtain ⟨y, hy, rfl⟩ := Option.map_eq_some_iff.mp h
  have e : y.1 = k := by simpa using List.find?_some hy
  obtain ⟨j, hj⟩ := List.mem_iff_getElem?.mp (List.mem_of_find?_eq_some hy)
  exact ⟨j, by rw [hj, ← e]⟩
theorem key_out {xs : List (κ × β × γ)} {k : κ} (h : ∀ (j : Nat) (p : β × γ), xs[j]? ≠ some (k, p)) : k ∉ xs.map (·.1) := by
  intro hm
  obtain ⟨x, hx, rfl⟩ := List.mem_map.mp hm
  obtain ⟨j, hj⟩ := List.mem_iff_getElem?.mp hx
  exact h j x.2 hj
theorem map_rep_id (k : κ) (v : γ) : ∀ xs : List (κ × β × γ), k ∉ xs.map (·.1) → xs.map (repN k v) = xs
  | [], _ => rfl
  | x :: xs, h => by
    rw [List.map_cons, List.mem_cons, not_or] at h
    rw [List.map_cons, map_rep_id k v xs h.2]
    unfold repN
    rw [if_neg (fun e => h.1 e.symm)]
theorem keys_rep (k : κ) (v : γ) (xs : List (κ × β × γ)) : (xs.map (repN k v)).map (·.1) = xs.map (·.1) := by
  rw [List.map_map]
  refine List.map_congr_left fun x _ => ?_
  show (repN k v x).1 = x.1
  unfold repN
  split <;> rfl
theorem mod_rep {δ : Type} (f : κ × β × γ → δ) (g : δ → δ) (k : κ) (v : γ) (hg : ∀ a v0, g (f (k, a, v0)) = f (k, a, v)) :
    ∀ (xs : List (κ × β × γ)) (j : Nat) (p : β × γ), (xs.map (·.1)).Nodup → xs[j]? = some (k, p) → (xs.map f).modify j g = (xs.map (repN k v)).map f
  | [], j, p, _, h => by simp at h
  | x :: xs, 0, p, hn, h => by
    rw [List.map_cons, List.nodup_cons] at hn
    have e : x = (k, p) := by simpa using h
    subst e
    rw [List.map_cons, List.map_cons, map_rep_id k v xs hn.1, List.map_cons, List.modify_zero_cons]
    have e2 : repN k v (k, p) = (k, p.1, v) := by unfold repN; rw [if_pos rfl]
    rw [e2, ← hg p.1 p.2]
  | x :: xs, j + 1, p, hn, h => by
    rw [List.map_cons, List.nodup_cons] at hn
    have h' : xs[j]? = some (k, p) := by simpa using h
    have ne : ¬ x.1 = k := fun e => hn.1 (List.mem_map.mpr ⟨(k, p), List.mem_of_getElem? h', e.symm⟩)
    have e2 : repN k v x = x := by unfold repN; rw [if_neg ne]
    rw [List.map_cons, List.map_cons, List.modify_succ_cons, mod_rep f g k v hg xs j p hn.2 h', e2, List.map_cons]
theorem cut_id (k : κ) (xs : List (κ × β × γ)) (h : k ∉ xs.map (·.1)) : cutN xs k = xs := by
  unfold cutN
  rw [List.filter_eq_self]
  intro x hx
  exact decide_eq_true fun e => h (List.mem_map.mpr ⟨x, hx, e⟩)
theorem erase_cut (k : κ) : ∀ (xs : List (κ × β × γ)) (j : Nat) (p : β × γ), (xs.map (·.1)).Nodup → xs[j]? = some (k, p) → xs.eraseIdx j = cutN xs k
  | [], j, p, _, h => by simp at h
  | x :: xs, 0, p, hn, h => by
    rw [List.map_cons, List.nodup_cons] at hn
    have e : x = (k, p) := by simpa using h
    subst e
    have c : cutN ((k, p) :: xs) k = cutN xs k := by unfold cutN; rw [List.filter_cons]; simp
    rw [List.eraseIdx_cons_zero, c, cut_id k xs hn.1]
  | x :: xs, j + 1, p, hn, h => by
    rw [List.map_cons, List.nodup_cons] at hn
    have h' : xs[j]? = some (k, p) := by simpa using h
    have ne : x.1 ≠ k := fun e => hn.1 (List.mem_map.mpr ⟨(k, p), List.mem_of_getElem? h', e.symm⟩)
    have c : cutN (x :: xs) k = x :: cutN xs k := by unfold cutN; rw [List.filter_cons]; simp [ne]
    rw [List.eraseIdx_cons_succ, c, erase_cut k xs j p hn.2 h']
theorem nd_cut {xs : List (κ × β × γ)} (hn : (xs.map (·.1)).Nodup) (k : κ) : ((cutN xs k).map (·.1)).Nodup :=
  List.Nodup.sublist (List.Sublist.map _ List.filter_sublist) hn
theorem mem_cut {xs : List (κ × β × γ)} {k : κ} {x : κ × β × γ} (h : x ∈ cutN xs k) : x ∈ xs := (List.mem_filter.mp h).1
theorem map_erase {α δ : Type} (f : α → δ) : ∀ (xs : List α) (j : Nat), (xs.eraseIdx j).map f = (xs.map f).eraseIdx j
  | [], _ => rfl
  | _ :: _, 0 => rfl
  | x :: xs, j + 1 => by rw [List.eraseIdx_cons_succ, List.map_cons, List.map_cons, List.eraseIdx_cons_succ, map_erase f xs j]
theorem nd_store {xs : List (κ × β × γ)} (hn : (xs.map (·.1)).Nodup) (k : κ) (a : β) (v : γ) : ((storeN xs k a v).map (·.1)).Nodup := by
  cases q : atN xs k with
  | some p => rw [storeN_old q, keys_rep]; exact hn
  | none =>
    rw [storeN_new q, List.map_append, List.nodup_append]
    refine ⟨hn, by simp, ?_⟩
    intro x hx y hy e
    have hy' : y = k := by simpa using hy
    subst hy'
    subst e
    obtain ⟨z, hz, rfl⟩ := List.mem_map.mp hx
    obtain ⟨j, hj⟩ := List.mem_iff_getElem?.mp hz
    rw [atN_some hn (i := j) (p := z.2) hj] at q
    cases q
end lists

section
variable {prog : Program} {w : World} {A : Around} {E : Value → Shared → Prop} {s : Shared}
abbrev Ent := NestedKey × Value × Value
/-- the value v in the heap h is the key k, of a depth that the machine asks quietly -/
def NIs (h : Heap) (k : NestedKey) (v : Value) : Prop := NestedIs h k v ∧ k.depth ≤ 8
def entN (w : World) (x : Ent) : DictEntry := ⟨x.1.hash w, x.2.1, x.2.2⟩
def DictN (w : World) (h : Heap) (d : Addr) (xs : List Ent) : Prop :=
  ∃ o es ep, h.get? d = some o ∧ o.ExactDict ∧ o.data = .dict es ep ∧ es.toList = xs.map (entN w) ∧ (∀ x ∈ xs, NIs h x.1 x.2.1) ∧ (xs.map (·.1)).Nodup

theorem ent_at {es : Array DictEntry} {xs : List Ent} (he : es.toList = xs.map (entN w)) (j : Nat) : es[j]? = (xs[j]?).map (entN w) := by
  rw [← Array.getElem?_toList, he, List.getElem?_map]
theorem ent_size {es : Array DictEntry} {xs : List Ent} (he : es.toList = xs.map (entN w)) : es.size = xs.length := by
  rw [← Array.length_toList, he, List.length_map]
theorem DictN.typeIs {d : Addr} {xs : List Ent} (m : DictN w s.heap d xs) : s.TypeIs (.ref d) "dict" := let ⟨o, _, _, ho, hc, _⟩ := m; ⟨o, ho, hc.1⟩

theorem tell_quiet {u : Value} {k : NestedKey} {st : List Value} {Q : Bool → Shared → Prop} (hk : NIs s.heap k u) (hs : ∀ v ∈ st, ∃ j, NIs s.heap j v) (h : Q false s) :
    wpAny (model prog w) A (tableMayTell u st) Q E s := by
  unfold tableMayTell
  split
  · exact wpAny_pure h
  · refine wpAny_bind (quiet_key k u 8 s hk.1 hk.2 A E _ ?_)
    simp only [Bool.not_true, Bool.false_eq_true, if_false]
    refine wpAny_bind (wpAny_forIn_list _ (fun rest r s' => s' = s ∧ r = (none, ()) ∧ ∀ v ∈ rest, ∃ j, NIs s.heap j v) _ ?_ ?_ _ _ ⟨rfl, rfl, hs⟩)
    · rintro x rest r s' ⟨rfl, rfl, hr⟩
      obtain ⟨j, hj⟩ := hr x List.mem_cons_self
      refine wpAny_bind (quiet_key j x 8 _ hj.1 hj.2 A E _ ?_)
      simp only [Bool.not_true, Bool.false_eq_true, if_false]
      exact wpAny_pure ⟨rfl, rfl, fun v hv => hr v (List.mem_cons_of_mem _ hv)⟩
    · rintro r s' ⟨rfl, rfl, _⟩
      exact wpAny_pure h
end
end ND

set_option Elab.async false
set_option linter.all false
set_option maxRecDepth 100000
set_option maxHeartbeats 4000000
namespace ND
open PySem PySem.W PySem.Spec PyProof.Rows
section
variable {prog : Program} {w : World} {A : Around} {E : Value → Shared → Prop} {s : Shared}
/-- where the search stands: the places left, the hit so far -/
def Srch (xs : List Ent) (k : NestedKey) (left : List Nat) (hit : Option Nat) : Prop :=
  left.Nodup ∧ ((hit = none ∧ ∀ j p, xs[j]? = some (k, p) → j ∈ left) ∨ ∃ j p, hit = some j ∧ j ∉ left ∧ xs[j]? = some (k, p))
theorem Srch.skip {xs : List Ent} {k : NestedKey} {x : Nat} {left : List Nat} {hit : Option Nat} (h : Srch xs k (x :: left) hit) (hx : ∀ p, xs[x]? ≠ some (k, p)) : Srch xs k left hit := by
  obtain ⟨hn, h⟩ := h
  rw [List.nodup_cons] at hn
  refine ⟨hn.2, ?_⟩
  rcases h with ⟨e, h⟩ | ⟨j, p, e, hj, h⟩
  · refine .inl ⟨e, fun j p hp => ?_⟩
    rcases List.mem_cons.mp (h j p hp) with rfl | q
    · exact absurd hp (hx p)
    · exact q
  · exact .inr ⟨j, p, e, fun z => hj (List.mem_cons_of_mem _ z), h⟩
theorem Srch.fresh {xs : List Ent} {k : NestedKey} {x : Nat} {left : List Nat} {hit : Option Nat} {p : Value × Value} (hN : (xs.map (·.1)).Nodup) (h : Srch xs k (x :: left) hit) (hx : xs[x]? = some (k, p)) :
    hit = none ∧ Srch xs k left (some x) := by
  obtain ⟨hn, h⟩ := h
  rw [List.nodup_cons] at hn
  rcases h with ⟨e, _⟩ | ⟨j, q, e, hj, h⟩
  · exact ⟨e, hn.2, .inr ⟨x, p, rfl, hn.1, hx⟩⟩
  · exact absurd List.mem_cons_self (one_place hN h hx ▸ hj)
theorem places_nodup (n : Nat) (f : Nat → Option Int) (h : Int) : (placesWithHash n f h).Nodup := by
  unfold placesWithHash
  exact List.Nodup.sublist List.filter_sublist List.nodup_range
theorem mem_places {n : Nat} {f : Nat → Option Int} {h : Int} {j : Nat} : j ∈ placesWithHash n f h ↔ j < n ∧ f j = some h := by
  unfold placesWithHash
  rw [List.mem_filter, List.mem_range]
  simp

theorem dictFindN {d : Addr} {u : Value} {o : Obj} {es : Array DictEntry} {ep : Nat} {xs : List Ent} {k : NestedKey} {Q : Option Nat → Shared → Prop} (hu : A.units + 8 < cLine) (hk : NIs s.heap k u)
    (ho : s.heap.get? d = some o) (hd : o.data = .dict es ep) (he : es.toList = xs.map (entN w)) (his : ∀ x ∈ xs, NIs s.heap x.1 x.2.1) (hn : (xs.map (·.1)).Nodup)
    (h0 : (∀ (j : Nat) (p : Value × Value), xs[j]? ≠ some (k, p)) → Q none s) (h1 : ∀ (j : Nat) (p : Value × Value), xs[j]? = some (k, p) → Q (some j) s) :
    wpAny (model prog w) A (dictFind d u (k.hash w)) Q E s := by
  have hz := ent_size he
  have hpl : Srch xs k (placesWithHash es.size (fun i => es[i]?.map (·.hash)) (k.hash w)) none := by
    refine ⟨places_nodup _ _ _, .inl ⟨rfl, fun j p hj => mem_places.mpr ⟨?_, ?_⟩⟩⟩
    · rw [hz]; exact (List.getElem?_eq_some_iff.mp hj).1
    · rw [ent_at he j, hj]; rfl
  have hend : ∀ hit, Srch xs k [] hit → Q hit s := by
    rintro hit ⟨_, ⟨rfl, h⟩ | ⟨j, p, rfl, _, h⟩⟩
    · exact h0 fun j p hj => nomatch h j p hj
    · exact h1 j p h
  have ask : ∀ (x : Ent) (R : Bool → Shared → Prop), x ∈ xs → R (decide (x.1 = k)) s → wpAny (model prog w) A (eqBool x.2.1 u) R E s := fun x R hx hR => by
    refine eqAt_key x.1 k A s x.2.1 u (his x hx).1 hk.1 (by have := hk.2; omega) _ _ _ _ ?_
    rw [← NestedKey.decide_eq]
    exact hR
  have at_ : ∀ i e, es[i]? = some e → ∃ x, xs[i]? = some x ∧ x ∈ xs ∧ e = entN w x := fun i e hi => by
    rw [ent_at he i] at hi
    obtain ⟨x, hx, rfl⟩ := Option.map_eq_some_iff.mp hi
    exact ⟨x, hx, List.mem_of_getElem? hx, rfl⟩
  have hst : ∀ v ∈ (placesWithHash es.size (fun i => es[i]?.map (·.hash)) (k.hash w)).filterMap (fun i => es[i]?.map (·.key)), ∃ j, NIs s.heap j v := by
    intro v hv
    obtain ⟨i, _, hi⟩ := List.mem_filterMap.mp hv
    obtain ⟨e, he', rfl⟩ := Option.map_eq_some_iff.mp hi
    obtain ⟨x, _, hx, rfl⟩ := at_ i e he'
    exact ⟨x.1, his x hx⟩
  have hold : ¬ (es.any fun e => e.key == u && e.hash != k.hash w) = true := by
    rw [← Array.any_toList, List.any_eq_true]
    rintro ⟨e, hin, hc⟩
    rw [he] at hin
    obtain ⟨x, hx, rfl⟩ := List.mem_map.mp hin
    rw [Bool.and_eq_true, bne_iff_ne] at hc
    refine hc.2 ?_
    have e1 : x.2.1 = u := eq_of_beq hc.1
    have h3 := (his x hx).1
    rw [e1] at h3
    show x.1.hash w = k.hash w
    rw [NestedIs.inj _ _ _ h3 hk.1]
  unfold dictFind
  try with_reducible refine wpAny_holding ?_
  refine wpAny_bind (wpAny_dictEntries ho hd ?_)
  extract_lets places stored hit0 T G F
  have hpl' : Srch xs k places none := hpl
  have hst' : ∀ v ∈ stored, ∃ j, NIs s.heap j v := hst
  have hT : wpAny (model prog w) A (T false) Q E s := by
    dsimp -zeta only [T, hit0]
    extract_lets L
    rw [if_neg (by simp)]
    dsimp only [L]
    refine wpAny_bind (wpAny_forIn_list _ (fun left r s' => s' = s ∧ ∃ hit, r = (none, hit) ∧ Srch xs k left hit) _ ?_ ?_ _ _ ⟨rfl, none, rfl, hpl'⟩)
    · rintro i left r s' ⟨rfl, hit, rfl, hs⟩
      cases hi : es[i]? with
      | none =>
        refine wpAny_pure ⟨rfl, hit, rfl, hs.skip fun p hp => ?_⟩
        rw [ent_at he i, hp] at hi
        cases hi
      | some e =>
        obtain ⟨x, hx, hm, rfl⟩ := at_ i e hi
        dsimp only
        by_cases hh : ((entN w x).hash == k.hash w) = true
        · rw [if_pos hh]
          refine wpAny_bind (wpAny_dictEpoch ho hd (wpAny_bind (ask x _ hm (wpAny_bind (wpAny_dictEpoch ho hd ?_)))))
          rw [if_neg (by simp)]
          by_cases hkk : x.1 = k
          · obtain ⟨rfl, hs'⟩ := hs.fresh (p := x.2) hn (by rw [hx, ← hkk])
            rw [decide_eq_true hkk, if_pos rfl]
            rw [if_neg (by decide)]
            refine wpAny_bind (wpAny_rule ?_)
            split
            · exact wpAny_pure (wpAny_pure (h1 i x.2 (by rw [hx, ← hkk])))
            · exact wpAny_pure ⟨rfl, some i, rfl, hs'⟩
          · rw [decide_eq_false hkk, if_neg (by decide)]
            refine wpAny_bind (wpAny_rule ?_)
            rw [if_neg (by simp)]
            exact wpAny_pure ⟨rfl, hit, rfl, hs.skip fun p hp => by rw [hx] at hp; cases hp; exact hkk rfl⟩
        · rw [if_neg hh]
          refine wpAny_pure ⟨rfl, hit, rfl, hs.skip fun p hp => ?_⟩
          rw [hx] at hp; cases hp
          exact hh (by simp [entN])
    · rintro r s' ⟨rfl, hit, rfl, hs⟩
      exact wpAny_pure (hend hit hs)
  have hG : wpAny (model prog w) A (G ()) Q E s := by
    dsimp -zeta only [G]
    clear_value T
    split
    · exact wpAny_bind (wpAny_pure hT)
    · exact wpAny_bind (tell_quiet hk hst' hT)
  clear_value G
  have hF : wpAny (model prog w) A (F ()) Q E s := by
    dsimp -zeta only [F]
    by_cases hv : ((u :: stored).all carriedByValue) = true
    · rw [if_pos hv]
      unfold dictWalkPlain
      refine wpAny_bind (wpAny_forIn_list _ (fun left r s' => s' = s ∧ r = (none, ()) ∧ Srch xs k left none) _ ?_ ?_ _ _ ⟨rfl, rfl, hpl'⟩)
      · rintro i left r s' ⟨rfl, rfl, hs⟩
        cases hi : es[i]? with
        | none =>
          refine wpAny_pure ⟨rfl, rfl, hs.skip fun p hp => ?_⟩
          rw [ent_at he i, hp] at hi
          cases hi
        | some e =>
          obtain ⟨x, hx, hm, rfl⟩ := at_ i e hi
          dsimp only
          by_cases hh : ((entN w x).hash == k.hash w) = true
          · rw [if_pos hh]
            refine wpAny_bind (wpAny_dictEpoch ho hd (wpAny_bind (ask x _ hm (wpAny_bind (wpAny_dictEpoch ho hd ?_)))))
            rw [if_neg (by simp)]
            by_cases hkk : x.1 = k
            · rw [decide_eq_true hkk, if_pos rfl]
              refine wpAny_bind (wpAny_rule ?_)
              exact wpAny_pure (wpAny_pure (h1 i x.2 (by rw [hx, ← hkk])))
            · rw [decide_eq_false hkk, if_neg (by decide)]
              exact wpAny_bind (wpAny_rule (wpAny_pure ⟨rfl, rfl, hs.skip fun p hp => by rw [hx] at hp; cases hp; exact hkk rfl⟩))
          · rw [if_neg hh]
            refine wpAny_pure ⟨rfl, rfl, hs.skip fun p hp => ?_⟩
            rw [hx] at hp; cases hp
            exact hh (by simp [entN])
      · rintro r s' ⟨rfl, rfl, hs⟩
        exact wpAny_pure (hend none hs)
    · rw [if_neg hv]
      cases u with
      | ref a =>
        dsimp only
        rw [if_neg hold]
        exact hG
      | _ => exact hG
  clear_value F
  cases u with
  | str y t =>
    dsimp only
    by_cases hx : (es.all fun e => isExactStrKey e.key) = true
    · rw [if_pos hx]
      have ek : k = .text y := by
        have := hk.1
        cases this
        rfl
      unfold foundByValue
      cases hf : es.findIdx? (·.key.isStr y) with
      | none =>
        refine wpAny_pure (h0 fun j p hj => ?_)
        have hj' : es[j]? = some (entN w (k, p)) := by rw [ent_at he j, hj]; rfl
        have hz' := his _ (List.mem_of_getElem? hj)
        rw [ek] at hz'
        have hm : entN w (k, p) ∈ es := Array.mem_of_getElem? hj'
        have q := Array.findIdx?_eq_none_iff.mp hf _ hm
        obtain ⟨p1, p2⟩ := p
        have h3 : NestedIs s.heap (.text y) p1 := hz'.1
        cases h3
        simp [entN, Value.isStr] at q
      | some i =>
        obtain ⟨hi, q, _⟩ := Array.findIdx?_eq_some_iff_getElem.mp hf
        have hi' : es[i]? = some es[i] := Array.getElem?_eq_getElem hi
        obtain ⟨x, hx, hm, e⟩ := at_ i _ hi'
        dsimp only
        rw [hi', e]
        dsimp only
        have exk : x.1 = k := by
          rw [e] at q
          have h3 := (his x hm).1
          have e2 : x.2.1.isStr y = true := q
          rw [ek]
          obtain ⟨x1, x2, x3⟩ := x
          dsimp only at e2 h3 ⊢
          cases x2 <;> first | (cases e2; done) | skip
          cases h3
          have e3 := eq_of_beq e2
          rw [e3]
        refine wpAny_bind (wpAny_dictEpoch ho hd (wpAny_bind (ask x _ hm (wpAny_bind (wpAny_dictEpoch ho hd ?_)))))
        rw [if_neg (by simp), decide_eq_true exk, if_pos rfl]
        exact wpAny_bind (wpAny_rule (wpAny_pure (h1 i x.2 (by rw [hx, ← exk]))))
    · rw [if_neg hx]
      exact hF
  | _ => exact hF
end
end ND

set_option Elab.async false
set_option linter.all false
set_option maxRecDepth 100000
set_option maxHeartbeats 4000000
namespace ND
open PySem PySem.W PySem.Spec PyProof.Rows
section
variable {prog : Program} {w : World} {A : Around} {E : Value → Shared → Prop} {s : Shared} {d : Addr} {u v : Value} {k : NestedKey} {xs : List Ent}
theorem NIs.keep {h h' : Heap} {k : NestedKey} {u : Value} (x : NIs h k u) (g : ∀ b o vs n, h.get? b = some o → o.data = .seq vs n → h'.get? b = some o) : NIs h' k u := ⟨NestedIs.at g k u x.1, x.2⟩
/-- a dict's own writing keeps the keys -/
theorem NIs.write {h h' : Heap} {k : NestedKey} {u : Value} {o : Obj} {es ep} (x : NIs h k u) (ho : h.get? d = some o) (hd : o.data = .dict es ep) (hs : Heap.SameBut d h h') : NIs h' k u :=
  x.keep fun b ob vs n e q => (hs.2 b fun z => by rw [z, ho] at e; cases e; rw [hd] at q; cases q).trans e

theorem dictGetN {Q : Option Value → Shared → Prop} (hu : A.units + 8 < cLine) (hk : NIs s.heap k u) (m : DictN w s.heap d xs)
    (h : Q ((atN xs k).map (·.2)) { s with toks := s.toks + k.draws }) : wpAny (model prog w) A (dictGet d u) Q E s := by
  obtain ⟨o, es, ep, ho, hc, hd, he, his, hn⟩ := m
  unfold dictGet
  try with_reducible refine wpAny_holding ?_
  refine wpAny_bind (pyHash_key k u A s _ hk.1 (by have := hk.2; omega) (wpAny_bind (dictFindN (s := { s with toks := s.toks + k.draws }) hu hk ho hd he his hn (fun h0 => ?_) fun j p hj => ?_)))
  · rw [atN_none h0] at h
    exact wpAny_pure h
  · rw [atN_some hn hj] at h
    refine wpAny_bind (wpAny_dictEntries (s := { s with toks := s.toks + k.draws }) ho hd ?_)
    rw [ent_at he j, hj]
    exact wpAny_pure h

/-- the dict behind a value put at the place of the key j -/
theorem DictN.put {o : Obj} {es : Array DictEntry} {ep : Nat} (ho : s.heap.get? d = some o) (hc : o.ExactDict) (hd : o.data = .dict es ep) (he : es.toList = xs.map (entN w)) (his : ∀ x ∈ xs, NIs s.heap x.1 x.2.1) (hn : (xs.map (·.1)).Nodup)
    {j : Nat} {p : Value × Value} (hj : xs[j]? = some (k, p)) (key : Value) : DictN w (s.heap.update d (Obj.mapDict fun a => a.modify j fun e => { e with val := v })) d (storeN xs k key v) := by
  refine ⟨_, _, ep, Heap.get?_update_self _ ho (Obj.isFreed_of_dict (Obj.data_mapDict hd _)), hc.mapDict _, Obj.data_mapDict hd _, ?_, ?_, nd_store hn k key v⟩
  · rw [storeN_old (atN_some hn hj), ← mod_rep (entN w) (fun e : DictEntry => { e with val := v }) k v (fun _ _ => rfl) xs j p hn hj, ← he]
    obtain ⟨l⟩ := es
    simp
  · rw [storeN_old (atN_some hn hj)]
    intro x hx
    obtain ⟨y, hy, rfl⟩ := List.mem_map.mp hx
    have q := (his y hy).write ho hd (Heap.SameBut.update (h := s.heap) (a := d) (f := Obj.mapDict fun a => a.modify j fun e => { e with val := v }))
    unfold repN
    split <;> exact q
theorem DictN.add {o : Obj} {es : Array DictEntry} {ep : Nat} (hk : NIs s.heap k u) (ho : s.heap.get? d = some o) (hc : o.ExactDict) (hd : o.data = .dict es ep) (he : es.toList = xs.map (entN w)) (his : ∀ x ∈ xs, NIs s.heap x.1 x.2.1) (hn : (xs.map (·.1)).Nodup)
    (h0 : ∀ (j : Nat) (p : Value × Value), xs[j]? ≠ some (k, p)) : DictN w (s.heap.update d (Obj.mapDictKeys fun a => a.push ⟨k.hash w, u, v⟩)) d (storeN xs k u v) := by
  refine ⟨_, _, ep + 1, Heap.get?_update_self _ ho (Obj.isFreed_of_dict (Obj.data_mapDictKeys hd _)), hc.mapDictKeys _, Obj.data_mapDictKeys hd _, ?_, ?_, nd_store hn k u v⟩
  · rw [storeN_new (atN_none h0), List.map_append, ← he, Array.toList_push]
    rfl
  · rw [storeN_new (atN_none h0)]
    intro x hx
    have g := Heap.SameBut.update (h := s.heap) (a := d) (f := Obj.mapDictKeys fun a => a.push ⟨k.hash w, u, v⟩)
    rcases List.mem_append.mp hx with hx | hx
    · exact (his x hx).write ho hd g
    · have e : x = (k, u, v) := by simpa using hx
      rw [e]
      exact hk.write ho hd g
theorem DictN.cut {o : Obj} {es : Array DictEntry} {ep : Nat} (ho : s.heap.get? d = some o) (hc : o.ExactDict) (hd : o.data = .dict es ep) (he : es.toList = xs.map (entN w)) (his : ∀ x ∈ xs, NIs s.heap x.1 x.2.1) (hn : (xs.map (·.1)).Nodup)
    {j : Nat} {p : Value × Value} (hj : xs[j]? = some (k, p)) : DictN w (s.heap.update d (Obj.mapDictKeys fun a => a.eraseIdxIfInBounds j)) d (cutN xs k) := by
  refine ⟨_, _, ep + 1, Heap.get?_update_self _ ho (Obj.isFreed_of_dict (Obj.data_mapDictKeys hd _)), hc.mapDictKeys _, Obj.data_mapDictKeys hd _, ?_, ?_, nd_cut hn k⟩
  · rw [← erase_cut k xs j p hn hj, map_erase, ← he]
    obtain ⟨l⟩ := es
    simp
  · intro x hx
    exact (his x (mem_cut hx)).write ho hd (Heap.SameBut.update (h := s.heap) (a := d) (f := Obj.mapDictKeys fun a => a.eraseIdxIfInBounds j))

theorem dictSetN {Q : Unit → Shared → Prop} (hu : A.units + 8 < cLine) (hk : NIs s.heap k u) (m : DictN w s.heap d xs) (hz : xs.length ≤ sizeLine)
    (hQ : ∀ h', DictN w h' d (storeN xs k u v) → Heap.SameBut d s.heap h' → Q () { s with heap := h', toks := s.toks + k.draws }) : wpAny (model prog w) A (dictSet d u v) Q E s := by
  obtain ⟨o, es, ep, ho, hc, hd, he, his, hn⟩ := m
  have hes := ent_size he
  unfold dictSet
  try with_reducible refine wpAny_holding ?_
  refine wpAny_bind (pyHash_key k u A s _ hk.1 (by have := hk.2; omega) ?_)
  unfold dictSetHashed
  try with_reducible refine wpAny_holding ?_
  refine wpAny_bind (dictFindN (s := { s with toks := s.toks + k.draws }) hu hk ho hd he his hn (fun h0 => ?_) fun j p hj => ?_)
  · exact wpAny_bind (wpAny_rule (wpAny_updateDictKeys (hz := by omega) (s := { s with toks := s.toks + k.draws }) ho hd (hQ _ (DictN.add hk ho hc hd he his hn h0) (Heap.SameBut.update ..))))
  · exact wpAny_bind (wpAny_rule (wpAny_bind (wpAny_updateDict (s := { s with toks := s.toks + k.draws }) ho hd (wpAny_point (hQ _ (DictN.put ho hc hd he his hn hj u) (Heap.SameBut.update ..))))))

theorem setDefaultN {Q : Value → Shared → Prop} (hu : A.units + 8 < cLine) (hk : NIs s.heap k u) (m : DictN w s.heap d xs) (hz : xs.length ≤ sizeLine)
    (h1 : ∀ p, atN xs k = some p → Q p.2 { s with toks := s.toks + k.draws })
    (h2 : atN xs k = none → ∀ h', DictN w h' d (storeN xs k u v) → Heap.SameBut d s.heap h' → Q v { s with heap := h', toks := s.toks + k.draws }) : wpAny (model prog w) A (dictSetDefault d u v) Q E s := by
  obtain ⟨o, es, ep, ho, hc, hd, he, his, hn⟩ := m
  have hes := ent_size he
  unfold dictSetDefault
  try with_reducible refine wpAny_holding ?_
  refine wpAny_bind (pyHash_key k u A s _ hk.1 (by have := hk.2; omega) ?_)
  refine wpAny_bind (dictFindN (s := { s with toks := s.toks + k.draws }) hu hk ho hd he his hn (fun h0 => ?_) fun j p hj => ?_)
  · exact wpAny_bind (wpAny_rule (wpAny_bind (wpAny_updateDictKeys (hz := by omega) (s := { s with toks := s.toks + k.draws }) ho hd (wpAny_pure (h2 (atN_none h0) _ (DictN.add hk ho hc hd he his hn h0) (Heap.SameBut.update ..))))))
  · refine wpAny_bind (wpAny_dictEntries (s := { s with toks := s.toks + k.draws }) ho hd ?_)
    rw [ent_at he j, hj]
    exact wpAny_bind (wpAny_rule (wpAny_pure (h1 p (atN_some hn hj))))

theorem takeOutN {Q : Option DictEntry → Shared → Prop} (hu : A.units + 8 < cLine) (hk : NIs s.heap k u) (m : DictN w s.heap d xs) (hz : xs.length ≤ sizeLine)
    (h0 : atN xs k = none → Q none { s with toks := s.toks + k.draws })
    (h1 : ∀ e p, atN xs k = some p → e.val = p.2 → ∀ h', DictN w h' d (cutN xs k) → Heap.SameBut d s.heap h' → Q (some e) { s with heap := h', toks := s.toks + k.draws }) : wpAny (model prog w) A (Builtin.Dict.takeOut d u) Q E s := by
  obtain ⟨o, es, ep, ho, hc, hd, he, his, hn⟩ := m
  have hes := ent_size he
  unfold Builtin.Dict.takeOut
  try with_reducible refine wpAny_holding ?_
  refine wpAny_bind (pyHash_key k u A s _ hk.1 (by have := hk.2; omega) ?_)
  refine wpAny_bind (dictFindN (s := { s with toks := s.toks + k.draws }) hu hk ho hd he his hn (fun h => wpAny_pure (h0 (atN_none h))) fun j p hj => ?_)
  refine wpAny_bind (wpAny_dictEntries (s := { s with toks := s.toks + k.draws }) ho hd ?_)
  rw [ent_at he j, hj]
  exact wpAny_bind (wpAny_updateDictKeys (hz := by omega) (s := { s with toks := s.toks + k.draws }) ho hd (wpAny_pure (h1 _ p (atN_some hn hj) rfl _ (DictN.cut ho hc hd he his hn hj) (Heap.SameBut.update ..))))

/-! ### the operations -/
theorem containsN {Q : Bool → Shared → Prop} (hu : A.units + 9 < cLine) (hk : NIs s.heap k u) (hs : (d == sysModules) = false) (m : DictN w s.heap d xs)
    (h : Q (atN xs k).isSome { s with toks := s.toks + k.draws }) : wpAny (model prog w) A (contains (.ref d) u) Q E s := by
  refine wpAny_contains_slot m.typeIs F.slot_dict_contains ?_
  refine call_meetsIn F.slot_dict_contains m.typeIs F.entry_dict_contains (F.args_dict_contains_2 _ _) (S := fun A' R s' => A' = A ∧ s' = s ∧ R (.ok (.ret (.bool (atN xs k).isSome))) { s with toks := s.toks + k.draws }) (fun A' R s' hS => ?_) ⟨rfl, rfl, wpAny_truthy_bool h⟩
  obtain ⟨rfl, rfl, hq⟩ := hS
  show wpAny _ _ (dictGet d u >>= _) _ _ _
  refine wpAny_bind (dictGetN (A := A'.in1) (by show A'.units + 1 + 8 < cLine; omega) hk m ?_)
  cases hf : atN xs k with
  | some p =>
    rw [hf] at hq
    exact (show wpAny _ _ (ret (.bool true)) _ _ _ from wpAny_pure hq)
  | none =>
    rw [hf] at hq
    exact (show wpAny _ _ (Builtin.Dict.pendingKey? d u >>= _) _ _ _ from wpAny_bind (wpAny_pendingKey_other hs (wpAny_pure hq)))
theorem inN {Q : Value → Shared → Prop} (hu : A.units + 9 < cLine) (hk : NIs s.heap k u) (hs : (d == sysModules) = false) (m : DictN w s.heap d xs)
    (h : Q (.bool (atN xs k).isSome) { s with toks := s.toks + k.draws }) : wpAny (model prog w) A (compareOp .In u (.ref d)) Q E s := by
  show wpAny _ _ (do return .bool (← contains (.ref d) u)) Q E s
  exact wpAny_bind (containsN hu hk hs m (wpAny_pure h))
theorem notInN {Q : Value → Shared → Prop} (hu : A.units + 9 < cLine) (hk : NIs s.heap k u) (hs : (d == sysModules) = false) (m : DictN w s.heap d xs)
    (h : Q (.bool (!(atN xs k).isSome)) { s with toks := s.toks + k.draws }) : wpAny (model prog w) A (compareOp .NotIn u (.ref d)) Q E s := by
  show wpAny _ _ (do return .bool (!(← contains (.ref d) u))) Q E s
  exact wpAny_bind (containsN hu hk hs m (wpAny_pure h))
theorem getItemN {p : Value × Value} {Q : Value → Shared → Prop} (hu : A.units + 9 < cLine) (hk : NIs s.heap k u) (m : DictN w s.heap d xs) (hp : atN xs k = some p)
    (h : Q p.2 { s with toks := s.toks + k.draws }) : wpAny (model prog w) A (getItem (.ref d) u) Q E s := by
  refine wpAny_getItem_slot m.typeIs (by decide) F.slot_dict_getitem ?_
  refine call_meetsIn F.slot_dict_getitem m.typeIs F.entry_dict_getitem (F.args_dict_getitem_2 _ _) (S := fun A' R s' => A' = A ∧ s' = s ∧ R (.ok (.ret p.2)) { s with toks := s.toks + k.draws }) (fun A' R s' hS => ?_) ⟨rfl, rfl, h⟩
  obtain ⟨rfl, rfl, hq⟩ := hS
  show wpAny _ _ (dictGet d u >>= _) _ _ _
  refine wpAny_bind (dictGetN (A := A'.in1) (by show A'.units + 1 + 8 < cLine; omega) hk m ?_)
  rw [hp]
  exact wpAny_pure hq
theorem get1N {Q : Value → Shared → Prop} (hu : A.units + 9 < cLine) (hk : NIs s.heap k u) (hs : (d == sysModules) = false) (m : DictN w s.heap d xs)
    (h : Q (((atN xs k).map (·.2)).getD .none) { s with toks := s.toks + k.draws }) : wpAny (model prog w) A (call (.builtin "dict.get") [.ref d, u]) Q E s := by
  refine call_meetsIn F.slot_dict_get m.typeIs F.entry_dict_get (F.args_dict_get_2 _ _) (S := fun A' R s' => A' = A ∧ s' = s ∧ R (.ok (.ret (((atN xs k).map (·.2)).getD .none))) { s with toks := s.toks + k.draws }) (.of_wp fun A' R s' hS => ?_) ⟨rfl, rfl, h⟩
  obtain ⟨rfl, rfl, hq⟩ := hS
  show wpAny _ _ (dictGet d u >>= _) _ _ _
  refine wpAny_bind (dictGetN (A := A'.in1) (by show A'.units + 1 + 8 < cLine; omega) hk m ?_)
  cases hf : (atN xs k).map (·.2) with
  | some y =>
    rw [hf] at hq
    exact wpAny_pure ⟨y, rfl, hq⟩
  | none =>
    rw [hf] at hq
    exact (show wpAny _ _ (Builtin.Dict.missed d u >>= _) _ _ _ from wpAny_bind (wpAny_missed_other hs (wpAny_pure ⟨.none, rfl, hq⟩)))
theorem get2N {Q : Value → Shared → Prop} (hu : A.units + 9 < cLine) (hk : NIs s.heap k u) (hs : (d == sysModules) = false) (m : DictN w s.heap d xs)
    (h : Q (((atN xs k).map (·.2)).getD v) { s with toks := s.toks + k.draws }) : wpAny (model prog w) A (call (.builtin "dict.get") [.ref d, u, v]) Q E s := by
  refine call_meetsIn F.slot_dict_get m.typeIs F.entry_dict_get (F.args_dict_get_3 _ _ _) (S := fun A' R s' => A' = A ∧ s' = s ∧ R (.ok (.ret (((atN xs k).map (·.2)).getD v))) { s with toks := s.toks + k.draws }) (.of_wp fun A' R s' hS => ?_) ⟨rfl, rfl, h⟩
  obtain ⟨rfl, rfl, hq⟩ := hS
  show wpAny _ _ (dictGet d u >>= _) _ _ _
  refine wpAny_bind (dictGetN (A := A'.in1) (by show A'.units + 1 + 8 < cLine; omega) hk m ?_)
  cases hf : (atN xs k).map (·.2) with
  | some y =>
    rw [hf] at hq
    exact wpAny_pure ⟨y, rfl, hq⟩
  | none =>
    rw [hf] at hq
    exact (show wpAny _ _ (Builtin.Dict.missed d u >>= _) _ _ _ from wpAny_bind (wpAny_missed_other hs (wpAny_pure ⟨v, rfl, hq⟩)))
theorem setItemN {Q : Unit → Shared → Prop} (hu : A.units + 9 < cLine) (hk : NIs s.heap k u) (m : DictN w s.heap d xs) (hz : xs.length ≤ sizeLine)
    (hQ : ∀ h', DictN w h' d (storeN xs k u v) → Heap.SameBut d s.heap h' → Q () { s with heap := h', toks := s.toks + k.draws }) : wpAny (model prog w) A (setItem (.ref d) u v) Q E s := by
  unfold setItem
  try with_reducible refine wpAny_holding ?_
  refine wpAny_bind (wpAny_sequenceKey m.typeIs (by decide) ?_)
  refine wpAny_bind (wpAny_callSpecial?_slot (name := Str.ofString "__setitem__") m.typeIs F.slot_dict_setitem
    (wpAny_call_entry F.slot_dict_setitem m.typeIs F.entry_dict_setitem ?_ (F.args_dict_setitem_3 _ _ _)))
  show wpAny _ _ (Builtin.Dict.notOrdered "__setitem__" ⟨[.ref d, u, v], []⟩ >>= _) _ _ s
  refine wpAny_bind (wpAny_notOrdered_dict m.typeIs ?_)
  show wpAny _ _ (dictSet d u v >>= _) _ _ s
  exact wpAny_bind (dictSetN (A := A.in1) (by show A.units + 1 + 8 < cLine; omega) hk m hz fun h' m' hs' => wpAny_pure ⟨.none, rfl, wpAny_pure (hQ h' m' hs')⟩)
theorem setdefN {Q : Value → Shared → Prop} (hu : A.units + 9 < cLine) (hk : NIs s.heap k u) (hs : (d == sysModules) = false) (m : DictN w s.heap d xs) (hz : xs.length ≤ sizeLine)
    (h1 : ∀ p, atN xs k = some p → Q p.2 { s with toks := s.toks + k.draws })
    (h2 : atN xs k = none → ∀ h', DictN w h' d (storeN xs k u v) → Heap.SameBut d s.heap h' → Q v { s with heap := h', toks := s.toks + k.draws }) : wpAny (model prog w) A (call (.builtin "dict.setdefault") [.ref d, u, v]) Q E s := by
  refine call_meetsIn F.slot_dict_setdefault m.typeIs F.entry_dict_setdefault (F.args_dict_setdefault_3 _ _ _) (S := fun A' R s' => A' = A ∧ s' = s ∧ (∀ p, atN xs k = some p → R (.ok (.ret p.2)) { s with toks := s.toks + k.draws }) ∧
    (atN xs k = none → ∀ h', DictN w h' d (storeN xs k u v) → Heap.SameBut d s.heap h' → R (.ok (.ret v)) { s with heap := h', toks := s.toks + k.draws })) (.of_wp fun A' R s' hS => ?_) ⟨rfl, rfl, h1, h2⟩
  obtain ⟨rfl, rfl, q1, q2⟩ := hS
  unfold Builtin.«dict.setdefault»
  refine wpAny_bind ?_
  unfold Builtin.Dict.keyAndDefault
  refine wpAny_bind (wpAny_notOrdered_dict m.typeIs ?_)
  show wpAny _ _ (pure (d, u, some v)) _ _ _
  refine wpAny_pure ?_
  show wpAny _ _ (if (d == sysModules) = true then _ else (dictSetDefault d u v >>= _)) _ _ _
  rw [if_neg (by rw [hs]; exact Bool.false_ne_true)]
  exact wpAny_bind (setDefaultN (A := A'.in1) (by show A'.units + 1 + 8 < cLine; omega) hk m hz (fun p hp => wpAny_pure ⟨p.2, rfl, q1 p hp⟩) fun hn h' m' hs' => wpAny_pure ⟨v, rfl, q2 hn h' m' hs'⟩)
theorem delItemN {p : Value × Value} {Q : Unit → Shared → Prop} (hu : A.units + 9 < cLine) (hk : NIs s.heap k u) (hs : (d == sysModules) = false) (m : DictN w s.heap d xs) (hz : xs.length ≤ sizeLine) (hp : atN xs k = some p)
    (hQ : ∀ h', DictN w h' d (cutN xs k) → Heap.SameBut d s.heap h' → Q () { s with heap := h', toks := s.toks + k.draws }) : wpAny (model prog w) A (delItem (.ref d) u) Q E s := by
  refine wpAny_delItem_slot m.typeIs (by decide) F.slot_dict_delitem (call_meetsIn F.slot_dict_delitem m.typeIs F.entry_dict_delitem (F.args_dict_delitem_2 _ _)
    (S := fun A' R s' => A' = A ∧ s' = s ∧ ∀ h', DictN w h' d (cutN xs k) → Heap.SameBut d s.heap h' → R (.ok (.ret .none)) { s with heap := h', toks := s.toks + k.draws }) (.of_wp fun A' R s' hS => ?_) ⟨rfl, rfl, hQ⟩)
  obtain ⟨rfl, rfl, q⟩ := hS
  unfold Builtin.«dict.__delitem__»
  refine wpAny_bind ?_
  unfold Builtin.Dict.dictSlotArgs
  refine wpAny_bind (wpAny_notOrdered_dict m.typeIs ?_)
  show wpAny _ _ (pure (Value.ref d, u)) _ _ _
  refine wpAny_pure ?_
  show wpAny _ _ (Builtin.Dict.takeOut d u >>= _) _ _ _
  refine wpAny_bind (takeOutN (A := A'.in1) (by show A'.units + 1 + 8 < cLine; omega) hk m hz (fun hn => by rw [hn] at hp; cases hp) fun e p' hp' hv h' m' hs' => ?_)
  exact wpAny_bind (wpAny_letGo (wpAny_pure ⟨.none, rfl, q h' m' hs'⟩))
theorem DictN.raw {h : Heap} (m : DictN w h d xs) : ∃ es ep, h.DictRaw d es ep ∧ es.size = xs.length ∧ ∀ (i : Nat) (hi : i < es.size), ∃ x, xs[i]? = some x ∧ es[i].key = x.2.1 ∧ es[i].val = x.2.2 := by
  obtain ⟨o, es, ep, ho, hc, hd, he, his, hn⟩ := m
  have hz := ent_size he
  refine ⟨es, ep, ⟨o, ho, hc, hd⟩, hz, fun i hi => ?_⟩
  have e := ent_at he i
  have hx : xs[i]? = some (xs[i]'(by omega)) := List.getElem?_eq_getElem (by omega)
  rw [Array.getElem?_eq_getElem hi, hx, Option.map_some] at e
  have e' := Option.some.inj e
  exact ⟨_, hx, by rw [e']; rfl, by rw [e']; rfl⟩
end
end ND

set_option Elab.async false
set_option linter.all false
set_option maxRecDepth 100000
set_option maxHeartbeats 4000000
namespace ND
open PySem PySem.W PySem.Spec PyProof.Rows PySem.SeqAt
section
variable {prog : Program} {w : World} {A : Around} {E : Value → Shared → Prop} {s : Shared} {d : Addr} {xs : List Ent}

theorem lenBodyN {Q : Value → Shared → Prop} (hs : (d == sysModules) = false) (m : DictN w s.heap d xs) (hz : xs.length ≤ sizeLine)
    (h : Q (.int xs.length (s.toks + 1)) { s with toks := s.toks + 1 + 1 }) : wpAny (model prog w) A (Builtin.«len» ⟨[.ref d], []⟩) (fun fin s' => ∃ r, fin = .done (.ret r) ∧ Q r s') E s := by
  obtain ⟨es, ep, hr, hl, _⟩ := m.raw
  have hb : (xs.length : Int) < 2 ^ 63 := by rw [sizeLine_eq] at hz; omega
  unfold Builtin.«len»
  refine wpAny_bind (m := oneArg "len" _) (wpAny_pure ?_)
  refine wpAny_bind (m := callSpecial? (.ref d) (Str.ofString "__len__")) (wpAny_callSpecial?_slot (name := Str.ofString "__len__") m.typeIs F.slot_dict_len (call_len_raw hs hr ?_))
  rw [hl]
  show wpAny _ _ _ _ _ { s with toks := s.toks + 1 }
  refine wpAny_bind (wpAny_holding (wpAny_pure ?_))
  refine wpAny_bind (wpAny_letGo ?_)
  show wpAny _ _ (if ((xs.length : Nat) : Int) < 0 then _ else _) _ _ _
  rw [if_neg (by omega)]
  show wpAny _ _ (if ((xs.length : Nat) : Int) ≥ 2 ^ 63 then _ else _) _ _ _
  rw [if_neg (by omega)]
  exact wpAny_bind (wpAny_mkInt (wpAny_pure ⟨_, rfl, h⟩))
theorem call_lenN {Q : Value → Shared → Prop} (hs : (d == sysModules) = false) (m : DictN w s.heap d xs) (hz : xs.length ≤ sizeLine)
    (h : Q (.int xs.length (s.toks + 1)) { s with toks := s.toks + 1 + 1 }) : wpAny (model prog w) A (call (.builtin "len") [.ref d]) Q E s :=
  Calls.call_function_entry kind_len plain_len entry_len (args_len1 _) (lenBodyN hs m hz h)
theorem truthyN {Q : Bool → Shared → Prop} (hs : (d == sysModules) = false) (m : DictN w s.heap d xs) (hz : xs.length ≤ sizeLine)
    (h : Q (!xs.isEmpty) { s with toks := s.toks + 1 + 1 }) : wpAny (model prog w) A (truthy (.ref d)) Q E s := by
  have ne0 : ((xs.length : Int) != 0) = !xs.isEmpty := by cases xs <;> simp <;> omega
  have run : wpAny (model prog w) A (runValue (.builtin "len" ⟨[.ref d], []⟩)) (fun r s' => r = .int xs.length (s.toks + 1) ∧ Q (!xs.isEmpty) s') E s := by
    refine wpAny_runValue (codeAny_builtin entry_len ?_)
    rw [Around.under_plainId plain_len _]
    exact wpAny_mono (lenBodyN (Q := fun r s' => r = .int xs.length (s.toks + 1) ∧ Q (!xs.isEmpty) s') hs m hz ⟨rfl, h⟩) (fun fin s' q => by obtain ⟨r, rfl, q⟩ := q; exact q) fun _ _ e => e
  unfold truthy
  first
    | refine wpAny_bind (wpAny_callSpecial?_none (name := Str.ofString "__bool__") m.typeIs noBool_dict ?_)
    | refine wpAny_bind (wpAny_pure (wpAny_bind (wpAny_callSpecial?_none (name := Str.ofString "__bool__") m.typeIs noBool_dict ?_)))
  first
    | refine wpAny_bind (wpAny_specialOf (name := Str.ofString "__len__") m.typeIs F.slot_dict_len.lookup ?_)
    | refine wpAny_bind (wpAny_pure (wpAny_bind (wpAny_specialOf (name := Str.ofString "__len__") m.typeIs F.slot_dict_len.lookup ?_)))
  first
    | exact wpAny_bind (wpAny_mono run (fun r s' q => by obtain ⟨rfl, q⟩ := q; exact wpAny_pure (ne0 ▸ q)) fun _ _ e => e)
    | exact wpAny_bind (wpAny_pure (wpAny_bind (wpAny_mono run (fun r s' q => by obtain ⟨rfl, q⟩ := q; exact wpAny_pure (ne0 ▸ q)) fun _ _ e => e)))

/-- the pairs of one dict sought in another -/
inductive HitsN (prog : Program) (w : World) (A : Around) (s : Shared) (yb : List Ent) : List Ent → Bool → Prop
  | nil : HitsN prog w A s yb [] true
  | miss {k : NestedKey} {p : Value × Value} {r : List Ent} : atN yb k = none → HitsN prog w A s yb ((k, p) :: r) false
  | hit {k : NestedKey} {p q : Value × Value} {r : List Ent} {e b : Bool} : atN yb k = some q → EqP prog w A s p.2 q.2 e → HitsN prog w A s yb r b → HitsN prog w A s yb ((k, p) :: r) (e && b)
theorem HitsN.inv {yb : List Ent} {k : NestedKey} {p : Value × Value} {r : List Ent} {b : Bool} (h : HitsN prog w A s yb ((k, p) :: r) b) :
    (atN yb k = none ∧ b = false) ∨ ∃ q e b', atN yb k = some q ∧ EqP prog w A s p.2 q.2 e ∧ HitsN prog w A s yb r b' ∧ b = (e && b') := by
  cases h with
  | miss hn => exact .inl ⟨hn, rfl⟩
  | hit hy he hr => exact .inr ⟨_, _, _, hy, he, hr, rfl⟩
theorem samePairsN {nm : String} {a b : Addr} {xa xb : List Ent} {r : Bool} {Q : Bool → Shared → Prop} (hu : A.units + 8 < cLine) (ha : (a == sysModules) = false) (hb : (b == sysModules) = false)
    (da : DictN w s.heap a xa) (db : DictN w s.heap b xb) (hits : xa.length = xb.length → HitsN prog w A s xb xa r) (h : Q (xa.length == xb.length && r) s) :
    wpAny (model prog w) A (Builtin.Dict.samePairs nm a b) Q E s := by
  obtain ⟨oa, es, ep, hoa, _, hda, hea, hisa, _⟩ := da
  obtain ⟨ob, es', ep', hob, _, hdb, heb, hisb, hnb⟩ := db
  have za := ent_size hea
  have zb := ent_size heb
  rw [← za, ← zb] at h
  unfold Builtin.Dict.samePairs Builtin.Dict.showsAll
  rw [if_neg (show ¬ (a == sysModules) = true by rw [ha]; exact Bool.false_ne_true), if_neg (show ¬ (b == sysModules) = true by rw [hb]; exact Bool.false_ne_true)]
  refine wpAny_bind (wpAny_pure (wpAny_bind (wpAny_pure ?_)))
  refine wpAny_bind (wpAny_dictEntries hoa hda ?_)
  dsimp only
  refine wpAny_bind (wpAny_dictEntries hob hdb ?_)
  by_cases hsz : es.size = es'.size
  case neg =>
    rw [if_pos (by simpa using hsz)]
    rw [show (es.size == es'.size) = false by simpa using hsz, Bool.false_and] at h
    exact wpAny_bind (wpAny_rule (wpAny_pure h))
  case pos =>
    have hq : Q r s := by simpa [hsz] using h
    have hits' := hits (by omega)
    rw [if_neg (by rw [hsz]; simp)]
    refine wpAny_bind (wpAny_dictEpoch hoa hda (wpAny_bind ?_))
    rw [Std.Legacy.Range.forIn_eq_forIn_range']
    simp only [Std.Legacy.Range.size, Nat.sub_zero, Nat.add_sub_cancel, Nat.div_one]
    refine wpAny_forIn_list _ (fun left q s' => s' = s ∧ q = (none, ()) ∧ ∃ i, left = List.range' i (es.size - i) ∧ i ≤ es.size ∧ HitsN prog w A s xb (xa.drop i) r) _ ?_ ?_ _ _ ⟨rfl, rfl, 0, by simp, Nat.zero_le _, hits'⟩
    · rintro x left q s' ⟨rfl, rfl, i, hr, hi, hpre⟩
      have lt : i < es.size := by
        rcases Nat.lt_or_ge i es.size with z | z
        · exact z
        · rw [Nat.sub_eq_zero_of_le z] at hr; simp at hr
      obtain ⟨rfl, hleft⟩ : x = i ∧ left = List.range' (i + 1) (es.size - (i + 1)) := by
        rw [show es.size - i = (es.size - (i + 1)) + 1 by omega, List.range'_succ] at hr
        injection hr with h1 h2
        exact ⟨h1, h2⟩
      have ltx : x < xa.length := by omega
      have hx : xa[x]? = some xa[x] := List.getElem?_eq_getElem ltx
      refine wpAny_bind (wpAny_dictEntries hoa hda ?_)
      rw [ent_at hea x, hx]
      rw [List.drop_eq_getElem_cons ltx] at hpre
      have hm := hisa _ (List.mem_of_getElem? hx)
      generalize xa[x] = y0 at hpre hm ⊢
      obtain ⟨k, p⟩ := y0
      show wpAny _ _ (holding [p.1, p.2] _ >>= _) _ _ _
      refine wpAny_bind (wpAny_holding (wpAny_bind (dictFindN (k := k) hu hm hob hdb heb hisb hnb (fun h0 => ?_) fun j q hj => ?_)))
      · rcases hpre.inv with ⟨_, er⟩ | ⟨q, _, _, hy, _⟩
        · rw [er] at hq
          refine wpAny_pure ?_
          show wpAny _ _ (if (!false) = true then _ else _) _ _ _
          rw [if_pos (by decide)]
          exact wpAny_pure (wpAny_pure hq)
        · rw [atN_none h0] at hy; cases hy
      · refine wpAny_bind (wpAny_dictEntries hob hdb ?_)
        rw [ent_at heb j, hj]
        rcases hpre.inv with ⟨hno, _⟩ | ⟨q', e, b', hy, he, hrr, er⟩
        · rw [atN_some hnb hj] at hno; cases hno
        · rw [atN_some hnb hj] at hy
          cases hy
          refine wpAny_holding (he _ _ ?_)
          cases e with
          | false =>
            rw [er, Bool.false_and] at hq
            show wpAny _ _ (if (!false) = true then _ else _) _ _ _
            rw [if_pos (by decide)]
            exact wpAny_pure (wpAny_pure hq)
          | true =>
            rw [Bool.true_and] at er
            rw [← er] at hrr
            show wpAny _ _ (if (!true) = true then _ else _) _ _ _
            rw [if_neg (by decide)]
            refine wpAny_bind (wpAny_dictEpoch hoa hda ?_)
            rw [if_neg (by simp)]
            exact wpAny_pure ⟨rfl, rfl, x + 1, hleft, lt, hrr⟩
    · rintro q s' ⟨rfl, rfl, i, hr, hi, hpre⟩
      have hin : i = es.size := by
        rcases Nat.lt_or_ge i es.size with z | z
        · rw [show es.size - i = (es.size - (i + 1)) + 1 by omega, List.range'_succ] at hr; exact nomatch hr
        · exact Nat.le_antisymm hi z
      refine wpAny_pure ?_
      rw [hin, za, List.drop_length] at hpre
      cases hpre
      exact hq
theorem rcN {a b : Addr} {xa xb : List Ent} {r : Bool} (hu : A.units + 9 < cLine) (ha : (a == sysModules) = false) (hb : (b == sysModules) = false) (da : DictN w s.heap a xa) (db : DictN w s.heap b xb)
    (hits : xa.length = xb.length → HitsN prog w A.in1 s xb xa r) (E Q : Value → Shared → Prop) (h : Q (.bool (xa.length == xb.length && r)) s) : wpAny (model prog w) A (richCompare .Eq (.ref a) (.ref b)) Q E s := by
  refine wpAny_richCompare_same_room (op := .Eq) da.typeIs db.typeIs F.slot_dict_eq (wpAny_call_entry F.slot_dict_eq da.typeIs F.entry_dict_eq ?_ (F.args_dict_eq_2 _ _)) (by omega)
  show wpAny _ _ (Builtin.Dict.dictSlotArgs "__eq__" ⟨[.ref a, .ref b], []⟩ >>= _) _ _ s
  refine wpAny_bind ?_
  unfold Builtin.Dict.dictSlotArgs
  refine wpAny_bind (wpAny_notOrdered_dict da.typeIs ?_)
  show wpAny _ _ (pure (Value.ref a, Value.ref b)) _ _ s
  refine wpAny_pure ?_
  refine wpAny_bind (wpAny_isInstance (T := "dict") db.typeIs F.sub_dict_dict ?_)
  simp only [Bool.not_true, Bool.false_eq_true, if_false]
  refine wpAny_bind (wpAny_pure (wpAny_bind (wpAny_pure ?_)))
  refine wpAny_bind (samePairsN (A := A.in1) (by show A.units + 1 + 8 < cLine; omega) ha hb da db hits ?_)
  refine wpAny_pure ⟨_, rfl, ?_, ?_⟩
  · exact fun x => nomatch x
  · simpa using h
end
end ND

set_option Elab.async false
set_option linter.all false
set_option maxRecDepth 100000
set_option maxHeartbeats 4000000
/-! The same over the layer. -/
namespace ND
open PySem PySem.Spec L2

mutual
/-- the value v is the key k -/
inductive KIs (H : Hp) : NestedKey → V → Prop
  | none : KIs H .none .non
  | bool (b : Bool) : KIs H (.num (if b = true then 1 else 0)) (.bl b)
  | int (i : Int) : KIs H (.num i) (.int i)
  | text (x : Str) : KIs H (.text x) (.str x)
  | tup {a : Addr} {ks : List NestedKey} {vs : List V} : H a = some (.tup vs) → KAll H ks vs → KIs H (.tup ks) (.ref a)
inductive KAll (H : Hp) : List NestedKey → List V → Prop
  | nil : KAll H [] []
  | cons {k : NestedKey} {v : V} {ks : List NestedKey} {vs : List V} : KIs H k v → KAll H ks vs → KAll H (k :: ks) (v :: vs)
end
mutual
theorem KIs.keep {H H' : Hp} (g : ∀ b xs, H b = some (.tup xs) → H' b = some (.tup xs)) : ∀ {k : NestedKey} {v : V}, KIs H k v → KIs H' k v
  | _, _, .none => .none
  | _, _, .bool b => .bool b
  | _, _, .int i => .int i
  | _, _, .text x => .text x
  | _, _, .tup e r => .tup (g _ _ e) (KAll.keep g r)
theorem KAll.keep {H H' : Hp} (g : ∀ b xs, H b = some (.tup xs) → H' b = some (.tup xs)) : ∀ {ks : List NestedKey} {vs : List V}, KAll H ks vs → KAll H' ks vs
  | _, _, .nil => .nil
  | _, _, .cons h t => .cons (h.keep g) (t.keep g)
end
mutual
theorem KIs.run {P : Program} {w : World} {H : Hp} {h : Heap} (ok : HOk P w H h) : ∀ {k : NestedKey} {v : V} {u : Value}, KIs H k v → RelV v u → NestedIs h k u
  | _, _, u, .none, r => by cases (show u = Value.none from r); exact .none
  | _, _, u, .bool b, r => by cases (show u = Value.bool b from r); exact .bool rfl
  | _, _, u, .int i, r => by obtain ⟨t, rfl⟩ := (show ∃ t, u = Value.int i t from r); exact .int i t
  | _, _, u, .text x, r => by obtain ⟨t, rfl⟩ := (show ∃ t, u = Value.str x t from r); exact .text x t
  | _, _, u, .tup (a := a) (vs := vs) e q, r => by
    cases (show u = Value.ref a from r)
    obtain ⟨_, its, rv, o, h1, h2, n, h3⟩ := (show ObjOk P w H h a (.tup vs) from ok a _ e)
    exact .tup h1 h2 h3 (by simpa using KAll.run ok q rv)
theorem KAll.run {P : Program} {w : World} {H : Hp} {h : Heap} (ok : HOk P w H h) : ∀ {ks : List NestedKey} {vs : List V} {us : List Value}, KAll H ks vs → Vals vs us → NestedAll h ks us
  | _, _, _, .nil, .nil => .nil
  | _, _, _, .cons a b, .cons r t => .cons (a.run ok r) (b.run ok t)
end

abbrev EntV := NestedKey × V × V
def RelE (x : EntV) (u : Ent) : Prop := x.1 = u.1 ∧ RelV x.2.1 u.2.1 ∧ RelV x.2.2 u.2.2
/-- the dict at d by its entries -/
def dPhi (w : World) (d : Addr) (xs : List EntV) (h : Heap) : Prop :=
  xs.length ≤ sizeLine ∧ (d == sysModules) = false ∧ (xs.map (·.1)).Nodup ∧ ∃ (us : List Ent) (o : Obj) (es : Array DictEntry) (ep : Nat), Paired RelE xs us ∧ h.get? d = some o ∧ o.ExactDict ∧ o.data = .dict es ep ∧ es.toList = us.map (entN w)
def dictO (w : World) (d : Addr) (xs : List EntV) : HO := .ext (dPhi w d xs)
/-- its keys, where they stand -/
def Keys (H : Hp) (xs : List EntV) : Prop := ∀ x ∈ xs, KIs H x.1 x.2.1 ∧ x.1.depth ≤ 8
theorem Keys.keep {H H' : Hp} {xs : List EntV} (h : Keys H xs) (g : ∀ b ys, H b = some (.tup ys) → H' b = some (.tup ys)) : Keys H' xs := fun x hx => ⟨(h x hx).1.keep g, (h x hx).2⟩
theorem Keys.nil {H : Hp} : Keys H [] := fun _ h => nomatch h
/-- a dict that may be read -/
def DNr (w : World) (H : Hp) (d : Addr) (xs : List EntV) : Prop := Rd H d (dictO w d xs) ∧ Keys H xs
/-- a dict of ours -/
def DN (w : World) (H : Hp) (d : Addr) (xs : List EntV) : Prop := H d = some (dictO w d xs) ∧ Keys H xs
theorem DN.r {w : World} {H : Hp} {d : Addr} {xs : List EntV} (h : DN w H d xs) : DNr w H d xs := ⟨.inl h.1, h.2⟩
theorem DNr.frz {w : World} {H : Hp} {d : Addr} {xs : List EntV} {o : Obj} (h : H d = some (.frz o (dictO w d xs))) (k : Keys H xs) : DNr w H d xs := ⟨.inr ⟨o, h⟩, k⟩
theorem dictO_ok {P : Program} {w : World} {H : Hp} {h : Heap} {d : Addr} {xs : List EntV} (p : dPhi w d xs h) : ObjOk P w H h d (dictO w d xs) := by
  obtain ⟨a, b, n, us, o, es, ep, r, ho, q⟩ := p
  refine ⟨⟨a, b, n, us, o, es, ep, r, ho, q⟩, ⟨o, ho⟩, ?_⟩
  rintro h1 h2 ⟨a, b, n, us, o, es, ep, r, ho, q⟩ k
  exact ⟨a, b, n, us, o, es, ep, r, k o ho, q⟩
theorem relE_keys {xs : List EntV} {us : List Ent} (r : Paired RelE xs us) : xs.map (·.1) = us.map (·.1) := by
  induction r with
  | nil => rfl
  | cons h _ ih => rw [List.map_cons, List.map_cons, h.1, ih]
theorem relE_at {xs : List EntV} {us : List Ent} (r : Paired RelE xs us) (k : NestedKey) :
    (atN xs k = none ∧ atN us k = none) ∨ ∃ p q, atN xs k = some p ∧ atN us k = some q ∧ RelV p.1 q.1 ∧ RelV p.2 q.2 := by
  induction r with
  | nil => exact .inl ⟨rfl, rfl⟩
  | @cons a b l₁ l₂ h t ih =>
    by_cases e : a.1 = k
    · have e' : b.1 = k := h.1.symm.trans e
      exact .inr ⟨a.2, b.2, by simp [atN, List.find?_cons, e], by simp [atN, List.find?_cons, e'], h.2.1, h.2.2⟩
    · have e' : ¬ b.1 = k := fun z => e (h.1.trans z)
      have e1 : atN (a :: l₁) k = atN l₁ k := by simp [atN, List.find?_cons, e]
      have e2 : atN (b :: l₂) k = atN l₂ k := by simp [atN, List.find?_cons, e']
      rw [e1, e2]
      exact ih
theorem relE_isSome {xs : List EntV} {us : List Ent} (r : Paired RelE xs us) (k : NestedKey) : (atN us k).isSome = (atN xs k).isSome := by
  rcases relE_at r k with ⟨a, b⟩ | ⟨p, q, a, b, _⟩ <;> rw [a, b] <;> rfl
theorem relE_store {xs : List EntV} {us : List Ent} (r : Paired RelE xs us) (k : NestedKey) {y v : V} {u u' : Value} (ry : RelV y u) (rv : RelV v u') : Paired RelE (storeN xs k y v) (storeN us k u u') := by
  rcases relE_at r k with ⟨a, b⟩ | ⟨p, q, a, b, _⟩
  · rw [storeN_new a, storeN_new b]
    exact Paired.snoc r ⟨rfl, ry, rv⟩
  · rw [storeN_old a, storeN_old b]
    clear a b
    induction r with
    | nil => exact .nil
    | @cons c d l₁ l₂ h t ih =>
      rw [List.map_cons, List.map_cons]
      refine .cons ?_ ih
      unfold repN
      by_cases e : c.1 = k
      · rw [if_pos e, if_pos (h.1.symm.trans e)]; exact ⟨h.1, h.2.1, rv⟩
      · rw [if_neg e, if_neg (fun z => e (h.1.trans z))]; exact h
theorem relE_cut {xs : List EntV} {us : List Ent} (r : Paired RelE xs us) (k : NestedKey) : Paired RelE (cutN xs k) (cutN us k) := by
  unfold cutN
  induction r with
  | nil => exact .nil
  | @cons c d l₁ l₂ h t ih =>
    rw [List.filter_cons, List.filter_cons]
    by_cases e : c.1 = k
    · rw [if_neg (by simp [e]), if_neg (by simp [h.1.symm.trans e])]; exact ih
    · rw [if_pos (by simp [e]), if_pos (by simpa using fun z => e (h.1.trans z))]; exact .cons h ih
theorem len_store {β γ : Type} (xs : List (NestedKey × β × γ)) (k : NestedKey) (a : β) (v : γ) : (storeN xs k a v).length ≤ xs.length + 1 := by
  unfold storeN
  split
  · rw [List.length_map]; omega
  · simp
theorem len_cut {β γ : Type} (xs : List (NestedKey × β × γ)) (k : NestedKey) : (cutN xs k).length ≤ xs.length := List.length_filter_le _ _

section
variable {X : Cx} {pins : List (Addr × Obj)} {σ : St} {H : Hp} {s : Shared} {d : Addr} {y v : V} {u r : Value} {k : NestedKey} {xs : List EntV} {A : Around} {E : Value → Shared → Prop}
theorem dn_at (I : Inv X pins σ H s) (h : DNr X.w H d xs) : ∃ us, Paired RelE xs us ∧ DictN X.w s.heap d us ∧ (d == sysModules) = false ∧ xs.length ≤ sizeLine ∧ us.length = xs.length := by
  obtain ⟨⟨a, b, n, us, o, es, ep, rel, ho, hc, hd, he⟩, _⟩ := (show ObjOk X.prog X.w H s.heap d (dictO X.w d xs) from h.1.ok I.hok)
  refine ⟨us, rel, ⟨o, es, ep, ho, hc, hd, he, fun x hx => ?_, by rw [← relE_keys rel]; exact n⟩, b, a, rel.length.symm⟩
  obtain ⟨i, hi⟩ := List.mem_iff_getElem?.mp hx
  have hl : i < xs.length := by rw [rel.length]; exact (List.getElem?_eq_some_iff.mp hi).1
  have hx' : xs[i]? = some xs[i] := List.getElem?_eq_getElem hl
  obtain ⟨b', hb, q⟩ := paired_get rel hx'
  rw [hi] at hb
  cases hb
  have kk := h.2 _ (List.mem_of_getElem? hx')
  rw [q.1] at kk
  exact ⟨kk.1.run I.hok q.2.1, kk.2⟩
theorem key_at (I : Inv X pins σ H s) (h : KIs H k y) (hd : k.depth ≤ 8) (ry : RelV y u) : NIs s.heap k u := ⟨h.run I.hok ry, hd⟩
theorem dn_typeIs (I : Inv X pins σ H s) (h : DNr X.w H d xs) : s.TypeIs (.ref d) "dict" ∧ ∀ b, Value.ref d = .ref b → ∃ ob, s.heap.get? b = some ob ∧ ob.dict = none := by
  obtain ⟨us, _, m, _⟩ := dn_at I h
  refine ⟨m.typeIs, fun b e => ?_⟩
  cases e
  obtain ⟨o, _, _, ho, hc, _⟩ := m
  exact ⟨o, ho, hc.2.1⟩
/-- behind a writing -/
theorem dn_write {us : List Ent} {xs' : List EntV} {h' : Heap} {t' : Nat} (I : Inv X pins σ H s) (h : H d = some (dictO X.w d xs)) (hs : Heap.SameBut d s.heap h') (m : DictN X.w h' d us) (rel : Paired RelE xs' us) (hz : xs'.length ≤ sizeLine) :
    Inv X pins σ (upd H d (dictO X.w d xs')) { s with heap := h', toks := t' } := by
  obtain ⟨_, b, _⟩ := (show ObjOk X.prog X.w H s.heap d (dictO X.w d xs) from I.hok d _ h).1
  obtain ⟨o, es, ep, ho, hc, hd, he, _, hn⟩ := m
  exact d_write I (by rw [h]; exact True.intro) hs ⟨o, ho⟩ (dictO_ok ⟨hz, b, by rw [relE_keys rel]; exact hn, us, o, es, ep, rel, ho, hc, hd, he⟩)

theorem d_inN {Q : Value → Shared → Prop} (hu : A.units + 9 < cLine) (I : Inv X pins σ H s) (h : DNr X.w H d xs) (hk : KIs H k y) (hd : k.depth ≤ 8) (ry : RelV y u) (q : ∀ s', Inv X pins σ H s' → Q (.bool (atN xs k).isSome) s') :
    wpAny (model X.prog X.w) A (compareOp .In u (.ref d)) Q E s := by
  obtain ⟨us, rel, m, hs, _⟩ := dn_at I h
  refine inN hu (key_at I hk hd ry) hs m ?_
  rw [relE_isSome rel]
  exact q _ (I.tok _)
theorem d_notInN {Q : Value → Shared → Prop} (hu : A.units + 9 < cLine) (I : Inv X pins σ H s) (h : DNr X.w H d xs) (hk : KIs H k y) (hd : k.depth ≤ 8) (ry : RelV y u) (q : ∀ s', Inv X pins σ H s' → Q (.bool (!(atN xs k).isSome)) s') :
    wpAny (model X.prog X.w) A (compareOp .NotIn u (.ref d)) Q E s := by
  obtain ⟨us, rel, m, hs, _⟩ := dn_at I h
  refine notInN hu (key_at I hk hd ry) hs m ?_
  rw [relE_isSome rel]
  exact q _ (I.tok _)
theorem d_getItemN {p : V × V} {Q : Value → Shared → Prop} (hu : A.units + 9 < cLine) (I : Inv X pins σ H s) (h : DNr X.w H d xs) (hk : KIs H k y) (hd : k.depth ≤ 8) (ry : RelV y u) (hp : atN xs k = some p)
    (q : ∀ w' s', Inv X pins σ H s' → RelV p.2 w' → Q w' s') : wpAny (model X.prog X.w) A (getItem (.ref d) u) Q E s := by
  obtain ⟨us, rel, m, hs, _⟩ := dn_at I h
  rcases relE_at rel k with ⟨a, _⟩ | ⟨p', q', a, b, _, r2⟩
  · rw [a] at hp; cases hp
  · rw [hp] at a
    cases a
    exact getItemN hu (key_at I hk hd ry) m b (q _ _ (I.tok _) r2)
theorem d_get2N {z : V} {Q : Value → Shared → Prop} (hu : A.units + 9 < cLine) (I : Inv X pins σ H s) (h : DNr X.w H d xs) (hk : KIs H k y) (hd : k.depth ≤ 8) (ry : RelV y u) (rz : RelV z r)
    (q : ∀ w' s', Inv X pins σ H s' → RelV (((atN xs k).map (·.2)).getD z) w' → Q w' s') : wpAny (model X.prog X.w) A (call (.builtin "dict.get") [.ref d, u, r]) Q E s := by
  obtain ⟨us, rel, m, hs, _⟩ := dn_at I h
  refine get2N hu (key_at I hk hd ry) hs m (q _ _ (I.tok _) ?_)
  rcases relE_at rel k with ⟨a, b⟩ | ⟨p', q', a, b, _, r2⟩
  · rw [a, b]; exact rz
  · rw [a, b]; exact r2
theorem d_get1N {Q : Value → Shared → Prop} (hu : A.units + 9 < cLine) (I : Inv X pins σ H s) (h : DNr X.w H d xs) (hk : KIs H k y) (hd : k.depth ≤ 8) (ry : RelV y u)
    (q : ∀ w' s', Inv X pins σ H s' → RelV (((atN xs k).map (·.2)).getD .non) w' → Q w' s') : wpAny (model X.prog X.w) A (call (.builtin "dict.get") [.ref d, u]) Q E s := by
  obtain ⟨us, rel, m, hs, _⟩ := dn_at I h
  refine get1N hu (key_at I hk hd ry) hs m (q _ _ (I.tok _) ?_)
  rcases relE_at rel k with ⟨a, b⟩ | ⟨p', q', a, b, _, r2⟩
  · rw [a, b]; exact rfl
  · rw [a, b]; exact r2
theorem d_setItemN {Q : Unit → Shared → Prop} (hu : A.units + 9 < cLine) (I : Inv X pins σ H s) (h : DN X.w H d xs) (hk : KIs H k y) (hd : k.depth ≤ 8) (ry : RelV y u) (rv : RelV v r) (hl : xs.length < sizeLine)
    (q : ∀ s', Inv X pins σ (upd H d (dictO X.w d (storeN xs k y v))) s' → Q () s') : wpAny (model X.prog X.w) A (setItem (.ref d) u r) Q E s := by
  obtain ⟨us, rel, m, hs, hz, e⟩ := dn_at I h.r
  refine setItemN hu (key_at I hk hd ry) m (by omega) fun h' m' sb => q _ ?_
  exact dn_write I h.1 sb m' (relE_store rel k ry rv) (by have := len_store xs k y v; omega)
theorem d_delItemN {Q : Unit → Shared → Prop} (hu : A.units + 9 < cLine) (I : Inv X pins σ H s) (h : DN X.w H d xs) (hk : KIs H k y) (hd : k.depth ≤ 8) (ry : RelV y u) (hp : (atN xs k).isSome = true)
    (q : ∀ s', Inv X pins σ (upd H d (dictO X.w d (cutN xs k))) s' → Q () s') : wpAny (model X.prog X.w) A (delItem (.ref d) u) Q E s := by
  obtain ⟨us, rel, m, hs, hz, e⟩ := dn_at I h.r
  rw [← relE_isSome rel] at hp
  obtain ⟨p, hp⟩ := Option.isSome_iff_exists.mp hp
  refine delItemN hu (key_at I hk hd ry) hs m (by omega) hp fun h' m' sb => q _ ?_
  exact dn_write I h.1 sb m' (relE_cut rel k) (by have := len_cut xs k; omega)
theorem d_setdN {Q : Value → Shared → Prop} (hu : A.units + 9 < cLine) (I : Inv X pins σ H s) (h : DN X.w H d xs) (hk : KIs H k y) (hd : k.depth ≤ 8) (ry : RelV y u) (rv : RelV v r) (hl : xs.length < sizeLine)
    (q1 : ∀ p, atN xs k = some p → ∀ w' s', Inv X pins σ H s' → RelV p.2 w' → Q w' s')
    (q2 : atN xs k = none → ∀ s', Inv X pins σ (upd H d (dictO X.w d (storeN xs k y v))) s' → Q r s') : wpAny (model X.prog X.w) A (call (.builtin "dict.setdefault") [.ref d, u, r]) Q E s := by
  obtain ⟨us, rel, m, hs, hz, e⟩ := dn_at I h.r
  refine setdefN hu (key_at I hk hd ry) hs m (by omega) (fun p' hp => ?_) fun hn h' m' sb => ?_
  · rcases relE_at rel k with ⟨a, b⟩ | ⟨p, q', a, b, _, r2⟩
    · rw [hp] at b; cases b
    · rw [hp] at b; cases b
      exact q1 p a _ _ (I.tok _) r2
  · rcases relE_at rel k with ⟨a, b⟩ | ⟨p, q', a, b, _, r2⟩
    · exact q2 a _ (dn_write I h.1 sb m' (relE_store rel k ry rv) (by have := len_store xs k y v; omega))
    · rw [hn] at b; cases b
end
end ND

set_option Elab.async false
set_option linter.all false
set_option maxRecDepth 100000
set_option maxHeartbeats 4000000
/-! Rules over such dicts. -/
namespace ND
open PySem PySem.Spec L2
/-- the value y is the key k in H, of a right depth -/
def KAt (H : Hp) (k : NestedKey) (y : V) : Prop := KIs H k y ∧ k.depth ≤ 8
theorem KAt.text {H : Hp} (x : Str) : KAt H (.text x) (.str x) := ⟨.text x, by simp [NestedKey.depth]⟩
theorem KAt.int {H : Hp} (i : Int) : KAt H (.num i) (.int i) := ⟨.int i, by simp [NestedKey.depth]⟩

/-- y in d, y not in d -/
def tNIn (w : World) (ty td : TE) : TE := fun σ H Q => ty σ H fun y H1 => td σ H1 fun x H2 => ∃ d xs k, x = .ref d ∧ DNr w H2 d xs ∧ KAt H2 k y ∧ Q (.bl (atN xs k).isSome) H2
def tNNotIn (w : World) (ty td : TE) : TE := fun σ H Q => ty σ H fun y H1 => td σ H1 fun x H2 => ∃ d xs k, x = .ref d ∧ DNr w H2 d xs ∧ KAt H2 k y ∧ Q (.bl (!(atN xs k).isSome)) H2
/-- d[y] -/
def tNGet (w : World) (td ty : TE) : TE := fun σ H Q => td σ H fun x H1 => ty σ H1 fun y H2 => ∃ d xs k p, x = .ref d ∧ DNr w H2 d xs ∧ KAt H2 k y ∧ atN xs k = some p ∧ Q p.2 H2
/-- d.get(y), d.get(y, z) -/
def tNGet1 (w : World) (td ty : TE) : TE := fun σ H Q => td σ H fun x H1 => ∃ d, x = .ref d ∧ (∃ xs, DNr w H1 d xs) ∧ ty σ H1 fun y H2 => ∃ xs k, DNr w H2 d xs ∧ KAt H2 k y ∧ Q (((atN xs k).map (·.2)).getD .non) H2
def tNGet2 (w : World) (td ty tz : TE) : TE := fun σ H Q => td σ H fun x H1 => ∃ d, x = .ref d ∧ (∃ xs, DNr w H1 d xs) ∧ ty σ H1 fun y H2 => tz σ H2 fun z H3 => ∃ xs k, DNr w H3 d xs ∧ KAt H3 k y ∧ Q (((atN xs k).map (·.2)).getD z) H3
/-- d.setdefault(y, z) -/
def tNSetd (w : World) (td ty tz : TE) : TE := fun σ H Q => td σ H fun x H1 => ∃ d, x = .ref d ∧ (∃ xs, DNr w H1 d xs) ∧ ty σ H1 fun y H2 => tz σ H2 fun z H3 => ∃ xs k, DN w H3 d xs ∧ KAt H3 k y ∧ xs.length < sizeLine ∧
  (∀ p, atN xs k = some p → Q p.2 H3) ∧ (atN xs k = none → Q z (upd H3 d (dictO w d (storeN xs k y z))))
/-- d[y] = v -/
def sNPut (w : World) (td ty tv : TE) : TS := fun D σ H => tv σ H fun v H1 => td σ H1 fun x H2 => ty σ H2 fun y H3 => ∃ d xs k, x = .ref d ∧ DN w H3 d xs ∧ KAt H3 k y ∧ xs.length < sizeLine ∧ D.nx σ (upd H3 d (dictO w d (storeN xs k y v)))
/-- del d[y] -/
def sNDel (w : World) (td ty : TE) : TS := fun D σ H => td σ H fun x H1 => ty σ H1 fun y H2 => ∃ d xs k, x = .ref d ∧ DN w H2 d xs ∧ KAt H2 k y ∧ (atN xs k).isSome = true ∧ D.nx σ (upd H2 d (dictO w d (cutN xs k)))
/-- {} -/
def tNNew (w : World) : TE := fun _ H Q => ∀ p, H p = none → Q (.ref p) (upd H p (dictO w p []))
/-- len(d), if d -/
def rNLen (w : World) : List V → Hp → VK → Prop := fun vs H Q => ∃ d xs, vs = [.ref d] ∧ DNr w H d xs ∧ Q (.int xs.length) H
def tNTru (w : World) (td : TE) : TT := fun σ H Q => td σ H fun x H1 => ∃ d xs, x = .ref d ∧ DNr w H1 d xs ∧ Q (!xs.isEmpty) H1

theorem dPhi_new {w : World} {h : Heap} (hb : sysModules < h.objs.size) : dPhi w h.objs.size [] (h.push { cls := .type "dict", data := .dict #[] }) :=
  ⟨Nat.zero_le _, beq_eq_false_iff_ne.mpr (Ne.symm (Nat.ne_of_lt hb)), List.nodup_nil, [], _, #[], 0, .nil, Heap.get?_push_size _ rfl, ⟨rfl, rfl, rfl⟩, rfl, rfl⟩

section
variable {X : Cx} {o i e f value : Expr} {pos pos' tpos apos cpos : Pos} {td ty tv tz : TE}
theorem pe_nnew : PE X (.Dict [] [] pos) (tNNew X.w) := ⟨fun pins s σ H Q I h =>
  wpAny_Dict_empty ⟨.ref s.heap.objs.size, _, I.laid (a := s.heap.objs.size) (o := dictO X.w s.heap.objs.size []) (t' := s.toks) (fun _ _ q => Heap.get?_push_of_some _ q) (Nat.le_refl _) (dictO_ok (dPhi_new I.big)), rfl, h _ (I.hok.fresh (Nat.le_refl _))⟩⟩
theorem pc_nin (hu : X.A.units + 9 < cLine) (hi : PE X i ty) (ho : PE X o td) : PC X .In i o (tNIn X.w ty td) := by
  refine ⟨fun pins s σ H Q I h => ?_⟩
  refine thn (hi.run pins s σ H _ I h) fun iv s1 ⟨y, H1, I1, ry, q1⟩ => thn (ho.run pins s1 σ H1 _ I1 q1) fun u s2 ⟨x, H2, I2, rx, d, xs, k, ex, m, hk, q2⟩ => ?_
  subst ex
  obtain rfl : u = Value.ref d := rx
  exact d_inN hu I2 m hk.1 hk.2 ry fun s3 I3 => ⟨.bl _, H2, I3, rfl, q2⟩
theorem pc_nnotin (hu : X.A.units + 9 < cLine) (hi : PE X i ty) (ho : PE X o td) : PC X .NotIn i o (tNNotIn X.w ty td) := by
  refine ⟨fun pins s σ H Q I h => ?_⟩
  refine thn (hi.run pins s σ H _ I h) fun iv s1 ⟨y, H1, I1, ry, q1⟩ => thn (ho.run pins s1 σ H1 _ I1 q1) fun u s2 ⟨x, H2, I2, rx, d, xs, k, ex, m, hk, q2⟩ => ?_
  subst ex
  obtain rfl : u = Value.ref d := rx
  exact d_notInN hu I2 m hk.1 hk.2 ry fun s3 I3 => ⟨.bl _, H2, I3, rfl, q2⟩
theorem pe_nget (hu : X.A.units + 9 < cLine) (ho : PE X o td) (hi : PE X i ty) (hs : NoSl i) : PE X (.Subscript o i pos) (tNGet X.w td ty) := by
  refine ⟨fun pins s σ H Q I h => ?_⟩
  refine subD_of F.slot_dict_getitem.lookup hs (thn (ho.run pins s σ H _ I h) fun u s1 ⟨x, H1, I1, rx, q1⟩ => thn (hi.run pins s1 σ H1 _ I1 q1) fun iv s2 ⟨y, H2, I2, ry, d, xs, k, p, ex, m, hk, hp, q2⟩ => ?_)
  subst ex
  obtain rfl : u = Value.ref d := rx
  exact ⟨(dn_typeIs I2 m).1, d_getItemN hu I2 m hk.1 hk.2 ry hp fun w' s3 I3 rw' => ⟨p.2, H2, I3, rw', q2⟩⟩
theorem ps_nput (hu : X.A.units + 9 < cLine) (ho : PE X o td) (hi : PE X i ty) (hv : PE X value tv) (hs : swapsWith value (some (.Subscript o i pos')) pos.line X.env = pure false) :
    PS X (.Assign [.Subscript o i pos'] value pos) (sNPut X.w td ty tv) := by
  refine ⟨fun pins s σ H D I h => ?_⟩
  refine wpAny_Assign_Subscript (thn (hv.run pins s σ H _ I h) fun r s1 ⟨v, H1, I1, rv, q1⟩ => thn (ho.run pins s1 σ H1 _ I1 q1) fun u s2 ⟨x, H2, I2, rx, q2⟩ => thn (hi.run pins s2 σ H2 _ I2 q2) fun iv s3 ⟨y, H3, I3, ry, d, xs, k, ex, m, hk, hl, q3⟩ => ?_) hs
  subst ex
  obtain rfl : u = Value.ref d := rx
  exact d_setItemN hu I3 m hk.1 hk.2 ry rv hl fun s4 I4 => ⟨σ, _, I4, q3⟩
theorem ps_ndel (hu : X.A.units + 9 < cLine) (ho : PE X o td) (hi : PE X i ty) : PS X (.Delete [.Subscript o i tpos] pos) (sNDel X.w td ty) := by
  refine ⟨fun pins s σ H D I h => ?_⟩
  refine wpAny_Delete (wpAny_deleteEach_cons (wpAny_delete_Subscript (thn (ho.run pins s σ H _ I h) fun u s1 ⟨x, H1, I1, rx, q1⟩ => thn (hi.run pins s1 σ H1 _ I1 q1) fun iv s2 ⟨y, H2, I2, ry, d, xs, k, ex, m, hk, l, q2⟩ => ?_)))
  subst ex
  obtain rfl : u = Value.ref d := rx
  exact d_delItemN hu I2 m hk.1 hk.2 ry l fun s3 I3 => wpAny_deleteEach_nil ⟨σ, _, I3, q2⟩
theorem pe_nget1 (hu : X.A.units + 9 < cLine) (ho : PE X o td) (he : PE X e ty) (m : M1 X o "get" apos e cpos) : PE X (.Call (.Attribute o "get" apos) [e] [] cpos) (tNGet1 X.w td ty) := by
  refine ⟨fun pins s σ H Q I h => ?_⟩
  refine wpAny_Call_method m.base m.few m.line F.plainAttrs_dict F.slot_dict_get F.type_dict_get (thn (ho.run pins s σ H _ I h) fun u s1 ⟨x, H1, I1, rx, d, ex, ⟨xs0, d0⟩, q1⟩ => ?_)
  subst ex
  obtain rfl : u = Value.ref d := rx
  obtain ⟨t1, t2⟩ := dn_typeIs I1 d0
  refine ⟨t1, t2, ?_⟩
  rw [m.trees]
  refine Calls.callWith_builtin rfl (Calls.evalArgs_plain (Calls.spliced_cons (thn (he.run pins s1 σ H1 _ I1 q1) fun iv s2 ⟨y, H2, I2, ry, xs, k, dn, hk, q2⟩ => Calls.spliced_nil ?_)))
  exact d_get1N hu I2 dn hk.1 hk.2 ry fun w' s3 I3 rw' => ⟨_, H2, I3, rw', q2⟩
theorem pe_nget2 (hu : X.A.units + 9 < cLine) (ho : PE X o td) (he : PE X e ty) (hf : PE X f tz) (m : M2 X o "get" apos e f cpos) : PE X (.Call (.Attribute o "get" apos) [e, f] [] cpos) (tNGet2 X.w td ty tz) := by
  refine ⟨fun pins s σ H Q I h => ?_⟩
  refine wpAny_Call_method m.base m.few m.line F.plainAttrs_dict F.slot_dict_get F.type_dict_get (thn (ho.run pins s σ H _ I h) fun u s1 ⟨x, H1, I1, rx, d, ex, ⟨xs0, d0⟩, q1⟩ => ?_)
  subst ex
  obtain rfl : u = Value.ref d := rx
  obtain ⟨t1, t2⟩ := dn_typeIs I1 d0
  refine ⟨t1, t2, ?_⟩
  rw [m.trees]
  refine Calls.callWith_builtin rfl (Calls.evalArgs_plain (Calls.spliced_cons (thn (he.run pins s1 σ H1 _ I1 q1) fun iv s2 ⟨y, H2, I2, ry, q2⟩ =>
    Calls.spliced_cons (thn (hf.run pins s2 σ H2 _ I2 q2) fun fv s3 ⟨z, H3, I3, rz, xs, k, dn, hk, q3⟩ => Calls.spliced_nil ?_))))
  exact d_get2N hu I3 dn hk.1 hk.2 ry rz fun w' s4 I4 rw' => ⟨_, H3, I4, rw', q3⟩
theorem pe_nsetd (hu : X.A.units + 9 < cLine) (ho : PE X o td) (he : PE X e ty) (hf : PE X f tz) (m : M2 X o "setdefault" apos e f cpos) : PE X (.Call (.Attribute o "setdefault" apos) [e, f] [] cpos) (tNSetd X.w td ty tz) := by
  refine ⟨fun pins s σ H Q I h => ?_⟩
  refine wpAny_Call_method m.base m.few m.line F.plainAttrs_dict F.slot_dict_setdefault F.type_dict_setdefault (thn (ho.run pins s σ H _ I h) fun u s1 ⟨x, H1, I1, rx, d, ex, ⟨xs0, d0⟩, q1⟩ => ?_)
  subst ex
  obtain rfl : u = Value.ref d := rx
  obtain ⟨t1, t2⟩ := dn_typeIs I1 d0
  refine ⟨t1, t2, ?_⟩
  rw [m.trees]
  refine Calls.callWith_builtin rfl (Calls.evalArgs_plain (Calls.spliced_cons (thn (he.run pins s1 σ H1 _ I1 q1) fun iv s2 ⟨y, H2, I2, ry, q2⟩ =>
    Calls.spliced_cons (thn (hf.run pins s2 σ H2 _ I2 q2) fun fv s3 ⟨z, H3, I3, rz, xs, k, dn, hk, hl, q3, q4⟩ => Calls.spliced_nil ?_))))
  exact d_setdN hu I3 dn hk.1 hk.2 ry rz hl (fun p hp w' s4 I4 rw' => ⟨_, H3, I4, rw', q3 p hp⟩) fun hn s4 I4 => ⟨z, _, I4, rz, q4 hn⟩
theorem call_nlen : CallR X (.builtin "len") (rNLen X.w) := by
  intro pins s σ H vs us Q I r h
  obtain ⟨d, xs, rfl, m, q⟩ := h
  obtain ⟨u, rfl, ru⟩ := vals1 r
  obtain rfl : u = Value.ref d := ru
  obtain ⟨ws, rel, dd, hs, hz, hl⟩ := dn_at I m
  refine call_lenN hs dd (by omega) ?_
  rw [hl]
  exact ⟨.int xs.length, H, I.tok _, ⟨_, rfl⟩, q⟩
theorem pt_ntru (ho : PE X o td) (he : ∀ whole, isTrue o X.env whole = (do let v ← whole; standAt o.pos; holding [v] (truthy v)) := by intro _; rfl) : PT X o (tNTru X.w td) := by
  refine ⟨fun pins s σ H Q I hw => ?_⟩
  refine PyProof.Rows.isTrue_plain (thn (ho.run pins s σ H _ I hw) fun u s1 ⟨x, H1, I1, rx, d, xs, ex, m, q1⟩ => ?_) (he _)
  subst ex
  obtain rfl : u = Value.ref d := rx
  obtain ⟨ws, rel, dd, hs, hz, hl⟩ := dn_at I1 m
  refine truthyN hs dd (by omega) ?_
  have e : ws.isEmpty = xs.isEmpty := by cases rel <;> rfl
  rw [e]
  exact ⟨H1, I1.tok _, q1⟩
end

/-! ### a locked dict walked by its keys -/
def ItN (w : World) (d : Addr) (o : Obj) (xs : List EntV) : It :=
  ⟨fun i H => H d = some (.frz o (dictO w d xs)) ∧ i < xs.length, fun i H x H' => H' = H ∧ ∃ e, xs[i]? = some e ∧ x = e.2.1, fun i H => H d = some (.frz o (dictO w d xs)) ∧ xs.length ≤ i⟩
theorem frzN {X : Cx} {pins : List (Addr × Obj)} {σ : L2.St} {H : Hp} {s : Shared} {d : Addr} {o : Obj} {xs : List EntV} (I : Inv X pins σ H s) (h : H d = some (.frz o (dictO X.w d xs))) :
    (d == sysModules) = false ∧ s.heap.get? d = some o ∧ o.ExactDict ∧ ∃ (us : List Ent) (es : Array DictEntry) (ep : Nat), Paired RelE xs us ∧ o.data = .dict es ep ∧ es.toList = us.map (entN X.w) ∧ es.size = xs.length := by
  obtain ⟨hd, ⟨_, hs, _, us, o', es, ep, rel, ho, hx, hdt, he⟩, _⟩ := I.hok d _ h
  rw [hd] at ho
  cases ho
  exact ⟨hs, hd, hx, us, es, ep, rel, hdt, he, by rw [ent_size he, rel.length]⟩
theorem turn_nkeys {P : Program} {w : World} {K : PySem.W.Frag} {tg : Expr} {d : Addr} {o : Obj} {xs : List EntV} {es : Array DictEntry} {ep : Nat} (it : Addr) (hod : o.data = .dict es ep) :
    Turn P w K tg (ItN w d o xs) [it] it (fun i h => h.IsKeyIter it d i xs.length ep) where
  mem := by simp
  obj := fun i h st b hb => by
    obtain rfl : b = it := by simpa using hb
    obtain ⟨oi, e, c, dd⟩ := st
    exact ⟨oi, e, fun v z => by rw [dd] at z; cases z⟩
  keep := fun i h h' st k => st.at fun oi e => k it (by simp) oi e
  item := by
    intro X hP hw hK hc i pins s σ H E I hf st hg
    subst hP hw hK
    obtain ⟨hd, hi⟩ := hg
    obtain ⟨f0, f1, f2, f3, f4, f5⟩ := hf it (by simp)
    obtain ⟨hs, hgd, hx, us, es', ep', rel, hdt, he, hsz⟩ := frzN I hd
    obtain ⟨rfl, rfl⟩ := dict_ep hod hdt
    have hxi : xs[i]? = some xs[i] := List.getElem?_eq_getElem hi
    obtain ⟨b, hb, q⟩ := paired_get rel hxi
    have hen : es'[i]? = some (entN X.w b) := by rw [ent_at he i, hb]; rfl
    refine next_key_item st hgd hdt hsz hen fun h' st' sb => ?_
    have I1 : Inv X pins σ H { s with heap := h' } := I.turned (t' := s.toks) (fun b ob hb e => (sb.2 b hb).trans e) f0 f1 f3 f4 f5
    obtain ⟨oi, e, c, dd⟩ := id st'
    exact ⟨b.2.1, rfl, go_of (s := { s with heap := h' }) e c dd (by decide) ⟨xs[i].2.1, H, I1, q.2.1, ⟨rfl, _, hxi, rfl⟩, st', fun b hb => (hf b hb).1⟩⟩
  done := by
    intro X hP hw hK hc i pins s σ H E I hf st hg
    subst hP hw hK
    obtain ⟨hd, hi⟩ := hg
    obtain ⟨f0, f1, f2, f3, f4, f5⟩ := hf it (by simp)
    obtain ⟨hs, hgd, hx, us, es', ep', rel, hdt, he, hsz⟩ := frzN I hd
    obtain ⟨rfl, rfl⟩ := dict_ep hod hdt
    exact next_key_end (I.ok.hd hc) st hgd hdt hsz hi fun h' eb => ⟨rfl, I.turned (t' := s.toks) (fun b ob hb e => eb b ob hb e) f0 f1 f3 f4 f5⟩
  self := fun A i s Q E st h => wpAny_pyIter_keyiter st h
def iNKeys (w : World) (td : TE) : TI := fun σ H R => td σ H fun x H1 => ∃ d o xs, x = .ref d ∧ H1 d = some (.frz o (dictO w d xs)) ∧ R (ItN w d o xs) H1
theorem pi_nkeys {X : Cx} {tg e : Expr} {td : TE} (he : PE X e td) : PI X tg e (iNKeys X.w td) := by
  refine ⟨fun pins s σ H R I h => ?_⟩
  refine thn (he.run pins s σ H _ I h) fun u s1 ⟨x, H1, I1, rx, d, o, xs, ex, hd, q⟩ => ?_
  subst ex
  obtain rfl : u = Value.ref d := rx
  obtain ⟨hs, hgd, hx, us, es, ep, rel, hdt, he', hsz⟩ := frzN I1 hd
  refine iter_keys hs hgd hx hdt (pi_one (tk := s1.toks) I1 _ (turn_nkeys _ hdt) ⟨_, Heap.get?_push_size _ rfl, rfl, ?_⟩ q)
  rw [hsz] <;> rfl
theorem for_nkeys {w : World} {d : Addr} {o : Obj} {xs : List EntV} {g : TG} {tb : TS} {D : Ends} {σ : L2.St} {H : Hp} (Pv : Nat → L2.St → Hp → Prop) (h0 : Pv 0 σ H) (hl : ∀ i σ H, i ≤ xs.length → Pv i σ H → H d = some (.frz o (dictO w d xs)))
    (hs : ∀ i x σ H, xs[i]? = some x → Pv i σ H → g x.2.1 σ H fun σ2 H2 => tb { D with nx := Pv (i + 1), ct := Pv (i + 1), bk := D.nx } σ2 H2) (hd : ∀ σ H, Pv xs.length σ H → D.nx σ H) :
    ∃ W : Nat → Nat → L2.St → Hp → Prop, (∃ m, W 0 m σ H) ∧ ∀ i m σ H, W i m σ H →
      ((ItN w d o xs).stop i H ∧ D.nx σ H) ∨ ((ItN w d o xs).go i H ∧ ∃ N : L2.St → Hp → Prop, (∀ σ' H', N σ' H' → ∃ m', m' < m ∧ W (i + 1) m' σ' H') ∧ ∀ x H', (ItN w d o xs).yld i H x H' → g x σ H' fun σ2 H2 => tb { D with nx := N, ct := N, bk := D.nx } σ2 H2) := by
  refine ⟨fun i m σ H => m = xs.length - i ∧ i ≤ xs.length ∧ Pv i σ H, ⟨xs.length, by simp, Nat.zero_le _, h0⟩, ?_⟩
  rintro i m σ H ⟨rfl, hi, p⟩
  have q := hl i σ H hi p
  by_cases hlt : i < xs.length
  · refine .inr ⟨⟨q, hlt⟩, Pv (i + 1), fun σ' H' p' => ⟨xs.length - (i + 1), by omega, rfl, hlt, p'⟩, fun x H' y => ?_⟩
    obtain ⟨e, en, hen, ex⟩ := y
    subst e ex
    exact hs i en σ _ hen p
  · have e : i = xs.length := by omega
    subst e
    exact .inl ⟨⟨q, Nat.le_refl _⟩, hd σ H p⟩
theorem lc_nkeys {w : World} {d : Addr} {o : Obj} {xs : List EntV} {g : TG} {tt : TT} {te : TE} {vs : List Nat} {σ : L2.St} {H1 : Hp} {D : Addr} {Qd : Hp → Prop} (Pv : Nat → Hp → Prop) (h0 : Pv 0 (upd H1 D (.lst []))) (hl : ∀ i H, i ≤ xs.length → Pv i H → H d = some (.frz o (dictO w d xs)))
    (hs : ∀ i x H, xs[i]? = some x → Pv i H → g x.2.1 (wipe σ vs) H fun σ2 H2 => wipe σ2 vs = wipe σ vs ∧ tt σ2 H2 fun b H3 =>
      if b = true then te σ2 H3 fun y H4 => ∃ acc, H4 D = some (.lst acc) ∧ acc.length < sizeLine ∧ Pv (i + 1) (upd H4 D (.lst (acc ++ [y]))) else Pv (i + 1) H3) (hd : ∀ H, Pv xs.length H → Qd H) :
    ∃ W : Nat → Nat → Hp → Prop, (∃ m, W 0 m (upd H1 D (.lst []))) ∧ ∀ i m H, W i m H →
      ((ItN w d o xs).stop i H ∧ Qd H) ∨ ((ItN w d o xs).go i H ∧ ∃ Nx : Hp → Prop, (∀ H', Nx H' → ∃ m', m' < m ∧ W (i + 1) m' H') ∧ ∀ x H', (ItN w d o xs).yld i H x H' → g x (wipe σ vs) H' fun σ2 H2 => wipe σ2 vs = wipe σ vs ∧ tt σ2 H2 fun b H3 =>
        if b = true then te σ2 H3 fun y H4 => ∃ acc, H4 D = some (.lst acc) ∧ acc.length < sizeLine ∧ Nx (upd H4 D (.lst (acc ++ [y]))) else Nx H3) := by
  refine ⟨fun i m H => m = xs.length - i ∧ i ≤ xs.length ∧ Pv i H, ⟨xs.length, by simp, Nat.zero_le _, h0⟩, ?_⟩
  rintro i m H ⟨rfl, hi, p⟩
  have q := hl i H hi p
  by_cases hlt : i < xs.length
  · refine .inr ⟨⟨q, hlt⟩, Pv (i + 1), fun H' p' => ⟨xs.length - (i + 1), by omega, rfl, hlt, p'⟩, fun x H' y => ?_⟩
    obtain ⟨e, en, hen, ex⟩ := y
    subst e ex
    exact hs i en _ hen p
  · have e : i = xs.length := by omega
    subst e
    exact .inl ⟨⟨q, Nat.le_refl _⟩, hd H p⟩
end ND

set_option Elab.async false
set_option linter.all false
set_option maxRecDepth 100000
set_option maxHeartbeats 4000000
/-! A dict comprehension with such keys; == of such dicts. -/
namespace ND
open PySem PySem.Spec L2
theorem d_setN {X : Cx} {pins : List (Addr × Obj)} {σ : L2.St} {H : Hp} {s : Shared} {E : Value → Shared → Prop} {D : Addr} {xs : List EntV} {k : NestedKey} {y v : V} {u r : Value} {Q : Unit → Shared → Prop} (hu : X.A.units + 8 < cLine) (I : Inv X pins σ H s) (h : DN X.w H D xs) (hz : xs.length < sizeLine)
    (hk : KAt H k y) (ry : RelV y u) (rv : RelV v r) (q : ∀ s', Inv X pins σ (upd H D (dictO X.w D (storeN xs k y v))) s' → Q () s') : wpAny (model X.prog X.w) X.A (dictSet D u r) Q E s := by
  obtain ⟨us, rel, m, hs, _, e⟩ := dn_at I h.r
  refine dictSetN hu (key_at I hk.1 hk.2 ry) m (by omega) fun h' m' sb => q _ ?_
  exact dn_write I h.1 sb m' (relE_store rel k ry rv) (by have := len_store xs k y v; omega)
section
variable {X : Cx}
/-- {k: v for target in iter if ..}: D is the new dict -/
def tNDc (w : World) (wi : TI) (g : TG) (tt : TT) (tk tv : TE) (vs : List Nat) : TE := fun σ H Q => wi σ H fun J H1 => ∀ D, H1 D = none → ∃ W : Nat → Nat → Hp → Prop, (∃ m, W 0 m (upd H1 D (dictO w D []))) ∧ ∀ i m H, W i m H →
  (J.stop i H ∧ Q (.ref D) H) ∨ (J.go i H ∧ ∃ Nx : Hp → Prop, (∀ H', Nx H' → ∃ m', m' < m ∧ W (i + 1) m' H') ∧ ∀ x H', J.yld i H x H' → g x (wipe σ vs) H' fun σ2 H2 => wipe σ2 vs = wipe σ vs ∧ tt σ2 H2 fun b H3 =>
    if b = true then tk σ2 H3 fun y H4 => tv σ2 H4 fun z H5 => ∃ xs k, KAt H5 k y ∧ DN w H5 D xs ∧ xs.length < sizeLine ∧ Nx (upd H5 D (dictO w D (storeN xs k y z))) else Nx H3)
theorem ndc_core {pins : List (Addr × Obj)} {s : Shared} {σ : L2.St} {H : Hp} {Q : VK} {use : Option (Value → Sem Unit)} {Qf : Value → Shared → Prop} {pos' : Pos} {kx vx tg iter : Expr} {ifs : List Expr} {scope : Scope} {own : List (Str × Nat)} {pos : Pos} {wi : TI} {g : TG} {tt : TT} {tk tv : TE} (hu : X.A.units + 8 < cLine) (hc : X.calm = true) (hN : X.N.Nodup) (I : Inv X pins σ H s) (hi : PI X tg iter wi) (ok : BlkOk X.N X.env.scope scope own)
    (hg : ∀ (s : Shared) (H : Hp) (C : Addr) (cl : List (Str × Addr)) (fp : List Addr), PG (X.blk s H scope (compEnvC scope cl C X.env) fp) tg g) (ht : ∀ (s : Shared) (H : Hp) (C : Addr) (cl : List (Str × Addr)) (fp : List Addr), PTs (X.blk s H scope (compEnvC scope cl C X.env) fp) ifs tt)
    (hk : ∀ (s : Shared) (H : Hp) (C : Addr) (cl : List (Str × Addr)) (fp : List Addr), PE (X.blk s H scope (compEnvC scope cl C X.env) fp) kx tk)
    (he : ∀ (s : Shared) (H : Hp) (C : Addr) (cl : List (Str × Addr)) (fp : List Addr), PE (X.blk s H scope (compEnvC scope cl C X.env) fp) vx tv) (hs : ∀ x, foldedSetIterable iter X.env x = pure x)
    (h : tNDc X.w wi g tt tk tv (own.map (·.2)) σ H Q)
    (hRR : ∀ D C s' m H', Inv X pins σ H' s' → Q (.ref D) H' → s'.heap.Ns C m → FpOk X pins H' C → compPost (model X.prog X.w) X.A X.xe use Qf (.ref D) C (.ok .next) s') :
    wpAny (model X.prog X.w) X.A (comprehension (.DictComp kx vx [⟨tg, iter, ifs, 0⟩] scope pos) scope X.env pos' newDict false (eval iter X.env) use) Qf X.xe s := by
  have freeOk : ∀ y ∈ scope.names, y.2 = .free → ∃ c, X.env.cells.lookup y.1 = some c := fun y hy e => (ok.free y hy e).elim (fun k => I.ok.has _ (.inl k)) fun k => I.ok.has _ (.inr k)
  refine wpAny_comprehension_free (use := use) rfl hs (closure_ok freeOk) ok.kind (fun y hy e => by rw [ok.uniq y hy, e])
    (thn (hi.run pins s σ H _ I h) fun xv s1 hx => thn hx fun itv s2 ⟨it, fp, tn, J, H2, e, I2, T, st2, f2, q⟩ => ?_)
  subst e
  refine wpAny_newObj_type (newEnv_comp ?_)
  generalize hD : s2.heap.objs.size = D
  have freshD : H2 D = none := I2.hok.fresh (Nat.le_of_eq hD)
  obtain ⟨W, ⟨m0, w0⟩, turn⟩ := q D freshD
  -- the dict laid, and the block's frame behind it
  generalize hs3 : ({ s2 with heap := s2.heap.push { cls := .type "dict", data := .dict #[] } } : Shared) = s3
  have heap3 : s3.heap = s2.heap.push { cls := .type "dict", data := .dict #[] } := by rw [← hs3]
  have I3 : Inv X pins σ (upd H2 D (dictO X.w D [])) s3 := by
    subst hs3 hD
    exact I2.laid (t' := s2.toks) (fun b o e => Heap.get?_push_of_some _ e) (Nat.le_refl _) (dictO_ok (dPhi_new I2.big))
  have below : ∀ b ∈ fp, b < s2.heap.objs.size := fun b hb => let ⟨_, e, _⟩ := T.obj _ _ st2 b hb; Heap.lt_size e
  have f3 : ∀ b ∈ fp, FpOk X pins (upd H2 D (dictO X.w D [])) b ∧ b < s3.heap.objs.size := fun b hb => by
    refine ⟨⟨?_, (f2 b hb).2⟩, by rw [heap3, Heap.size_push]; exact Nat.lt_succ_of_lt (below b hb)⟩
    rw [upd_ne (by rw [← hD]; exact Nat.ne_of_lt (below b hb))]
    exact (f2 b hb).1
  have st3 : tn 0 s3.heap := T.keep _ _ _ st2 fun b _ o e => by rw [heap3]; exact Heap.get?_push_of_some _ e
  have I4 := block_start I3 ok hN f3
  show codeAny _ _ (.compStart (.DictComp kx vx [⟨tg, iter, ifs, 0⟩] scope pos) 0 (.ref it) (.ref D) (compEnvC scope (cellsFrom (s3.heap.objs.size + 1) scope.names (cloFrom X.env.cells scope.names [])) s3.heap.objs.size X.env)) (compPost (model X.prog X.w) X.A X.xe use Qf (.ref D) s3.heap.objs.size) { s3 with heap := pushCells (s3.heap.push { cls := .type "dict", data := .dict #[] }) scope.names }
  generalize hcl : cellsFrom (s3.heap.objs.size + 1) scope.names (cloFrom X.env.cells scope.names []) = cl at I4 ⊢
  have pg := hg s3 (upd H2 D (dictO X.w D [])) s3.heap.objs.size cl fp
  have pt := ht s3 (upd H2 D (dictO X.w D [])) s3.heap.objs.size cl fp
  have pk := hk s3 (upd H2 D (dictO X.w D [])) s3.heap.objs.size cl fp
  have pe := he s3 (upd H2 D (dictO X.w D [])) s3.heap.objs.size cl fp
  have none3 : ∀ b ∈ fp, (upd H2 D (dictO X.w D [])) b = none := fun b hb => (f3 b hb).1.1
  generalize hce : compEnvC scope cl s3.heap.objs.size X.env = ce at I4 pg pt pk pe ⊢
  have cL : ce.locals = s3.heap.objs.size := by subst hce; rfl
  generalize hH3 : upd H2 D (dictO X.w D []) = H3 at I3 I4 pg pt pk pe w0 none3 f3
  generalize hs4 : ({ s3 with heap := pushCells (s3.heap.push { cls := .type "dict", data := .dict #[] }) scope.names } : Shared) = s4 at I4 ⊢
  have st4 : tn 0 s4.heap := T.keep _ _ _ st3 fun b _ o e => by rw [← hs4]; exact pushCells_keeps _ _ _ _ (Heap.get?_push_of_some _ e)
  have its : ∀ {σ' : L2.St} {H' : Hp} {s' : Shared}, Inv (X.blk s3 H3 scope ce fp) [] σ' H' s' → (∀ b ∈ fp, H' b = none) → ∀ b ∈ fp, FpOk (X.blk s3 H3 scope ce fp) [] H' b := fun {σ' H' s'} I' hn b hb =>
    ⟨hn b hb, (I'.ok.exf b hb).1, I'.ok.exfs b hb, .inl hb, fun x c e => (I'.ok.exf b hb).2 x c e, fun p hp => absurd (show p ∈ ([] : List (Addr × Obj)) ++ [] from hp) (by simp)⟩
  refine codeAny_compStart_dict ?_ (T.self X.A 0 _ _ _ st4 ?_)
  all_goals
    refine compLoop_anyD (fun n s' => ∃ i H', Inv (X.blk s3 H3 scope ce fp) [] (wipe σ (own.map (·.2))) H' s' ∧ tn i s'.heap ∧ (∀ b ∈ fp, H' b = none) ∧ W i n H') ?_ m0 ⟨0, H3, I4, st4, none3, w0⟩
    rintro n s5 ⟨i, H5, I5, st5, n5, w5⟩
    rcases turn i n H5 w5 with ⟨stop, qq⟩ | ⟨go, Nx, hNx, step⟩
    · refine thnF (T.done (X.blk s3 H3 scope ce fp) rfl rfl rfl hc i [] s5 _ H5 (fun _ _ => False) I5 (its I5 n5) st5 stop) fun r s6 ⟨hr, I6⟩ => ?_
      subst hr
      have I7 : Inv X pins σ H5 s6 := I3.call' (ch := fp) I6.os I6.base I6.hok I6.bare fun b hb => ⟨(f3 b hb).1.2.2.2.1, (f3 b hb).1.2.1, (f3 b hb).1.2.2.2.2.1, (f3 b hb).1.2.2.2.2.2⟩
      have nC : H5 s3.heap.objs.size = none := cL ▸ (show H5 ce.locals = none from I6.free)
      obtain ⟨m, hn, _⟩ := I6.loc
      have hn : s6.heap.Ns s3.heap.objs.size m := cL ▸ (show s6.heap.Ns ce.locals m from hn)
      exact hRR D s3.heap.objs.size s6 m H5 I7 qq hn (I3.fpOk (Nat.le_refl _) nC)
    · refine thnF (T.item (X.blk s3 H3 scope ce fp) rfl rfl rfl hc i [] s5 _ H5 (fun _ _ => False) I5 (its I5 n5) st5 go) fun r s6 ⟨u, hr, h6⟩ => ?_
      subst hr
      refine thnF h6 fun _ s7 ⟨x, H7, I7, r7, y7, st7, n7⟩ => ?_
      have I7' := I7.pinned (its I7 n7) (T.obj _ _ st7)
      refine thnF (pg.run _ s7 _ H7 x u _ I7' r7 (step x H7 y7)) fun _ s8 ⟨σ8, H8, I8, hw8, q8⟩ => ?_
      refine thnF (pt.run _ s8 σ8 H8 _ I8 q8) fun b s9 ⟨H9, I9, q9⟩ => ?_
      have fin : ∀ {s' : Shared} {H' : Hp}, Inv (X.blk s3 H3 scope ce fp) ([] ++ pinsAt fp s7.heap) σ8 H' s' → Nx H' → ∃ m, m < n ∧ ∃ i H', Inv (X.blk s3 H3 scope ce fp) [] (wipe σ (own.map (·.2))) H' s' ∧ tn i s'.heap ∧ (∀ b ∈ fp, H' b = none) ∧ W i m H' := fun {s' H'} I' nx => by
        obtain ⟨m', hm, w'⟩ := hNx H' nx
        have pin' : ∀ b ∈ fp, ∀ o, s7.heap.get? b = some o → s'.heap.get? b = some o ∧ H' b = none := fun b hb o e =>
          ⟨(I'.pin (b, o) (List.mem_append_right _ (List.mem_append_right _ (mem_pinsAt hb e)))).1, (I'.pin (b, o) (List.mem_append_right _ (List.mem_append_right _ (mem_pinsAt hb e)))).2.1⟩
        refine ⟨m', hm, i + 1, H', (I'.unpinned (pins := [])).weak (by rw [← hw8, wipe_length]) (fun j v e => ?_), T.keep _ _ _ st7 fun b hb o e => (pin' b hb o e).1, fun b hb => ?_, w'⟩
        · rw [← hw8] at e
          exact (wipe_some e).1
        · obtain ⟨o, e, _⟩ := T.obj _ _ st7 b hb
          exact (pin' b hb o e).2
      cases b with
      | false =>
        simp only [Bool.false_eq_true, if_false] at q9 ⊢
        exact fin I9 q9
      | true =>
        simp only [if_true] at q9 ⊢
        refine thnF (pk.run _ s9 σ8 H9 _ I9 q9) fun z s10 ⟨yk, H10, I10, r10, q10⟩ => ?_
        refine thnF (pe.run _ s10 σ8 H10 _ I10 q10) fun z2 s11 ⟨yv, H11, I11, r11, xs, k, hka, hdn, hzz, nx⟩ => ?_
        exact d_setN (X := X.blk s3 H3 scope ce fp) hu I11 hdn hzz hka r10 r11 fun s12 I12 => fin I12 nx
theorem pe_ndc {kx vx tg iter : Expr} {ifs : List Expr} {scope : Scope} {own : List (Str × Nat)} {pos : Pos} {wi : TI} {g : TG} {tt : TT} {tk tv : TE} (hu : X.A.units + 8 < cLine) (hc : X.calm = true) (hN : X.N.Nodup) (hi : PI X tg iter wi) (ok : BlkOk X.N X.env.scope scope own)
    (hg : ∀ (s : Shared) (H : Hp) (C : Addr) (cl : List (Str × Addr)) (fp : List Addr), PG (X.blk s H scope (compEnvC scope cl C X.env) fp) tg g) (ht : ∀ (s : Shared) (H : Hp) (C : Addr) (cl : List (Str × Addr)) (fp : List Addr), PTs (X.blk s H scope (compEnvC scope cl C X.env) fp) ifs tt)
    (hk : ∀ (s : Shared) (H : Hp) (C : Addr) (cl : List (Str × Addr)) (fp : List Addr), PE (X.blk s H scope (compEnvC scope cl C X.env) fp) kx tk)
    (he : ∀ (s : Shared) (H : Hp) (C : Addr) (cl : List (Str × Addr)) (fp : List Addr), PE (X.blk s H scope (compEnvC scope cl C X.env) fp) vx tv) (hs : ∀ x, foldedSetIterable iter X.env x = pure x := by intro _; rfl) :
    PE X (.DictComp kx vx [⟨tg, iter, ifs, 0⟩] scope pos) (tNDc X.w wi g tt tk tv (own.map (·.2))) := by
  refine ⟨fun pins s σ H Q I h => ?_⟩
  rw [arm_eval_DictComp]
  refine ndc_core hu hc hN I hi ok hg ht hk he hs h fun D C s' m H' I' q hn f => ⟨m, hn, fun h'' sb => ?_⟩
  obtain ⟨f0, f1, f2, f3, f4, f5⟩ := f
  exact ⟨.ref D, H', I'.turned (t' := s'.toks) (fun b o hb e => (sb.2 b hb).trans e) f0 f1 f3 f4 f5, rfl, q⟩
/-- name = {k: v for ..} on one line, the name a local -/
theorem ps_setNDc {i : Nat} {y : Str} {py spos : Pos} {kx vx tg iter : Expr} {ifs : List Expr} {scope : Scope} {own : List (Str × Nat)} {pos : Pos} {wi : TI} {g : TG} {tt : TT} {tk tv : TE} (hu : X.A.units + 8 < cLine) (hc : X.calm = true) (hN : X.N.Nodup) (hy : X.N[i]? = some y) (hyl : X.env.scope.names.lookup y = some .local) (hsw : swapsWith (.DictComp kx vx [⟨tg, iter, ifs, 0⟩] scope pos) (some (.Name y py)) spos.line X.env = pure true) (hi : PI X tg iter wi) (ok : BlkOk X.N X.env.scope scope own)
    (hg : ∀ (s : Shared) (H : Hp) (C : Addr) (cl : List (Str × Addr)) (fp : List Addr), PG (X.blk s H scope (compEnvC scope cl C X.env) fp) tg g) (ht : ∀ (s : Shared) (H : Hp) (C : Addr) (cl : List (Str × Addr)) (fp : List Addr), PTs (X.blk s H scope (compEnvC scope cl C X.env) fp) ifs tt)
    (hk : ∀ (s : Shared) (H : Hp) (C : Addr) (cl : List (Str × Addr)) (fp : List Addr), PE (X.blk s H scope (compEnvC scope cl C X.env) fp) kx tk)
    (he : ∀ (s : Shared) (H : Hp) (C : Addr) (cl : List (Str × Addr)) (fp : List Addr), PE (X.blk s H scope (compEnvC scope cl C X.env) fp) vx tv) (hs : ∀ x, foldedSetIterable iter X.env x = pure x := by intro _; rfl) :
    PS X (.Assign [.Name y py] (.DictComp kx vx [⟨tg, iter, ifs, 0⟩] scope pos) spos) (tAsg (tNDc X.w wi g tt tk tv (own.map (·.2))) (gName i)) := by
  refine ⟨fun pins s σ H D I h => ?_⟩
  rw [exec_Assign_Name_used _ _ _ _ hsw]
  refine wpAny_bind (wpAny_standAt (wpAny_bind ?_))
  show wpAny _ X.A (do let _ ← comprehension (.DictComp kx vx [⟨tg, iter, ifs, 0⟩] scope pos) scope X.env (firstIterPos [⟨tg, iter, ifs, 0⟩] pos) newDict false (eval iter X.env) (some (assign (.Name y py) X.env))) _ _ s
  have h : tNDc X.w wi g tt tk tv (own.map (·.2)) σ H (fun x H1 => gName i x σ H1 D.nx) := h
  refine wpAny_bind (thn (ndc_core (Qf := fun _ s' => SP X pins D .next s') hu hc hN I hi ok hg ht hk he hs h fun L C s' m H' I' q hn f => ?_) fun _ s' hq => wpAny_pure (wpAny_pure hq))
  show wpAny _ _ (assign (.Name y py) X.env (.ref L)) _ _ _
  refine wpAny_assign_Name (store_ok2 (v := V.ref L) I' hN hy (.inl hyl) rfl (fun s2 I2 ⟨a, sb, ha⟩ => ?_) (.inr hyl))
  obtain ⟨f0, f1, f2, f3, f4, f5⟩ := f
  have haC : C ≠ a := by
    rcases ha with z | z
    · rw [z]; exact f1
    · exact fun e => f4 y a z e.symm
  refine ⟨m, hn.sameBut sb haC, fun h3 sb3 => ?_⟩
  exact ⟨_, H', I2.turned (t' := s2.toks) (fun b o hb e => (sb3.2 b hb).trans e) f0 f1 f3 f4 f5, q⟩
theorem sw_trueD {kx vx : Expr} {gs : List Comprehension} {scope : Scope} {pos py : Pos} {y : Str} {l : Nat} {env : Env} (hk : env.scope.kind = .function) (hy : env.scope.names.lookup y = some .local) (hl : (py.line == pos.line) = true)
    (ha : (scope.names.any fun (n, k) => n == y && (k == .local || k == .cell)) = false) : swapsWith (.DictComp kx vx gs scope pos) (some (.Name y py)) l env = pure true := by
  have ky : env.kindOf y = some .local := hy
  have hb : env.blockKind = .function := by unfold Env.blockKind; rw [hk]; rfl
  unfold swapsWith
  simp only [hb, ky, ha, Expr.pos, hl]
  rfl
/-- over a list that stays -/
theorem ndc_list {w : World} {K : PySem.W.Frag} {a : Addr} {ys : List V} {g : TG} {tt : TT} {tk tv : TE} {vs : List Nat} {σ : L2.St} {H1 : Hp} {D : Addr} {Qd : Hp → Prop} (Pv : Nat → Hp → Prop) (h0 : Pv 0 (upd H1 D (dictO w D []))) (hl : ∀ i H, i ≤ ys.length → Pv i H → SqL K H a ys)
    (hs : ∀ i x H, ys[i]? = some x → Pv i H → g x (wipe σ vs) H fun σ2 H2 => wipe σ2 vs = wipe σ vs ∧ tt σ2 H2 fun b H3 =>
      if b = true then tk σ2 H3 fun y H4 => tv σ2 H4 fun z H5 => ∃ xs k, KAt H5 k y ∧ DN w H5 D xs ∧ xs.length < sizeLine ∧ Pv (i + 1) (upd H5 D (dictO w D (storeN xs k y z))) else Pv (i + 1) H3) (hd : ∀ H, Pv ys.length H → Qd H) :
    ∃ W : Nat → Nat → Hp → Prop, (∃ m, W 0 m (upd H1 D (dictO w D []))) ∧ ∀ i m H, W i m H →
      ((Itl K a).stop i H ∧ Qd H) ∨ ((Itl K a).go i H ∧ ∃ Nx : Hp → Prop, (∀ H', Nx H' → ∃ m', m' < m ∧ W (i + 1) m' H') ∧ ∀ x H', (Itl K a).yld i H x H' → g x (wipe σ vs) H' fun σ2 H2 => wipe σ2 vs = wipe σ vs ∧ tt σ2 H2 fun b H3 =>
        if b = true then tk σ2 H3 fun y H4 => tv σ2 H4 fun z H5 => ∃ xs k, KAt H5 k y ∧ DN w H5 D xs ∧ xs.length < sizeLine ∧ Nx (upd H5 D (dictO w D (storeN xs k y z))) else Nx H3) := by
  refine ⟨fun i m H => m = ys.length - i ∧ i ≤ ys.length ∧ Pv i H, ⟨ys.length, by simp, Nat.zero_le _, h0⟩, ?_⟩
  rintro i m H ⟨rfl, hi, p⟩
  have q := hl i H hi p
  by_cases hlt : i < ys.length
  · refine .inr ⟨⟨ys, ys[i], q, by simp [hlt]⟩, Pv (i + 1), fun H' p' => ⟨ys.length - (i + 1), by omega, rfl, hlt, p'⟩, fun x H' y => ?_⟩
    obtain ⟨e, y⟩ := y
    subst e
    exact hs i x _ (y ys q) p
  · have e : i = ys.length := by omega
    subst e
    exact .inl ⟨⟨ys, q, Nat.le_refl _⟩, hd H p⟩
theorem ndc_tup {w : World} {K : PySem.W.Frag} {a : Addr} {ys : List V} {g : TG} {tt : TT} {tk tv : TE} {vs : List Nat} {σ : L2.St} {H1 : Hp} {D : Addr} {Qd : Hp → Prop} (Pv : Nat → Hp → Prop) (h0 : Pv 0 (upd H1 D (dictO w D []))) (hl : ∀ i H, i ≤ ys.length → Pv i H → SqT K H a ys)
    (hs : ∀ i x H, ys[i]? = some x → Pv i H → g x (wipe σ vs) H fun σ2 H2 => wipe σ2 vs = wipe σ vs ∧ tt σ2 H2 fun b H3 =>
      if b = true then tk σ2 H3 fun y H4 => tv σ2 H4 fun z H5 => ∃ xs k, KAt H5 k y ∧ DN w H5 D xs ∧ xs.length < sizeLine ∧ Pv (i + 1) (upd H5 D (dictO w D (storeN xs k y z))) else Pv (i + 1) H3) (hd : ∀ H, Pv ys.length H → Qd H) :
    ∃ W : Nat → Nat → Hp → Prop, (∃ m, W 0 m (upd H1 D (dictO w D []))) ∧ ∀ i m H, W i m H →
      ((Itt K a).stop i H ∧ Qd H) ∨ ((Itt K a).go i H ∧ ∃ Nx : Hp → Prop, (∀ H', Nx H' → ∃ m', m' < m ∧ W (i + 1) m' H') ∧ ∀ x H', (Itt K a).yld i H x H' → g x (wipe σ vs) H' fun σ2 H2 => wipe σ2 vs = wipe σ vs ∧ tt σ2 H2 fun b H3 =>
        if b = true then tk σ2 H3 fun y H4 => tv σ2 H4 fun z H5 => ∃ xs k, KAt H5 k y ∧ DN w H5 D xs ∧ xs.length < sizeLine ∧ Nx (upd H5 D (dictO w D (storeN xs k y z))) else Nx H3) := by
  refine ⟨fun i m H => m = ys.length - i ∧ i ≤ ys.length ∧ Pv i H, ⟨ys.length, by simp, Nat.zero_le _, h0⟩, ?_⟩
  rintro i m H ⟨rfl, hi, p⟩
  have q := hl i H hi p
  by_cases hlt : i < ys.length
  · refine .inr ⟨⟨ys, ys[i], q, by simp [hlt]⟩, Pv (i + 1), fun H' p' => ⟨ys.length - (i + 1), by omega, rfl, hlt, p'⟩, fun x H' y => ?_⟩
    obtain ⟨e, y⟩ := y
    subst e
    exact hs i x _ (y ys q) p
  · have e : i = ys.length := by omega
    subst e
    exact .inl ⟨⟨ys, q, Nat.le_refl _⟩, hd H p⟩
end

/-! ### two dicts compared -/
/-- by keys, and the values by ev -/
def eqD (ev : V → V → Bool) (xs ys : List EntV) : Bool := xs.length == ys.length && xs.all fun x => match atN ys x.1 with
  | none => false
  | some q => ev x.2.2 q.2
/-- x == y answers b, to a depth of n dicts -/
def EvOk (w : World) (H : Hp) : Nat → V → V → Bool → Prop
  | 0, x, y, b => ∃ j k, KAt H j x ∧ KAt H k y ∧ b = decide (j = k)
  | n + 1, x, y, b => (∃ j k, KAt H j x ∧ KAt H k y ∧ b = decide (j = k)) ∨ ∃ c d xs ys ev, x = .ref c ∧ y = .ref d ∧ c ≠ d ∧ DNr w H c xs ∧ DNr w H d ys ∧
      (∀ p ∈ xs, ∀ q, atN ys p.1 = some q → EvOk w H n p.2.2 q.2 (ev p.2.2 q.2)) ∧ b = eqD ev xs ys
section
variable {X : Cx} {pins : List (Addr × Obj)} {σ : L2.St} {H : Hp} {s : Shared}
theorem ev_leaf (I : Inv X pins σ H s) {A : Around} (hu : A.units + 9 < cLine) {x y : V} {v u : Value} {j k : NestedKey} (hj : KAt H j x) (hk : KAt H k y) (rx : RelV x v) (ry : RelV y u) : SeqAt.EqP X.prog X.w A s v u (decide (j = k)) := fun E Q q => by
  have a := key_at I hj.1 hj.2 rx
  have b := key_at I hk.1 hk.2 ry
  have d1 := hj.2
  refine eqAt_key j k A s v u a.1 b.1 (by omega) _ _ _ _ ?_
  rw [← NestedKey.decide_eq]
  exact q
theorem hits_of (I : Inv X pins σ H s) {A : Around} {ev : V → V → Bool} {ys : List EntV} {us : List Ent} (rb : Paired RelE ys us) {xs : List EntV} {ws : List Ent} (ra : Paired RelE xs ws)
    (h : ∀ p ∈ xs, ∀ q, atN ys p.1 = some q → ∀ v u, RelV p.2.2 v → RelV q.2 u → SeqAt.EqP X.prog X.w A s v u (ev p.2.2 q.2)) :
    HitsN X.prog X.w A s us ws (xs.all fun x => match atN ys x.1 with | none => false | some q => ev x.2.2 q.2) := by
  induction ra with
  | nil => exact .nil
  | @cons a b l₁ l₂ r t ih =>
    have ih' := ih fun p hp => h p (List.mem_cons_of_mem _ hp)
    obtain ⟨k, p⟩ := b
    have ek : a.1 = k := r.1
    rw [List.all_cons]
    rcases relE_at rb k with ⟨e1, e2⟩ | ⟨c, d, e1, e2, _, r2⟩
    · rw [ek, e1]
      simp only [Bool.false_and]
      exact .miss e2
    · rw [ek, e1]
      exact .hit e2 (h a List.mem_cons_self c (by rw [ek]; exact e1) _ _ r.2.2 r2) ih'
theorem dicts_run (I : Inv X pins σ H s) {A : Around} (hu : A.units + 9 < cLine) {c d : Addr} {xs ys : List EntV} {ev : V → V → Bool} (ha : DNr X.w H c xs) (hb : DNr X.w H d ys)
    (h : ∀ p ∈ xs, ∀ q, atN ys p.1 = some q → ∀ v u, RelV p.2.2 v → RelV q.2 u → SeqAt.EqP X.prog X.w A.in1 s v u (ev p.2.2 q.2)) (E Q : Value → Shared → Prop) (q : Q (.bool (eqD ev xs ys)) s) :
    wpAny (model X.prog X.w) A (richCompare .Eq (.ref c) (.ref d)) Q E s := by
  obtain ⟨ua, ra, ma, sa, _, la⟩ := dn_at I ha
  obtain ⟨ub, rb, mb, sb, _, lb⟩ := dn_at I hb
  refine rcN hu sa sb ma mb (fun _ => hits_of I rb ra h) E Q ?_
  rw [la, lb]
  exact q
theorem ev_run (I : Inv X pins σ H s) : ∀ (n : Nat) (A : Around), A.units + n + 9 < cLine → ∀ (x y : V) (b : Bool) (v u : Value), EvOk X.w H n x y b → RelV x v → RelV y u → SeqAt.EqP X.prog X.w A s v u b
  | 0, A, hu, x, y, b, v, u, h, rx, ry => by
    obtain ⟨j, k, hj, hk, rfl⟩ := h
    exact ev_leaf I (by omega) hj hk rx ry
  | n + 1, A, hu, x, y, b, v, u, h, rx, ry => by
    rcases h with ⟨j, k, hj, hk, rfl⟩ | ⟨c, d, xs, ys, ev, rfl, rfl, ne, ha, hb, hh, rfl⟩
    · exact ev_leaf I (by omega) hj hk rx ry
    · obtain rfl : v = Value.ref c := rx
      obtain rfl : u = Value.ref d := ry
      refine SeqAt.eqP_refs ne (dicts_run I (by omega) ha hb fun p hp q hq v' u' r1 r2 => ?_)
      exact ev_run I n A.in1 (by show A.units + 1 + n + 9 < cLine; omega) _ _ _ _ _ (hh p hp q hq) r1 r2
end
section
variable {X : Cx}
def rNEq (w : World) (n : Nat) : R2 := fun x y H Q => ∃ c d xs ys ev, x = .ref c ∧ y = .ref d ∧ DNr w H c xs ∧ DNr w H d ys ∧ (∀ p ∈ xs, ∀ q, atN ys p.1 = some q → EvOk w H n p.2.2 q.2 (ev p.2.2 q.2)) ∧ Q (.bl (eqD ev xs ys)) H
theorem op_neq (n : Nat) (hu : X.A.units + n + 10 < cLine) : OpR X (compareOp .Eq) (rNEq X.w n) := by
  intro pins s σ H x y v u Q I rx ry h
  obtain ⟨c, d, xs, ys, ev, rfl, rfl, ha, hb, hh, q⟩ := h
  obtain rfl : v = Value.ref c := rx
  obtain rfl : u = Value.ref d := ry
  refine dicts_run I (A := X.A) (by omega) ha hb (fun p hp q hq v' u' r1 r2 => ?_) _ _ ⟨.bl _, H, I, rfl, q⟩
  exact ev_run I n X.A.in1 (by show X.A.units + 1 + n + 9 < cLine; omega) _ _ _ _ _ (hh p hp q hq) r1 r2
end
end ND

set_option Elab.async false
set_option linter.all false
set_option maxRecDepth 100000
set_option maxHeartbeats 4000000
/-! Special methods of own classes: ==, in, len, iter, []; isinstance of such dicts. -/
namespace ND
open PySem PySem.Spec L2
/-- a value's type, such dicts too -/
def TyN (w : World) (K : PySem.W.Frag) (H : Hp) (x : V) (t : Value) : Prop := TyX K H x t ∨ ∃ d xs, x = .ref d ∧ t = .type "dict" ∧ DNr w H d xs
def rIsiN (w : World) (K : PySem.W.Frag) : List V → Hp → VK → Prop := fun xs H Q => ∃ (x c : V) (t u : Value) (b : Bool), xs = [x, c] ∧ ClsV c u ∧ TyN w K H x t ∧ PySem.W.kitOne K t u = some b ∧ Q (.bl b) H
section
variable {X : Cx} {pins : List (Addr × Obj)} {σ : L2.St} {H : Hp} {s : Shared}
theorem kit_ofN {x : V} {u t : Value} (I : Inv X pins σ H s) (rx : RelV x u) (ty : TyN X.w X.K H x t) : ∃ P : Heap → Prop, PySem.W.KitX X.K u t P ∧ P s.heap ∧ u ≠ .builtin "__main__.__loader__#opaque" := by
  rcases ty with ty | ⟨d, xs, rfl, rfl, m⟩
  · exact kit_of I rx ty
  · obtain rfl : u = Value.ref d := rx
    obtain ⟨o, ho, hc⟩ := (dn_typeIs I m).1
    exact ⟨_, PySem.W.kitx_dict, ⟨o, ho, hc⟩, fun z => nomatch z⟩
theorem call_isiN : CallR X (.builtin "isinstance") (rIsiN X.w X.K) := by
  intro pins s σ H xs us Q I r h
  obtain ⟨x, c, t, u, b, rfl, k, ty, e, q⟩ := h
  obtain ⟨u1, u2, rfl, r1, r2⟩ := vals2 r
  have e2 := k.eq r2
  subst e2
  obtain ⟨P, Z, p, hx⟩ := kit_ofN I r1 ty
  exact PySem.W.kia_one Z I.kIn p e hx fun tk => ⟨.bl b, H, I.tok tk, rfl, q⟩

variable {CX : CXT} {k : Nat} {f C : Addr} {fd : FuncData} {ps : List Str} {sp : Sp} {E : XK}
/-- a def called somewhere below the body -/
theorem run_sub {A : Around} {Q : VK} {us : List Value} {vs : List V} (sb : Sub X k A) (F : FnOk X.prog X.w X.K X.mg X.base CX k f fd ps sp) (hb : Binds X.K fd ps []) (hx : Passes CX X E) (I : Inv X pins σ H s) (r : Vals vs us) (h : sp vs H Q E) :
    wpAny (model X.prog X.w) A (call (.ref f) us) (EP X pins σ Q) X.xe s := by
  have hl := F.len _ _ _ _ h
  have e := I.env0
  have e0 : Env0 X.prog X.w X.K X.mg X.base A X.stack s H := ⟨by rw [sb.fr]; exact e.frames, e.mod, e.bs, e.bsz, e.funs, e.frf, e.hok, e.bare⟩
  have hbb : BindsTo s fd ⟨us, []⟩ (ps.zip us) := by
    have := hb s us I.kIn (by rw [List.append_nil, ← r.length]; exact hl)
    simpa using this
  refine wpAny_call (codeAny_mono (F.run A X.stack s H ⟨us, []⟩ us vs Q E sb.room e0 hbb r h) fun r s' hq => ?_)
  cases r with
  | error e => exact hx pins σ H s e s' I hq
  | ok fl =>
    cases fl with
    | ret w => exact I.after hq
    | next => exact False.elim hq
    | brk => exact False.elim hq
    | cont => exact False.elim hq
/-- an instance, for the library's looks -/
theorem inst_at {a dx : Addr} {fs : List (Str × V)} (I : Inv X pins σ H s) (ha : H a = some (.ins C dx fs)) : ∃ od, PySem.W.InstAt s.heap a (PySem.W.instObj C dx) C (some od) := by
  obtain ⟨mA, J, _⟩ := ins_get I.hok ha
  obtain ⟨od, J, _⟩ := J.look
  exact ⟨od, J⟩
/-- a special method of the class at C -/
structure SpM (K : PySem.W.Frag) (C : Addr) (m : Str) (f : Addr) : Prop where
  find : PySem.W.findIn K (.ref C) m = some (some (.ref f))
  fn : PySem.W.isFn K (.ref f) = true
/-- what == looks at in the other one -/
inductive OthT (w : World) (K : PySem.W.Frag) (H : Hp) (C : Addr) : V → Prop where
  | same {a dx : Addr} {fs : List (Str × V)} : H a = some (.ins C dx fs) → OthT w K H C (.ref a)
  | dict {d : Addr} {xs : List EntV} : DNr w H d xs → PySem.W.subIn K (.type "dict") (.ref C) = some false → OthT w K H C (.ref d)
def rOwnEq (w : World) (K : PySem.W.Frag) (C : Addr) (sp : Sp) (E : XK) : R2 := fun x y H Q => ∃ a dx fs, x = .ref a ∧ H a = some (.ins C dx fs) ∧ OthT w K H C y ∧ sp [x, y] H (fun v H' => ∃ b, v = .bl b ∧ Q (.bl b) H') E
theorem op_own_eq (F : FnOk X.prog X.w X.K X.mg X.base CX k f fd ps sp) (hr : Room k X.A) (m : SpM X.K C "__eq__" f) (hb : Binds X.K fd ps []) (hx : Passes CX X E) : OpR X (compareOp .Eq) (rOwnEq X.w X.K C sp E) := by
  intro pins s σ H x y v u Q I rx ry h
  obtain ⟨a, dx, fs, rfl, ha, oth, h⟩ := h
  obtain rfl : v = Value.ref a := rx
  obtain ⟨od, J⟩ := inst_at I ha
  obtain ⟨mm, hF⟩ := I.fr
  have run := run_sub (A := X.A) (us := [Value.ref a, u]) (vs := [V.ref a, y]) ⟨hr, rfl⟩ F hb hx I (.cons rfl (.cons ry .nil)) h
  have fin : wpAny (model X.prog X.w) X.A (call (.ref f) [.ref a, u]) (PySem.W.CmpBack (EP X pins σ Q)) X.xe s := thn run fun r s' ⟨v, H', I', rv, b, eb, q⟩ => by
    subst eb
    obtain rfl : r = Value.bool b := rv
    exact ⟨.bl b, H', I', rfl, q⟩
  show wpAny (model X.prog X.w) X.A (richCompare .Eq (.ref a) u) (EP X pins σ Q) X.xe s
  cases oth with
  | @same b dy gs hb' =>
    obtain rfl : u = Value.ref b := ry
    obtain ⟨od', J'⟩ := inst_at I hb'
    exact PySem.W.cmp_K (op := .Eq) (tb := .ref C) hr.units0 hF I.ok.mod.kin J J'.type (by simp [PySem.W.notFirst]) m.find m.fn fin
  | @dict d xs dn hsub =>
    obtain rfl : u = Value.ref d := ry
    have hT := (dn_typeIs I dn).1
    refine PySem.W.cmp_K (op := .Eq) (tb := .type "dict") hr.units0 hF I.ok.mod.kin J (fun A Q E s' k q => ?_) (by simp [PySem.W.notFirst, hsub]) m.find m.fn fin
    obtain ⟨o, ho, hc⟩ := hT
    exact wpAny_typeOf ⟨o, k _ _ ho, hc⟩ q
def rOwnIn (C : Addr) (sp : Sp) (E : XK) : R2 := fun y x H Q => ∃ a dx fs, x = .ref a ∧ H a = some (.ins C dx fs) ∧ sp [x, y] H (fun v H' => ∃ b, v = .bl b ∧ Q (.bl b) H') E
theorem op_own_in (F : FnOk X.prog X.w X.K X.mg X.base CX k f fd ps sp) (hr : Room k X.A) (m : SpM X.K C "__contains__" f) (hb : Binds X.K fd ps []) (hx : Passes CX X E) : OpR X (compareOp .In) (rOwnIn C sp E) := by
  intro pins s σ H y x u v Q I ry rx h
  obtain ⟨a, dx, fs, rfl, ha, h⟩ := h
  obtain rfl : v = Value.ref a := rx
  obtain ⟨od, J⟩ := inst_at I ha
  obtain ⟨mm, hF⟩ := I.fr
  refine PySem.W.in_K hF I.ok.mod.kin J m.find m.fn (thn (run_sub (A := X.A) (us := [Value.ref a, u]) (vs := [V.ref a, y]) ⟨hr, rfl⟩ F hb hx I (.cons rfl (.cons ry .nil)) h) fun r s' ⟨v, H', I', rv, b, eb, q⟩ => ?_)
  subst eb
  obtain rfl : r = Value.bool b := rv
  exact wpAny_truthy_bool ⟨.bl b, H', I', rfl, q⟩
def rOwnLen (C : Addr) (sp : Sp) (E : XK) : List V → Hp → VK → Prop := fun vs H Q => ∃ a dx fs, vs = [.ref a] ∧ H a = some (.ins C dx fs) ∧ sp [.ref a] H (fun v H' => ∃ n : Int, v = .int n ∧ (0 ≤ n ∧ n < 2 ^ 63) ∧ Q (.int n) H') E
theorem call_own_len (F : FnOk X.prog X.w X.K X.mg X.base CX k f fd ps sp) (hr : Room (k + 1) X.A) (m : SpM X.K C "__len__" f) (hb : Binds X.K fd ps []) (hx : Passes CX X E) : CallR X (.builtin "len") (rOwnLen C sp E) := by
  intro pins s σ H vs us Q I r h
  obtain ⟨a, dx, fs, rfl, ha, h⟩ := h
  obtain ⟨u, rfl, ru⟩ := vals1 r
  obtain rfl : u = Value.ref a := ru
  obtain ⟨od, J⟩ := inst_at I ha
  obtain ⟨mm, hF⟩ := I.fr
  refine PySem.W.len_K hF I.ok.mod.kin J m.find m.fn (thn (run_sub (A := X.A.in1) (us := [Value.ref a]) (vs := [V.ref a]) ⟨hr.in1, rfl⟩ F hb hx I (.cons rfl .nil) h) fun r s' ⟨v, H', I', rv, n, eb, hn, q⟩ => ?_)
  subst eb
  obtain ⟨t, rfl⟩ := (show ∃ t, r = Value.int n t from rv)
  exact ⟨hn, .int n, H', I'.tok _, ⟨_, rfl⟩, q⟩
end
end ND

set_option Elab.async false
set_option linter.all false
set_option maxRecDepth 100000
set_option maxHeartbeats 4000000
/-! sorted of lists that read as data. -/
namespace ND
open PySem PySem.Spec L2
open PySem.W (EachIs AllAlike Sortable dataLe alike)
theorem DpAll.length {K : PySem.W.Frag} {H : Hp} : ∀ {vs : List V} {ds : List PyData}, DpAll K H vs ds → vs.length = ds.length
  | _, _, .nil => rfl
  | _, _, .cons _ t => by rw [List.length_cons, List.length_cons, DpAll.length t]
theorem DpAll.append {K : PySem.W.Frag} {H : Hp} : ∀ {vs ws : List V} {ds es : List PyData}, DpAll K H vs ds → DpAll K H ws es → DpAll K H (vs ++ ws) (ds ++ es)
  | _, _, _, _, .nil, h => h
  | _, _, _, _, .cons a t, h => .cons a (DpAll.append t h)
theorem DpAll.get {K : PySem.W.Frag} {H : Hp} : ∀ {vs : List V} {ds : List PyData} (i : Nat) (v : V), DpAll K H vs ds → vs[i]? = some v → ∃ d, ds[i]? = some d ∧ Dp K H v d
  | _, _, i, v, .nil, h => by simp at h
  | _, _, 0, v, .cons a t, h => by
    have e := Option.some.inj (by simpa using h)
    subst e
    exact ⟨_, rfl, a⟩
  | _, _, i + 1, v, .cons a t, h => by
    obtain ⟨d, h1, h2⟩ := DpAll.get i v t (by simpa using h)
    exact ⟨d, by simpa using h1, h2⟩
mutual
theorem Dp.keep {K : PySem.W.Frag} {H H' : Hp} (e : ∀ a o, H a = some o → H' a = some o) : ∀ {v : V} {d : PyData}, Dp K H v d → Dp K H' v d
  | _, _, .non => .non
  | _, _, .bl b => .bl b
  | _, _, .int i => .int i
  | _, _, .str x => .str x
  | _, _, .lst h r => .lst (SqL.ext h e) (DpAll.keep e r)
  | _, _, .tup h r => .tup (SqT.ext h e) (DpAll.keep e r)
theorem DpAll.keep {K : PySem.W.Frag} {H H' : Hp} (e : ∀ a o, H a = some o → H' a = some o) : ∀ {vs : List V} {ds : List PyData}, DpAll K H vs ds → DpAll K H' vs ds
  | _, _, .nil => .nil
  | _, _, .cons h t => .cons (Dp.keep e h) (DpAll.keep e t)
end
/-- sorted(xs) of alike data -/
def rSortD (K : PySem.W.Frag) : List V → Hp → VK → Prop := fun vs H Q => ∃ (a : Addr) (xs : List V) (ds : List PyData), vs = [.ref a] ∧ SqL K H a xs ∧ DpAll K H xs ds ∧ AllAlike ds ∧ Sortable ds ∧ (∀ d ∈ ds, d.depth ≤ 40) ∧
  ∀ (zs : List (V × PyData)) (p : Addr), zs = (xs.zip ds).mergeSort (dataLe false fun z => z.2) → H p = none → Q (.ref p) (upd H p (.lst (zs.map fun z => z.1)))
section
variable {X : Cx} {pins : List (Addr × Obj)} {σ : L2.St} {H : Hp} {s : Shared}
theorem each_vals : ∀ {vs : List V} {us : List Value} {ds : List PyData}, Vals vs us → vs.length = ds.length → EachIs (fun (u : Value) (b : V × PyData) => RelV b.1 u) us (vs.zip ds)
  | _, _, [], .nil, _ => .nil
  | _, _, _ :: _, .nil, h => by simp at h
  | _, _, [], .cons _ _, h => by simp at h
  | _, _, d :: ds, .cons r t, h => .cons r (each_vals t (by simpa using h))
theorem vals_each : ∀ {us : List Value} {bs : List (V × PyData)}, EachIs (fun (u : Value) (b : V × PyData) => RelV b.1 u) us bs → Vals (bs.map fun z => z.1) us
  | _, _, .nil => .nil
  | _, _, .cons r t => .cons r (vals_each t)
theorem each_reads (I : Inv X pins σ H s) : ∀ {vs : List V} {us : List Value} {ds : List PyData}, Vals vs us → DpAll X.K H vs ds → EachIs (fun (u : Value) (b : V × PyData) => ∃ as, Reads s.heap u b.2 as) us (vs.zip ds)
  | _, _, _, .nil, .nil => .nil
  | _, _, _, .cons r t, .cons h q => .cons (Dp.reads I _ _ _ h r) (each_reads I t q)
theorem zip_snd {α β : Type} : ∀ {xs : List α} {ys : List β}, xs.length = ys.length → (xs.zip ys).map (fun z => z.2) = ys
  | [], [], _ => rfl
  | [], _ :: _, h => by simp at h
  | _ :: _, [], h => by simp at h
  | x :: xs, y :: ys, h => by
    rw [List.zip_cons_cons, List.map_cons, zip_snd (by simpa using h)]
theorem cr_sortD (hu : X.A.units + 64 < cLine) : CallR X (.builtin "sorted") (rSortD X.K) := by
  intro pins s σ H vs us Q I r h
  obtain ⟨a, xs, ds, rfl, hs, hd, hal, hso, hdep, q⟩ := h
  obtain ⟨its, rv, hl, hz⟩ := I.list hs
  rw [Vals.ref1 r]
  have ln := DpAll.length hd
  have lz : (xs.zip ds).length = xs.length := by rw [List.length_zip]; omega
  refine PySem.W.sorted_data (bs := xs.zip ds) (enc := fun z => z.2) (R := fun u b => RelV b.1 u) hl.isList (each_vals rv ln) (each_reads I rv hd) (by rw [zip_snd ln]; exact hal) (by rw [zip_snd ln]; exact hso) (by omega) (fun b hb => ?_) fun out ho he => ?_
  · have hm : b.2 ∈ ds := by
      rw [← zip_snd ln]
      exact List.mem_map_of_mem hb
    have := hdep _ hm
    show X.A.units + 2 + b.2.depth < cLine
    omega
  · obtain ⟨ep, he'⟩ := PyProof.Rows.sortedAll_at s.heap its out.toArray
    have rvo := vals_each he
    generalize hzs : (xs.zip ds).mergeSort (dataLe false fun z => z.2) = zs at rvo
    have hlen : (zs.map fun z => z.1).length ≤ sizeLine := by
      rw [List.length_map, ← hzs, List.length_mergeSort, lz]
      exact hz
    exact ⟨.ref _, upd H (s.heap.objs.size + 1) (.lst (zs.map fun z => z.1)), I.laid (t' := s.toks) (fun _ _ => PyProof.Rows.sortedAll_old) (Nat.le_succ _) ⟨hlen, out, ep, rvo, he'⟩, rfl, q zs _ hzs.symm (I.hok.fresh (Nat.le_succ _))⟩
end
/-! ### the sorted list is one, whatever the order before -/
theorem lex_longer (a : Int ⊕ List Nat) : ∀ t : List (Int ⊕ List Nat), PyProof.Rows.lexLt PyProof.Rows.itemOrd t (t ++ [a]) = true
  | [] => rfl
  | x :: t => by
    rw [List.cons_append, PyProof.Rows.lex_cons, lex_longer a t, PyProof.Rows.itemOrd.irrefl x]
    rfl
theorem le_iff {β : Type} (enc : β → PyData) (a b : β) : dataLe false enc a b = !PyProof.Rows.lexLt PyProof.Rows.itemOrd (PySem.W.keyToks (enc b)) (PySem.W.keyToks (enc a)) := rfl
theorem eqv_of_le {x y : PyData} (hal : alike x y = true) (a : PyProof.Rows.lexLt PyProof.Rows.itemOrd (PySem.W.keyToks y) (PySem.W.keyToks x) = false) (b : PyProof.Rows.lexLt PyProof.Rows.itemOrd (PySem.W.keyToks x) (PySem.W.keyToks y) = false) : PyData.eqv x y = true := by
  have e : PySem.W.keyToks x = PySem.W.keyToks y := PyProof.Rows.lex_total _ _ b a
  cases h : PyData.eqv x y with
  | true => rfl
  | false =>
    have q := (PySem.W.toks_eqv x y hal).2 h [] [.inl 0]
    rw [b, List.append_nil, e, lex_longer] at q
    cases q
theorem sort_one {β : Type} (enc : β → PyData) {l m : List β} (hp : l.Perm m) (hal : ∀ a ∈ l, ∀ b ∈ l, alike (enc a) (enc b) = true) (inj : ∀ a ∈ l, ∀ b ∈ l, PyData.eqv (enc a) (enc b) = true → a = b) :
    l.mergeSort (dataLe false enc) = m.mergeSort (dataLe false enc) := by
  have T : PySem.W.TotalLe (dataLe false enc) := PySem.W.sortLe_total _ _ _
  refine List.Perm.eq_of_pairwise (le := fun a b => dataLe false enc a b = true) (fun a b ha hb h1 h2 => ?_) (PySem.W.sort_pairwise T l) (PySem.W.sort_pairwise T m) ((List.mergeSort_perm l _).trans (hp.trans (List.mergeSort_perm m _).symm))
  have ha' := (List.mergeSort_perm l _).mem_iff.mp ha
  have hb' := hp.mem_iff.mpr ((List.mergeSort_perm m _).mem_iff.mp hb)
  rw [le_iff, Bool.not_eq_true'] at h1 h2
  exact inj a ha' b hb' (eqv_of_le (hal a ha' b hb') h1 h2)
end ND

set_option Elab.async false
set_option linter.all false
set_option maxRecDepth 100000
set_option maxHeartbeats 0
namespace K50
open PySem PySem.Spec PyProof.Rows L2
def top (i : Nat) : Stmt := PySem.Challenge.pw_filedalike_k50_whole_index.main.body.getD i (.Pass ⟨0, 0, 0, 0⟩)
def cls (i j : Nat) : Stmt := inClass (top i) j
def dD (x : Str) (i : Nat) : He.DefD := ⟨(x, none), x, x, defArgs (top i), defBody (top i), defScope (top i), [], []⟩
def dM (c x q : Str) (i j : Nat) : He.DefD := ⟨(c, some x), x, q, defArgs (cls i j), defBody (cls i j), defScope (cls i j), [], []⟩
def fn : List He.DefD := [dD "place_for" 1, dM "Index" "__init__" "Index.__init__" 2 0, dM "Index" "lay" "Index.lay" 2 1, dM "Index" "take_out" "Index.take_out" 2 2, dM "Index" "numbers_of" "Index.numbers_of" 2 3,
  dM "Index" "how_many" "Index.how_many" 2 4, dM "Index" "all_keys" "Index.all_keys" 2 5, dM "Index" "__contains__" "Index.__contains__" 2 6, dM "Index" "__len__" "Index.__len__" 2 7, dM "Index" "__eq__" "Index.__eq__" 2 8,
  dD "_law_bag" 4, dD "_law_take" 5, dD "_law_of" 6, dD "_law_some" 7, dD "_law_names" 8, dD "_law_bool" 9, dD "_law_every" 10, dD "_law_keys" 11, dD "_law_same" 12, dD "_law_is" 13, dD "law" 14]
def fa : List He.Fa := [.glo "place_for", .glo "_law_bag", .glo "_law_take", .glo "_law_of", .glo "_law_some", .glo "_law_names", .glo "_law_bool", .glo "_law_every", .glo "_law_keys", .glo "_law_same", .glo "_law_is", .glo "law", .glo "Index",
  .free "len", .free "range", .free "sorted", .free "isinstance", .free "list", .free "tuple", .free "abs", .free "int", .free "enumerate", .free "min", .free "max", .free "bool",
  .cls "Index", .noat "Index" "by_number", .noat "Index" "by_key", .mkr "Index", .meth "Index" "lay", .meth "Index" "take_out", .meth "Index" "numbers_of", .meth "Index" "how_many", .meth "Index" "all_keys", .meth "Index" "__contains__", .meth "Index" "__len__", .meth "Index" "__eq__"]
/-- isinstance, == of Index -/
def ex (K : PySem.W.Frag) : Bool :=
  decide (PySem.W.findIn K (.ref (He.ga K "Index")) "__class__" = some (some (.builtin "object.__class__"))) &&
  (decide (PySem.W.specialIn K (.builtin "object.__class__") "__get__" = some (some (.builtin "getset_descriptor.__get__"))) &&
  (decide (PySem.W.takesIn K (.builtin "object.__class__") = some true) && (decide (PySem.W.mroIn K (He.ga K "Index") (.type "object") = some true) &&
  (decide (PySem.W.kitOne K (.ref (He.ga K "Index")) (.ref (He.ga K "Index")) = some true) && (decide (PySem.W.kitOne K (.type "dict") (.ref (He.ga K "Index")) = some false) &&
  decide (PySem.W.subIn K (.type "dict") (.ref (He.ga K "Index")) = some false))))))
abbrev AlE : Type := He.AlD × Bool
def obsEG (n : Nat) (g : Addr → Option Obj) : AlE := (He.obsDG n fa fn g, ex (He.frG g (He.asD g n)))
def hookE (n : Nat) : PySem.W.Hook where
  α := AlE
  obs := fun s => obsEG n s.heap.get?
  val := fun _ => (He.valD fn, true)
  says := fun _ h => ∃ K : PySem.W.Frag, K.In h ∧ He.SaysD fa fn K ∧ ex K = true
  of := fun _ _ e => ⟨_, He.frG_in, congrArg (fun z : AlE => z.1) e, congrArg (fun z : AlE => z.2) e⟩
  keeps := fun _ _ _ ⟨K, hK, c⟩ k => ⟨K, PySem.W.Frag.In.keeps hK k, c⟩
abbrev R : PySem.W.OpenRow := PySem.W.OpenLaw.row PySem.Challenge.rw_filedalike_k50_whole_index
abbrev hk : PySem.W.Hook := hookE 6
def ob (s : PySem.W.SharedT) : AlE := obsEG 6 (HandSHeadRun.getT s)
theorem ob_eq (s : PySem.W.SharedT) : ob s = hk.obs s.abs := by
  have e : HandSHeadRun.getT s = s.abs.heap.get? := funext (HandSHeadRun.getT_eq s)
  show obsEG 6 _ = obsEG 6 _
  rw [e]
def names : List Str := ["__name__", "place_for", "Index", "_law_bag", "_law_take", "_law_of", "_law_some", "_law_names", "_law_bool", "_law_every", "_law_keys", "_law_same", "_law_is"]
theorem run (w : World) : HandSHeadRun.RunEq R (PySem.W.view R.prog [14]) hk ob 2000 names w := by
  intro os
  kernel_rfl
end K50

set_option Elab.async false
set_option linter.all false
set_option maxRecDepth 100000
set_option maxHeartbeats 4000000
/-! names, what the top has written -/
namespace K50
open PySem PySem.Spec L2 ND
/-! place_for(number, numbers) -/
abbrev s_place_for : Stmt := top 1
abbrev N_place_for : List Str := ["number", "numbers", "low", "high", "middle"]
abbrev P_place_for : List Str := ["number", "numbers"]
theorem sc_place_for : FnScope N_place_for P_place_for (defScope s_place_for) := ⟨rfl, rfl, rfl, by decide +kernel, rfl, by decide +kernel, by decide +kernel⟩
/-! _law_bag(_law_script, _law_at) -/
abbrev s_law_bag : Stmt := top 4
abbrev N_law_bag : List Str := ["_law_script", "_law_at", "_law_number", "_law_mixed", "_law_spot", "_law_each"]
abbrev P_law_bag : List Str := ["_law_script", "_law_at"]
theorem sc_law_bag : FnScope N_law_bag P_law_bag (defScope s_law_bag) := ⟨rfl, rfl, rfl, by decide +kernel, rfl, by decide +kernel, by decide +kernel⟩
/-! _law_take(_law_bag_here, _law_many) -/
abbrev s_law_take : Stmt := top 5
abbrev N_law_take : List Str := ["_law_bag_here", "_law_many", "_law_digit"]
abbrev P_law_take : List Str := ["_law_bag_here", "_law_many"]
theorem sc_law_take : FnScope N_law_take P_law_take (defScope s_law_take) := ⟨rfl, rfl, rfl, by decide +kernel, rfl, by decide +kernel, by decide +kernel⟩
/-! _law_of(_law_bag_here, _law_some_here) -/
abbrev s_law_of : Stmt := top 6
abbrev N_law_of : List Str := ["_law_bag_here", "_law_some_here"]
abbrev P_law_of : List Str := ["_law_bag_here", "_law_some_here"]
theorem sc_law_of : FnScope N_law_of P_law_of (defScope s_law_of) := ⟨rfl, rfl, rfl, by decide +kernel, rfl, by decide +kernel, by decide +kernel⟩
/-! _law_some(_law_bag_here, _law_things, _law_most) -/
abbrev s_law_some : Stmt := top 7
abbrev N_law_some : List Str := ["_law_bag_here", "_law_things", "_law_most", "_law_left", "_law_found", "_law_lap"]
abbrev P_law_some : List Str := ["_law_bag_here", "_law_things", "_law_most"]
theorem sc_law_some : FnScope N_law_some P_law_some (defScope s_law_some) := ⟨rfl, rfl, rfl, by decide +kernel, rfl, by decide +kernel, by decide +kernel⟩
/-! _law_names(_law_bag_here, _law_many) -/
abbrev s_law_names : Stmt := top 8
abbrev N_law_names : List Str := ["_law_bag_here", "_law_many", "_law_letters", "_law_base", "_law_start", "_law_is_behind", "_law_found", "_law_k", "_law_one"]
abbrev P_law_names : List Str := ["_law_bag_here", "_law_many"]
theorem sc_law_names : FnScope N_law_names P_law_names (defScope s_law_names) := ⟨rfl, rfl, rfl, by decide +kernel, rfl, by decide +kernel, by decide +kernel⟩
/-! _law_bool(_law_told, _law_due) -/
abbrev s_law_bool : Stmt := top 9
abbrev N_law_bool : List Str := ["_law_told", "_law_due"]
abbrev P_law_bool : List Str := ["_law_told", "_law_due"]
theorem sc_law_bool : FnScope N_law_bool P_law_bool (defScope s_law_bool) := ⟨rfl, rfl, rfl, by decide +kernel, rfl, by decide +kernel, by decide +kernel⟩
/-! _law_every(_law_names_here) -/
abbrev s_law_every : Stmt := top 10
abbrev N_law_every : List Str := ["_law_names_here", "_law_one", "_law_two", "_law_three"]
abbrev P_law_every : List Str := ["_law_names_here"]
theorem sc_law_every : FnScope N_law_every P_law_every (defScope s_law_every) := ⟨rfl, rfl, rfl, by decide +kernel, rfl, by decide +kernel, by decide +kernel⟩
/-! _law_keys(_law_bag_here, _law_names_here) -/
abbrev s_law_keys : Stmt := top 11
abbrev N_law_keys : List Str := ["_law_bag_here", "_law_names_here", "_law_every_here", "_law_found"]
abbrev P_law_keys : List Str := ["_law_bag_here", "_law_names_here"]
theorem sc_law_keys : FnScope N_law_keys P_law_keys (defScope s_law_keys) := ⟨rfl, rfl, rfl, by decide +kernel, rfl, by decide +kernel, by decide +kernel⟩
/-! _law_same(_law_one, _law_two) -/
abbrev s_law_same : Stmt := top 12
abbrev N_law_same : List Str := ["_law_one", "_law_two", "_law_key"]
abbrev P_law_same : List Str := ["_law_one", "_law_two"]
theorem sc_law_same : FnScope N_law_same P_law_same (defScope s_law_same) := ⟨rfl, rfl, rfl, by decide +kernel, rfl, by decide +kernel, by decide +kernel⟩
/-! _law_is(_law_index, _law_table, _law_pool, _law_names_here) -/
abbrev s_law_is : Stmt := top 13
abbrev N_law_is : List Str := ["_law_index", "_law_table", "_law_pool", "_law_names_here", "_law_every_here", "_law_key", "_law_due", "_law_told", "_law_lead", "_law_used", "_law_there", "_law_number"]
abbrev P_law_is : List Str := ["_law_index", "_law_table", "_law_pool", "_law_names_here"]
theorem sc_law_is : FnScope N_law_is P_law_is (defScope s_law_is) := ⟨rfl, rfl, rfl, by decide +kernel, rfl, by decide +kernel, by decide +kernel⟩
/-! law(_law_script) -/
abbrev s_law : Stmt := top 14
abbrev N_law : List Str := ["_law_script", "_law_at", "_law_bag_here", "_law_names_here", "_law_first", "_law_pool", "_law_near", "_law_table", "_law_lap", "_law_number", "_law_keys_here", "_law_given", "_law_is_new", "_law_far", "_law_other", "_law_k"]
abbrev P_law : List Str := ["_law_script"]
theorem sc_law : FnScope N_law P_law (defScope s_law) := ⟨rfl, rfl, rfl, by decide +kernel, rfl, by decide +kernel, by decide +kernel⟩
/-! Index.__init__(self) -/
abbrev s_Index_init : Stmt := cls 2 0
abbrev N_Index_init : List Str := ["self"]
abbrev P_Index_init : List Str := ["self"]
theorem sc_Index_init : FnScope N_Index_init P_Index_init (defScope s_Index_init) := ⟨rfl, rfl, rfl, by decide +kernel, rfl, by decide +kernel, by decide +kernel⟩
/-! Index.lay(self, number, keys) -/
abbrev s_Index_lay : Stmt := cls 2 1
abbrev N_Index_lay : List Str := ["self", "number", "keys", "fresh", "elder", "key", "row"]
abbrev P_Index_lay : List Str := ["self", "number", "keys"]
theorem sc_Index_lay : FnScope N_Index_lay P_Index_lay (defScope s_Index_lay) := ⟨rfl, rfl, rfl, by decide +kernel, rfl, by decide +kernel, by decide +kernel⟩
/-! Index.take_out(self, key, number) -/
abbrev s_Index_take_out : Stmt := cls 2 2
abbrev N_Index_take_out : List Str := ["self", "key", "number", "row"]
abbrev P_Index_take_out : List Str := ["self", "key", "number"]
theorem sc_Index_take_out : FnScope N_Index_take_out P_Index_take_out (defScope s_Index_take_out) := ⟨rfl, rfl, rfl, by decide +kernel, rfl, by decide +kernel, by decide +kernel⟩
/-! Index.numbers_of(self, key) -/
abbrev s_Index_numbers_of : Stmt := cls 2 3
abbrev N_Index_numbers_of : List Str := ["self", "key"]
abbrev P_Index_numbers_of : List Str := ["self", "key"]
theorem sc_Index_numbers_of : FnScope N_Index_numbers_of P_Index_numbers_of (defScope s_Index_numbers_of) := ⟨rfl, rfl, rfl, by decide +kernel, rfl, by decide +kernel, by decide +kernel⟩
/-! Index.how_many(self, key) -/
abbrev s_Index_how_many : Stmt := cls 2 4
abbrev N_Index_how_many : List Str := ["self", "key"]
abbrev P_Index_how_many : List Str := ["self", "key"]
theorem sc_Index_how_many : FnScope N_Index_how_many P_Index_how_many (defScope s_Index_how_many) := ⟨rfl, rfl, rfl, by decide +kernel, rfl, by decide +kernel, by decide +kernel⟩
/-! Index.all_keys(self, lead) -/
abbrev s_Index_all_keys : Stmt := cls 2 5
abbrev N_Index_all_keys : List Str := ["self", "lead", "key"]
abbrev P_Index_all_keys : List Str := ["self", "lead"]
theorem sc_Index_all_keys : FnScope N_Index_all_keys P_Index_all_keys (defScope s_Index_all_keys) := ⟨rfl, rfl, rfl, by decide +kernel, rfl, by decide +kernel, by decide +kernel⟩
/-! Index.__contains__(self, number) -/
abbrev s_Index_contains : Stmt := cls 2 6
abbrev N_Index_contains : List Str := ["self", "number"]
abbrev P_Index_contains : List Str := ["self", "number"]
theorem sc_Index_contains : FnScope N_Index_contains P_Index_contains (defScope s_Index_contains) := ⟨rfl, rfl, rfl, by decide +kernel, rfl, by decide +kernel, by decide +kernel⟩
/-! Index.__len__(self) -/
abbrev s_Index_len : Stmt := cls 2 7
abbrev N_Index_len : List Str := ["self"]
abbrev P_Index_len : List Str := ["self"]
theorem sc_Index_len : FnScope N_Index_len P_Index_len (defScope s_Index_len) := ⟨rfl, rfl, rfl, by decide +kernel, rfl, by decide +kernel, by decide +kernel⟩
/-! Index.__eq__(self, other) -/
abbrev s_Index_eq : Stmt := cls 2 8
abbrev N_Index_eq : List Str := ["self", "other"]
abbrev P_Index_eq : List Str := ["self", "other"]
theorem sc_Index_eq : FnScope N_Index_eq P_Index_eq (defScope s_Index_eq) := ⟨rfl, rfl, rfl, by decide +kernel, rfl, by decide +kernel, by decide +kernel⟩
structure Txt (K : PySem.W.Frag) (mg : Str → Option Value) (D : Nat → FuncData) : Prop where
  F_place_for : FunD K "place_for" "place_for" (defArgs s_place_for) (defBody s_place_for) (defScope s_place_for) [] [] (He.ga K "place_for") (D 0)
  g_place_for : mg "place_for" = some (.ref (He.ga K "place_for"))
  F_Index_init : FunD K "__init__" "Index.__init__" (defArgs s_Index_init) (defBody s_Index_init) (defScope s_Index_init) [] [] (He.ma K (He.ga K "Index") "__init__") (D 1)
  F_Index_lay : FunD K "lay" "Index.lay" (defArgs s_Index_lay) (defBody s_Index_lay) (defScope s_Index_lay) [] [] (He.ma K (He.ga K "Index") "lay") (D 2)
  F_Index_take_out : FunD K "take_out" "Index.take_out" (defArgs s_Index_take_out) (defBody s_Index_take_out) (defScope s_Index_take_out) [] [] (He.ma K (He.ga K "Index") "take_out") (D 3)
  F_Index_numbers_of : FunD K "numbers_of" "Index.numbers_of" (defArgs s_Index_numbers_of) (defBody s_Index_numbers_of) (defScope s_Index_numbers_of) [] [] (He.ma K (He.ga K "Index") "numbers_of") (D 4)
  F_Index_how_many : FunD K "how_many" "Index.how_many" (defArgs s_Index_how_many) (defBody s_Index_how_many) (defScope s_Index_how_many) [] [] (He.ma K (He.ga K "Index") "how_many") (D 5)
  F_Index_all_keys : FunD K "all_keys" "Index.all_keys" (defArgs s_Index_all_keys) (defBody s_Index_all_keys) (defScope s_Index_all_keys) [] [] (He.ma K (He.ga K "Index") "all_keys") (D 6)
  F_Index_contains : FunD K "__contains__" "Index.__contains__" (defArgs s_Index_contains) (defBody s_Index_contains) (defScope s_Index_contains) [] [] (He.ma K (He.ga K "Index") "__contains__") (D 7)
  F_Index_len : FunD K "__len__" "Index.__len__" (defArgs s_Index_len) (defBody s_Index_len) (defScope s_Index_len) [] [] (He.ma K (He.ga K "Index") "__len__") (D 8)
  F_Index_eq : FunD K "__eq__" "Index.__eq__" (defArgs s_Index_eq) (defBody s_Index_eq) (defScope s_Index_eq) [] [] (He.ma K (He.ga K "Index") "__eq__") (D 9)
  F_law_bag : FunD K "_law_bag" "_law_bag" (defArgs s_law_bag) (defBody s_law_bag) (defScope s_law_bag) [] [] (He.ga K "_law_bag") (D 10)
  g_law_bag : mg "_law_bag" = some (.ref (He.ga K "_law_bag"))
  F_law_take : FunD K "_law_take" "_law_take" (defArgs s_law_take) (defBody s_law_take) (defScope s_law_take) [] [] (He.ga K "_law_take") (D 11)
  g_law_take : mg "_law_take" = some (.ref (He.ga K "_law_take"))
  F_law_of : FunD K "_law_of" "_law_of" (defArgs s_law_of) (defBody s_law_of) (defScope s_law_of) [] [] (He.ga K "_law_of") (D 12)
  g_law_of : mg "_law_of" = some (.ref (He.ga K "_law_of"))
  F_law_some : FunD K "_law_some" "_law_some" (defArgs s_law_some) (defBody s_law_some) (defScope s_law_some) [] [] (He.ga K "_law_some") (D 13)
  g_law_some : mg "_law_some" = some (.ref (He.ga K "_law_some"))
  F_law_names : FunD K "_law_names" "_law_names" (defArgs s_law_names) (defBody s_law_names) (defScope s_law_names) [] [] (He.ga K "_law_names") (D 14)
  g_law_names : mg "_law_names" = some (.ref (He.ga K "_law_names"))
  F_law_bool : FunD K "_law_bool" "_law_bool" (defArgs s_law_bool) (defBody s_law_bool) (defScope s_law_bool) [] [] (He.ga K "_law_bool") (D 15)
  g_law_bool : mg "_law_bool" = some (.ref (He.ga K "_law_bool"))
  F_law_every : FunD K "_law_every" "_law_every" (defArgs s_law_every) (defBody s_law_every) (defScope s_law_every) [] [] (He.ga K "_law_every") (D 16)
  g_law_every : mg "_law_every" = some (.ref (He.ga K "_law_every"))
  F_law_keys : FunD K "_law_keys" "_law_keys" (defArgs s_law_keys) (defBody s_law_keys) (defScope s_law_keys) [] [] (He.ga K "_law_keys") (D 17)
  g_law_keys : mg "_law_keys" = some (.ref (He.ga K "_law_keys"))
  F_law_same : FunD K "_law_same" "_law_same" (defArgs s_law_same) (defBody s_law_same) (defScope s_law_same) [] [] (He.ga K "_law_same") (D 18)
  g_law_same : mg "_law_same" = some (.ref (He.ga K "_law_same"))
  F_law_is : FunD K "_law_is" "_law_is" (defArgs s_law_is) (defBody s_law_is) (defScope s_law_is) [] [] (He.ga K "_law_is") (D 19)
  g_law_is : mg "_law_is" = some (.ref (He.ga K "_law_is"))
  F_law : FunD K "law" "law" (defArgs s_law) (defBody s_law) (defScope s_law) [] [] (He.ga K "law") (D 20)
  g_law : mg "law" = some (.ref (He.ga K "law"))
  n_len : mg "len" = none
  n_range : mg "range" = none
  n_sorted : mg "sorted" = none
  n_isinstance : mg "isinstance" = none
  n_list : mg "list" = none
  n_tuple : mg "tuple" = none
  n_abs : mg "abs" = none
  n_int : mg "int" = none
  n_enumerate : mg "enumerate" = none
  n_min : mg "min" = none
  n_max : mg "max" = none
  n_bool : mg "bool" = none
  g_Index : mg "Index" = some (.ref (He.ga K "Index"))
  cl_Index : Cls K (He.ga K "Index")
  mk_Index : Mk K (He.ga K "Index") (He.ma K (He.ga K "Index") "__init__")
  a_by_number : NoAttr K (He.ga K "Index") "by_number"
  a_by_key : NoAttr K (He.ga K "Index") "by_key"
  m_Index_lay : Meth K (He.ga K "Index") "lay" (He.ma K (He.ga K "Index") "lay")
  m_Index_take_out : Meth K (He.ga K "Index") "take_out" (He.ma K (He.ga K "Index") "take_out")
  m_Index_numbers_of : Meth K (He.ga K "Index") "numbers_of" (He.ma K (He.ga K "Index") "numbers_of")
  m_Index_how_many : Meth K (He.ga K "Index") "how_many" (He.ma K (He.ga K "Index") "how_many")
  m_Index_all_keys : Meth K (He.ga K "Index") "all_keys" (He.ma K (He.ga K "Index") "all_keys")
  sp_Index_contains : SpM K (He.ga K "Index") "__contains__" (He.ma K (He.ga K "Index") "__contains__")
  sp_Index_len : SpM K (He.ga K "Index") "__len__" (He.ma K (He.ga K "Index") "__len__")
  sp_Index_eq : SpM K (He.ga K "Index") "__eq__" (He.ma K (He.ga K "Index") "__eq__")
  x_Index : ex K = true
section
variable {K : PySem.W.Frag} {mg : Str → Option Value} {D : Nat → FuncData}
theorem b_place_for (T : Txt K mg D) : Binds K (D 0) P_place_for [] := T.F_place_for.bindsN fun _ _ _ _ _ _ us hl => match us, hl with | [_, _], _ => rfl
theorem Txt.kp_place_for (T : Txt K mg D) : PySem.W.keepIn K (.ref (He.ga K "place_for")) = true := T.F_place_for.kp
theorem b_Index_init (T : Txt K mg D) : Binds K (D 1) P_Index_init [] := T.F_Index_init.bindsN fun _ _ _ _ _ _ us hl => match us, hl with | [_], _ => rfl
theorem b_Index_lay (T : Txt K mg D) : Binds K (D 2) P_Index_lay [] := T.F_Index_lay.bindsN fun _ _ _ _ _ _ us hl => match us, hl with | [_, _, _], _ => rfl
theorem b_Index_take_out (T : Txt K mg D) : Binds K (D 3) P_Index_take_out [] := T.F_Index_take_out.bindsN fun _ _ _ _ _ _ us hl => match us, hl with | [_, _, _], _ => rfl
theorem b_Index_numbers_of (T : Txt K mg D) : Binds K (D 4) P_Index_numbers_of [] := T.F_Index_numbers_of.bindsN fun _ _ _ _ _ _ us hl => match us, hl with | [_, _], _ => rfl
theorem b_Index_how_many (T : Txt K mg D) : Binds K (D 5) P_Index_how_many [] := T.F_Index_how_many.bindsN fun _ _ _ _ _ _ us hl => match us, hl with | [_, _], _ => rfl
theorem b_Index_all_keys (T : Txt K mg D) : Binds K (D 6) P_Index_all_keys [] := T.F_Index_all_keys.bindsN fun _ _ _ _ _ _ us hl => match us, hl with | [_, _], _ => rfl
theorem b_Index_contains (T : Txt K mg D) : Binds K (D 7) P_Index_contains [] := T.F_Index_contains.bindsN fun _ _ _ _ _ _ us hl => match us, hl with | [_, _], _ => rfl
theorem b_Index_len (T : Txt K mg D) : Binds K (D 8) P_Index_len [] := T.F_Index_len.bindsN fun _ _ _ _ _ _ us hl => match us, hl with | [_], _ => rfl
theorem b_Index_eq (T : Txt K mg D) : Binds K (D 9) P_Index_eq [] := T.F_Index_eq.bindsN fun _ _ _ _ _ _ us hl => match us, hl with | [_, _], _ => rfl
theorem b_law_bag (T : Txt K mg D) : Binds K (D 10) P_law_bag [] := T.F_law_bag.bindsN fun _ _ _ _ _ _ us hl => match us, hl with | [_, _], _ => rfl
theorem Txt.kp_law_bag (T : Txt K mg D) : PySem.W.keepIn K (.ref (He.ga K "_law_bag")) = true := T.F_law_bag.kp
theorem b_law_take (T : Txt K mg D) : Binds K (D 11) P_law_take [] := T.F_law_take.bindsN fun _ _ _ _ _ _ us hl => match us, hl with | [_, _], _ => rfl
theorem Txt.kp_law_take (T : Txt K mg D) : PySem.W.keepIn K (.ref (He.ga K "_law_take")) = true := T.F_law_take.kp
theorem b_law_of (T : Txt K mg D) : Binds K (D 12) P_law_of [] := T.F_law_of.bindsN fun _ _ _ _ _ _ us hl => match us, hl with | [_, _], _ => rfl
theorem Txt.kp_law_of (T : Txt K mg D) : PySem.W.keepIn K (.ref (He.ga K "_law_of")) = true := T.F_law_of.kp
theorem b_law_some (T : Txt K mg D) : Binds K (D 13) P_law_some [] := T.F_law_some.bindsN fun _ _ _ _ _ _ us hl => match us, hl with | [_, _, _], _ => rfl
theorem Txt.kp_law_some (T : Txt K mg D) : PySem.W.keepIn K (.ref (He.ga K "_law_some")) = true := T.F_law_some.kp
theorem b_law_names (T : Txt K mg D) : Binds K (D 14) P_law_names [] := T.F_law_names.bindsN fun _ _ _ _ _ _ us hl => match us, hl with | [_, _], _ => rfl
theorem Txt.kp_law_names (T : Txt K mg D) : PySem.W.keepIn K (.ref (He.ga K "_law_names")) = true := T.F_law_names.kp
theorem b_law_bool (T : Txt K mg D) : Binds K (D 15) P_law_bool [] := T.F_law_bool.bindsN fun _ _ _ _ _ _ us hl => match us, hl with | [_, _], _ => rfl
theorem Txt.kp_law_bool (T : Txt K mg D) : PySem.W.keepIn K (.ref (He.ga K "_law_bool")) = true := T.F_law_bool.kp
theorem b_law_every (T : Txt K mg D) : Binds K (D 16) P_law_every [] := T.F_law_every.bindsN fun _ _ _ _ _ _ us hl => match us, hl with | [_], _ => rfl
theorem Txt.kp_law_every (T : Txt K mg D) : PySem.W.keepIn K (.ref (He.ga K "_law_every")) = true := T.F_law_every.kp
theorem b_law_keys (T : Txt K mg D) : Binds K (D 17) P_law_keys [] := T.F_law_keys.bindsN fun _ _ _ _ _ _ us hl => match us, hl with | [_, _], _ => rfl
theorem Txt.kp_law_keys (T : Txt K mg D) : PySem.W.keepIn K (.ref (He.ga K "_law_keys")) = true := T.F_law_keys.kp
theorem b_law_same (T : Txt K mg D) : Binds K (D 18) P_law_same [] := T.F_law_same.bindsN fun _ _ _ _ _ _ us hl => match us, hl with | [_, _], _ => rfl
theorem Txt.kp_law_same (T : Txt K mg D) : PySem.W.keepIn K (.ref (He.ga K "_law_same")) = true := T.F_law_same.kp
theorem b_law_is (T : Txt K mg D) : Binds K (D 19) P_law_is [] := T.F_law_is.bindsN fun _ _ _ _ _ _ us hl => match us, hl with | [_, _, _, _], _ => rfl
theorem Txt.kp_law_is (T : Txt K mg D) : PySem.W.keepIn K (.ref (He.ga K "_law_is")) = true := T.F_law_is.kp
theorem b_law (T : Txt K mg D) : Binds K (D 20) P_law [] := T.F_law.bindsN fun _ _ _ _ _ _ us hl => match us, hl with | [_], _ => rfl
theorem Txt.kp_law (T : Txt K mg D) : PySem.W.keepIn K (.ref (He.ga K "law")) = true := T.F_law.kp
theorem u8 {k : Nat} {A : Around} (hr : Room k A) : A.units + 8 < cLine := by have := hr.un; omega
theorem u9 {k : Nat} {A : Around} (hr : Room k A) : A.units + 9 < cLine := by have := hr.un; omega
theorem u20 {k : Nat} {A : Around} (hr : Room k A) : A.units + 1 + 10 < cLine := by have := hr.un; omega
theorem u65 {k : Nat} {A : Around} (hr : Room k A) : A.units + 65 < cLine := by have := hr.un; omega
end
end K50

set_option Elab.async false
set_option linter.all false
set_option maxRecDepth 100000
set_option maxHeartbeats 4000000
namespace K50
open PySem PySem.Spec L2 ND
/-! ### heaps -/
/-- what stood stands, but at the addresses of F -/
def Kp (F : Addr → Prop) (H H' : Hp) : Prop := ∀ b o, H b = some o → ¬ F b → H' b = some o
abbrev No : Addr → Prop := fun _ => False
theorem Kp.refl {F : Addr → Prop} {H : Hp} : Kp F H H := fun _ _ e _ => e
theorem Kp.trans {F : Addr → Prop} {H1 H2 H3 : Hp} (a : Kp F H1 H2) (b : Kp F H2 H3) : Kp F H1 H3 := fun c o e n => b c o (a c o e n) n
theorem Kp.mono {F G : Addr → Prop} {H H' : Hp} (a : Kp F H H') (h : ∀ b, F b → G b) : Kp G H H' := fun c o e n => a c o e fun z => n (h c z)
theorem Kp.new {F : Addr → Prop} {H : Hp} {p : Addr} {o : HO} (h : H p = none) : Kp F H (upd H p o) := fun c u e _ => by
  rw [upd_ne (ne_of_none e h)]; exact e
theorem Kp.put {F : Addr → Prop} {H : Hp} {p : Addr} {o : HO} (h : F p) : Kp F H (upd H p o) := fun c u e n => by
  rw [upd_ne (fun z => n (by rw [z]; exact h))]; exact e
theorem Kp.get {F : Addr → Prop} {H H' : Hp} (k : Kp F H H') {b : Addr} {o : HO} (e : H b = some o) (n : ¬ F b) : H' b = some o := k b o e n
theorem Kp.same {H H' : Hp} (k : Kp No H H') : Same H H' := fun b o e => k b o e id
theorem Kp.nil {F : Addr → Prop} {H H' : Hp} (k : Kp F H H') {b : Addr} (e : H' b = Option.none) (n : ¬ F b) : H b = Option.none := by
  cases h : H b with
  | none => rfl
  | some o => rw [k b o h n] at e; cases e
theorem No.all {F : Addr → Prop} {H H' : Hp} (k : Kp No H H') : Kp F H H' := k.mono fun _ z => z.elim
theorem up_some {H : Hp} {p c : Addr} {o z : HO} (e : H c = some z) (h : H p = none) : upd H p o c = some z := by
  rw [upd_ne (ne_of_none e h)]; exact e

/-! ### places in a row -/
def Sorted (l : List Int) : Prop := l.Pairwise (· < ·)
def PlaceOk (n : Int) (l : List Int) (j : Nat) : Prop := j ≤ l.length ∧ (∀ x ∈ l.take j, x < n) ∧ ∀ x ∈ l.drop j, n ≤ x
theorem Sorted.split {l : List Int} (h : Sorted l) (j : Nat) : ∀ x ∈ l.take j, ∀ y ∈ l.drop j, x < y := by
  have e : l = l.take j ++ l.drop j := (List.take_append_drop j l).symm
  unfold Sorted at h
  rw [e, List.pairwise_append] at h
  exact h.2.2
theorem sorted_get {l : List Int} (h : Sorted l) {i j : Nat} {x y : Int} (hi : l[i]? = some x) (hj : l[j]? = some y) (hij : i < j) : x < y := by
  obtain ⟨h1, rfl⟩ := List.getElem?_eq_some_iff.mp hi
  obtain ⟨h2, rfl⟩ := List.getElem?_eq_some_iff.mp hj
  exact List.pairwise_iff_getElem.mp h i j h1 h2 hij
theorem sorted_ins {l : List Int} {n : Int} {j : Nat} (h : Sorted l) (p : PlaceOk n l j) (hn : n ∉ l) : Sorted (l.take j ++ [n] ++ l.drop j) := by
  unfold Sorted
  rw [List.append_assoc, List.pairwise_append]
  have hs := h.split j
  have h' : (l.take j ++ l.drop j).Pairwise (· < ·) := by rw [List.take_append_drop]; exact h
  rw [List.pairwise_append] at h'
  refine ⟨h'.1, ?_, fun x hx y hy => ?_⟩
  · rw [List.singleton_append, List.pairwise_cons]
    refine ⟨fun y hy => ?_, h'.2.1⟩
    have := p.2.2 y hy
    have : y ≠ n := fun e => hn (e ▸ List.mem_of_mem_drop hy)
    omega
  · rcases List.mem_cons.mp hy with e | hy
    · subst e; exact p.2.1 x hx
    · exact hs x hx y hy
theorem mem_ins {l : List Int} {n x : Int} {j : Nat} : x ∈ l.take j ++ [n] ++ l.drop j ↔ x ∈ l ∨ x = n := by
  have e : x ∈ l ↔ x ∈ l.take j ∨ x ∈ l.drop j := by rw [← List.mem_append, List.take_append_drop]
  rw [e, List.mem_append, List.mem_append, List.mem_singleton]
  constructor
  · rintro ((h | h) | h)
    · exact .inl (.inl h)
    · exact .inr h
    · exact .inl (.inr h)
  · rintro ((h | h) | h)
    · exact .inl (.inl h)
    · exact .inr h
    · exact .inl (.inr h)
/-- where n stands, its place is that -/
theorem place_at {l : List Int} {n : Int} {j : Nat} (h : Sorted l) (p : PlaceOk n l j) (hn : n ∈ l) : l[j]? = some n := by
  obtain ⟨i, hi⟩ := List.mem_iff_getElem?.mp hn
  have hil := (List.getElem?_eq_some_iff.mp hi).1
  have h1 : j ≤ i := by
    rcases Nat.lt_or_ge i j with c | c
    · have m : n ∈ l.take j := List.mem_iff_getElem?.mpr ⟨i, by rw [List.getElem?_take_of_lt c]; exact hi⟩
      have := p.2.1 n m
      omega
    · exact c
  rcases Nat.eq_or_lt_of_le h1 with c | c
  · rw [c]; exact hi
  · have hj : l[j]? = some l[j] := List.getElem?_eq_getElem (by omega)
    have m : l[j] ∈ l.drop j := List.mem_iff_getElem?.mpr ⟨0, by rw [List.getElem?_drop]; exact hj⟩
    have a := p.2.2 _ m
    have b := sorted_get h hj hi c
    omega
theorem sorted_cut {l : List Int} (h : Sorted l) (j : Nat) : Sorted (l.eraseIdx j) := List.Pairwise.sublist (List.eraseIdx_sublist l j) h
theorem mem_cut {l : List Int} {n x : Int} {j : Nat} (h : Sorted l) (hj : l[j]? = some n) : x ∈ l.eraseIdx j ↔ x ∈ l ∧ x ≠ n := by
  have hjl := (List.getElem?_eq_some_iff.mp hj).1
  constructor
  · intro hx
    refine ⟨List.mem_of_mem_eraseIdx hx, fun e => ?_⟩
    obtain ⟨i, hi, ne⟩ := List.mem_eraseIdx_iff_getElem?.mp hx
    subst e
    rcases Nat.lt_or_ge i j with c | c
    · have := sorted_get h ne hj c; omega
    · have : j < i := by omega
      have := sorted_get h hj ne this; omega
  · rintro ⟨hx, ne⟩
    obtain ⟨i, hi⟩ := List.mem_iff_getElem?.mp hx
    refine List.mem_eraseIdx_iff_getElem?.mpr ⟨i, fun e => ?_, hi⟩
    subst e
    rw [hj] at hi
    exact ne (Option.some.inj hi).symm
theorem sorted_one {l m : List Int} (h : Sorted l) (g : Sorted m) (e : ∀ x, x ∈ l ↔ x ∈ m) : l = m := by
  have n1 : l.Nodup := h.imp fun h => by omega
  have n2 : m.Nodup := g.imp fun h => by omega
  have p : l.Perm m := (List.perm_ext_iff_of_nodup n1 n2).mpr e
  exact p.eq_of_pairwise (fun a b _ _ h1 h2 => by omega) h g

section
variable {P : Program} {w : World} {K : PySem.W.Frag} {mg : Str → Option Value} {base : Heap} {D : Nat → FuncData}
/-! ### place_for -/
def spPlace : Sp := fun vs H Q _ => ∃ (n : Int) (a : Addr) (l : List Int), vs = [.int n, .ref a] ∧ H a = some (.lst (l.map V.int)) ∧ Sorted l ∧ l.length ≤ 1000000 ∧ ∀ j : Nat, PlaceOk n l j → Q (.int j) H
theorem ok_place_for (T : Txt K mg D) : FnOk P w K mg base CX0 1 (He.ga K "place_for") (D 0) P_place_for spPlace := by
  refine T.F_place_for.ok sc_place_for (fun vs H Q E h => ?_) (fun cdv A outer s H vs Q E hr h => ?_)
  · obtain ⟨n, a, l, rfl, _⟩ := h
    rfl
  · obtain ⟨n, a, l, rfl, hA, hs, hlen, k⟩ := h
    have nd := sc_place_for.nd
    refine ⟨_, PSs.nox (pss_cons (ps_par (i := 2) (j := 3) rfl nd rfl rfl (by decide) rfl rfl (pa_cons pe_int (pa_cons (pe_callB call_len (by rfl) T.n_len (by decide +kernel) (pa_cons (pv 1) pa_nil)) pa_nil)) (by rfl))
    (pss_cons (ps_while PassesOwn.never (pt_cmpR op_lt (pv 2) (pv 3) (nomark _)) (pss_cons (ps_set (i := 4) nd rfl (Or.inl rfl) (pe_op op_fdiv (pe_op op_add (pv 2) (pv 3)) pe_int))
    (pss_one (ps_if (pt_cmpR op_lt (pe_ix ix_list (pv 1) (pv 4) (fun _ _ => rfl)) (pv 0) (nomark _)) (pss_one (ps_set (i := 2) nd rfl (Or.inl rfl) (pe_op op_add (pv 4) pe_int))) (pss_one (ps_set (i := 3) nd rfl (Or.inl rfl) (pv 4)))))))
    (pss_one (ps_ret (pv 2))))), ?_⟩
    have hS : SqL K H a (l.map V.int) := SqL.of hA
    refine ⟨_, rfl, _, (l.map V.int).length, rfl, Or.inl ⟨_, hS, rfl⟩, _, _, rfl, ?_⟩
    refine while_by (fun σ H' => ∃ (lo hi : Nat) (m : Option V), σ = [some (.int n), some (.ref a), some (.int lo), some (.int hi), m] ∧ H' = H ∧ lo ≤ hi ∧ hi ≤ l.length ∧ (∀ i x, i < lo → l[i]? = some x → x < n) ∧ ∀ i x, hi ≤ i → l[i]? = some x → n ≤ x)
      (fun σ _ => match σ with | [_, _, some (.int lo), some (.int hi), _] => (hi - lo).toNat | _ => 0) ?_ ?_ ?_
    · refine ⟨0, l.length, none, by rw [List.length_map]; rfl, rfl, Nat.zero_le _, Nat.le_refl _, fun i x h => absurd h (Nat.not_lt_zero _), fun i x h e => ?_⟩
      have := (List.getElem?_eq_some_iff.mp e).1
      omega
    · rintro σ H' ⟨lo, hi, m, rfl, rfl, h1, h2, h3, h4⟩
      refine ⟨_, rfl, _, rfl, _, _, rfl, rfl, _, rfl, ?_⟩
      refine ite2 (fun e => ?_) (fun e => ?_)
      · have hlt : lo < hi := by have := of_decide_eq_true e; omega
        have hm : (lo + hi : Int) / 2 = ((lo + hi) / 2 : Nat) := by omega
        have hmid : (lo + hi) / 2 < l.length := by omega
        have hg : l[(lo + hi) / 2]? = some l[(lo + hi) / 2] := List.getElem?_eq_getElem hmid
        refine ⟨_, rfl, _, rfl, _, _, rfl, rfl, _, _, rfl, rfl, ⟨by decide, by decide⟩, ?_⟩
        dsimp only
        rw [hm]
        refine ⟨_, rfl, _, rfl, a, _, _, .int l[(lo + hi) / 2], rfl, rfl, hS, ?_, _, rfl, _, _, rfl, rfl, _, rfl, ?_⟩
        · refine atI_nat (j := (lo + hi) / 2) ?_
          rw [List.getElem?_map, hg]; rfl
        refine ite2 (fun e2 => ?_) (fun e2 => ?_)
        · have e2 := of_decide_eq_true e2
          refine ⟨_, rfl, _, _, rfl, rfl, ⟨(lo + hi) / 2 + 1, hi, _, rfl, rfl, by omega, h2, fun i x hi' hx => ?_, h4⟩, ?_⟩
          · rcases Nat.lt_or_ge i ((lo + hi) / 2) with c | c
            · have := sorted_get hs hx hg c; omega
            · have : i = (lo + hi) / 2 := by omega
              subst this
              rw [hg] at hx
              have := Option.some.inj hx
              omega
          · show ((hi : Int) - (((lo + hi) / 2 : Nat) + 1)).toNat < ((hi : Int) - lo).toNat
            omega
        · have e2 : ¬ l[(lo + hi) / 2] < n := fun z => e2 (decide_eq_true z)
          refine ⟨_, rfl, ⟨lo, (lo + hi) / 2, _, rfl, rfl, by omega, by omega, h3, fun i x hi' hx => ?_⟩, ?_⟩
          · rcases Nat.eq_or_lt_of_le hi' with c | c
            · subst c
              rw [hg] at hx
              have := Option.some.inj hx
              omega
            · have := sorted_get hs hg hx c; omega
          · show ((((lo + hi) / 2 : Nat) : Int) - lo).toNat < ((hi : Int) - lo).toNat
            omega
      · have hge : lo = hi := by have : ¬ ((lo : Int) < hi) := fun z => e (decide_eq_true z); omega
        subst hge
        refine ⟨_, rfl, k lo ⟨h2, fun x hx => ?_, fun x hx => ?_⟩⟩
        · obtain ⟨i, hi⟩ := List.mem_iff_getElem?.mp hx
          rw [List.getElem?_take] at hi
          split at hi
          · exact h3 i x (by assumption) hi
          · cases hi
        · obtain ⟨i, hi⟩ := List.mem_iff_getElem?.mp hx
          rw [List.getElem?_drop] at hi
          exact h4 _ x (by omega) hi
    · rintro σ H' Q Q' hq ⟨x, e1, y, e2, i, j, e3, e4, k, e5, q⟩
      exact ⟨x, e1, y, e2, i, j, e3, e4, k, e5, hq _ _ q⟩
end
end K50

set_option Elab.async false
set_option linter.all false
set_option maxRecDepth 100000
set_option maxHeartbeats 4000000
namespace K50
open PySem PySem.Spec L2 ND
open PySem.W (beq_decide)
/-! ### keys: texts, tuples of texts and numbers -/
inductive At | s (x : Str) | i (n : Int)
  deriving DecidableEq
inductive Ky | a (x : Str) | t (l : List At)
  deriving DecidableEq
def At.v : At → V | .s x => .str x | .i n => .int n
def At.k : At → NestedKey | .s x => .text x | .i n => .num n
def At.d : At → PyData | .s x => .str x | .i n => .int n
def At.ok : At → Bool | .s x => PyData.strOk x | .i _ => true
def Ky.k : Ky → NestedKey | .a x => .text x | .t l => .tup (l.map At.k)
def Ky.d : Ky → PyData | .a x => .str x | .t l => .tuple (l.map At.d)
def Ky.ok : Ky → Bool | .a x => PyData.strOk x | .t l => l.all At.ok
/-- the value v is the key k -/
def KV (H : Hp) : Ky → V → Prop
  | .a x, v => v = .str x
  | .t l, v => ∃ p, v = .ref p ∧ H p = some (.tup (l.map At.v))
theorem At.k_inj : ∀ {a b : At}, a.k = b.k → a = b
  | .s x, .s y, h => by cases h; rfl
  | .i x, .i y, h => by cases h; rfl
  | .s x, .i y, h => by cases h
  | .i x, .s y, h => by cases h
theorem At.map_k_inj : ∀ {l m : List At}, l.map At.k = m.map At.k → l = m
  | [], [], _ => rfl
  | [], _ :: _, h => by simp at h
  | _ :: _, [], h => by simp at h
  | a :: l, b :: m, h => by
    simp only [List.map_cons, List.cons.injEq] at h
    rw [At.k_inj h.1, At.map_k_inj h.2]
theorem Ky.k_inj {a b : Ky} (h : a.k = b.k) : a = b := by
  cases a with
  | a x => cases b with
    | a y => simp only [Ky.k, NestedKey.text.injEq] at h; rw [h]
    | t m => cases h
  | t l => cases b with
    | a y => cases h
    | t m => simp only [Ky.k, NestedKey.tup.injEq] at h; rw [At.map_k_inj h]
theorem At.eqv : ∀ a b : At, PyData.eqv a.d b.d = decide (a = b)
  | .s x, .s y => by simp only [At.d, PyData.eqv, beq_decide, At.s.injEq]
  | .i x, .i y => by simp only [At.d, PyData.eqv, beq_decide, At.i.injEq]
  | .s x, .i y => by simp [At.d, PyData.eqv]
  | .i x, .s y => by simp [At.d, PyData.eqv]
theorem At.eqvAll : ∀ l m : List At, PyData.eqvAll (l.map At.d) (m.map At.d) = decide (l = m)
  | [], [] => by simp [PyData.eqvAll]
  | [], _ :: _ => by simp [PyData.eqvAll]
  | _ :: _, [] => by simp [PyData.eqvAll]
  | a :: l, b :: m => by
    rw [List.map_cons, List.map_cons, PyData.eqvAll, At.eqv, At.eqvAll l m]
    simp [Bool.decide_and]
theorem Ky.eqv (a b : Ky) : PyData.eqv a.d b.d = decide (a = b) := by
  cases a with
  | a x => cases b with
    | a y => simp only [Ky.d, PyData.eqv, beq_decide, Ky.a.injEq]
    | t m => simp [Ky.d, PyData.eqv]
  | t l => cases b with
    | a y => simp [Ky.d, PyData.eqv]
    | t m => simp only [Ky.d, PyData.eqv, At.eqvAll, Ky.t.injEq]
theorem At.lay : ∀ {a : At}, a.ok = true → a.d.canLay0 = true
  | .s x, h => by rw [At.d, PyData.canLay0]; exact h
  | .i _, _ => rfl
theorem At.layAll : ∀ {l : List At}, l.all At.ok = true → PyData.canLayAll0 (l.map At.d) = true
  | [], _ => rfl
  | a :: l, h => by
    rw [List.all_cons, Bool.and_eq_true] at h
    rw [List.map_cons, PyData.canLayAll0, At.lay h.1, At.layAll h.2]; rfl
theorem At.dep (a : At) : a.d.depth = 0 := by cases a <;> rfl
theorem At.depAll : ∀ l : List At, PyData.depthAll (l.map At.d) = 0
  | [] => rfl
  | a :: l => by rw [List.map_cons, PyData.depthAll, At.dep, At.depAll l]; rfl
theorem Ky.dep (a : Ky) : a.d.depth ≤ 1 := by
  cases a with
  | a x => exact Nat.zero_le _
  | t l => simp [Ky.d, PyData.depth, At.depAll]
theorem Ky.lay {a : Ky} (h : a.ok = true) : a.d.canLay0 = true := by
  cases a with
  | a x => simpa [Ky.d, PyData.canLay0, Ky.ok] using h
  | t l => simpa [Ky.d, PyData.canLay0] using At.layAll h
theorem Ky.shaped {a : Ky} (h : a.ok = true) : SeqAt.shaped a.d = true := by
  unfold SeqAt.shaped
  rw [Ky.lay h, decide_eq_true (Nat.le_trans (Ky.dep a) (by decide))]; rfl
theorem lay_list : ∀ {l : List Ky}, (∀ k ∈ l, k.ok = true) → PyData.canLayAll0 (l.map Ky.d) = true
  | [], _ => rfl
  | a :: l, h => by
    rw [List.map_cons, PyData.canLayAll0, Ky.lay (h a List.mem_cons_self), lay_list fun k hk => h k (List.mem_cons_of_mem _ hk)]; rfl
theorem dep_list : ∀ l : List Ky, PyData.depthAll (l.map Ky.d) ≤ 1
  | [] => Nat.zero_le _
  | a :: l => by
    rw [List.map_cons, PyData.depthAll]
    exact Nat.max_le.mpr ⟨Ky.dep a, dep_list l⟩
theorem shaped_list {l : List Ky} (h : ∀ k ∈ l, k.ok = true) : SeqAt.shaped (.list (l.map Ky.d)) = true := by
  unfold SeqAt.shaped
  rw [PyData.canLay0, lay_list h, PyData.depth, decide_eq_true (by have := dep_list l; omega)]; rfl
theorem eqvAll_keys : ∀ l m : List Ky, PyData.eqvAll (l.map Ky.d) (m.map Ky.d) = decide (l = m)
  | [], [] => by simp [PyData.eqvAll]
  | [], _ :: _ => by simp [PyData.eqvAll]
  | _ :: _, [] => by simp [PyData.eqvAll]
  | a :: l, b :: m => by
    rw [List.map_cons, List.map_cons, PyData.eqvAll, Ky.eqv, eqvAll_keys l m]
    simp [Bool.decide_and]
theorem eqv_keys (l m : List Ky) : PyData.eqv (.list (l.map Ky.d)) (.list (m.map Ky.d)) = decide (l = m) := by rw [PyData.eqv, eqvAll_keys]
theorem any_keys (l : List Ky) (k : Ky) : ((l.map Ky.d).any fun z => PyData.eqv z k.d) = decide (k ∈ l) := by
  induction l with
  | nil => simp
  | cons a l ih =>
    rw [List.map_cons, List.any_cons, ih, Ky.eqv]
    by_cases h : a = k
    · subst h; simp
    · have : ¬ k = a := fun e => h e.symm
      simp [h, this]
/-! ints as data -/
theorem eqvAll_ints : ∀ l m : List Int, PyData.eqvAll (l.map PyData.int) (m.map PyData.int) = decide (l = m)
  | [], [] => by simp [PyData.eqvAll]
  | [], _ :: _ => by simp [PyData.eqvAll]
  | _ :: _, [] => by simp [PyData.eqvAll]
  | a :: l, b :: m => by
    rw [List.map_cons, List.map_cons, PyData.eqvAll, eqvAll_ints l m, PyData.eqv, beq_decide]
    simp [Bool.decide_and]
theorem eqv_ints (l m : List Int) : PyData.eqv (.list (l.map PyData.int)) (.list (m.map PyData.int)) = decide (l = m) := by rw [PyData.eqv, eqvAll_ints]
theorem lay_ints : ∀ l : List Int, PyData.canLayAll0 (l.map PyData.int) = true
  | [] => rfl
  | a :: l => by rw [List.map_cons, PyData.canLayAll0, lay_ints l]; rfl
theorem dep_ints : ∀ l : List Int, PyData.depthAll (l.map PyData.int) = 0
  | [] => rfl
  | a :: l => by rw [List.map_cons, PyData.depthAll, dep_ints l]; rfl
theorem shaped_ints (l : List Int) : SeqAt.shaped (.list (l.map PyData.int)) = true := by
  unfold SeqAt.shaped
  rw [PyData.canLay0, lay_ints, PyData.depth, dep_ints]; rfl
theorem any_ints (l : List Int) (k : Int) : ((l.map PyData.int).any fun z => PyData.eqv z (.int k)) = decide (k ∈ l) := by
  induction l with
  | nil => simp
  | cons a l ih =>
    rw [List.map_cons, List.any_cons, ih, PyData.eqv, beq_decide]
    by_cases h : a = k
    · subst h; simp
    · have : ¬ k = a := fun e => h e.symm
      simp [h, this]

/-! in the heap -/
theorem KV.keep {H H' : Hp} (g : ∀ b xs, H b = some (.tup xs) → H' b = some (.tup xs)) : ∀ {k : Ky} {v : V}, KV H k v → KV H' k v
  | .a _, _, h => h
  | .t _, _, ⟨p, e, h⟩ => ⟨p, e, g _ _ h⟩
theorem atoms {H : Hp} : ∀ l : List At, KAll H (l.map At.k) (l.map At.v)
  | [] => .nil
  | .s x :: l => .cons (.text x) (atoms l)
  | .i n :: l => .cons (.int n) (atoms l)
theorem atoms_dep : ∀ l : List At, NestedKey.depthAll (l.map At.k) = 0
  | [] => rfl
  | .s x :: l => by rw [List.map_cons, NestedKey.depthAll, atoms_dep l]; rfl
  | .i x :: l => by rw [List.map_cons, NestedKey.depthAll, atoms_dep l]; rfl
theorem KV.at {H : Hp} : ∀ {k : Ky} {v : V}, KV H k v → KAt H k.k v
  | .a x, _, h => by rw [show _ = V.str x from h]; exact KAt.text x
  | .t l, _, ⟨p, e, h⟩ => by
    rw [e]
    exact ⟨.tup h (atoms l), by simp [Ky.k, NestedKey.depth, atoms_dep]⟩
theorem dpAtoms {K : PySem.W.Frag} {H : Hp} : ∀ l : List At, DpAll K H (l.map At.v) (l.map At.d)
  | [] => .nil
  | .s x :: l => .cons (.str x) (dpAtoms l)
  | .i n :: l => .cons (.int n) (dpAtoms l)
theorem KV.dp {K : PySem.W.Frag} {H : Hp} : ∀ {k : Ky} {v : V}, KV H k v → Dp K H v k.d
  | .a x, _, h => by rw [show _ = V.str x from h]; exact .str x
  | .t l, _, ⟨p, e, h⟩ => by
    rw [e]
    exact .tup (SqT.of h) (dpAtoms l)
/-- a row of keys -/
def KVs (H : Hp) : List Ky → List V → Prop := Paired (KV H)
theorem KVs.keep {H H' : Hp} (g : ∀ b xs, H b = some (.tup xs) → H' b = some (.tup xs)) {ks : List Ky} {vs : List V} (h : KVs H ks vs) : KVs H' ks vs := Paired.mapP h fun _ _ e => e.keep g
theorem KVs.dp {K : PySem.W.Frag} {H : Hp} : ∀ {ks : List Ky} {vs : List V}, KVs H ks vs → DpAll K H vs (ks.map Ky.d)
  | _, _, .nil => .nil
  | _, _, .cons a t => .cons a.dp (KVs.dp t)
theorem dpInts {K : PySem.W.Frag} {H : Hp} : ∀ l : List Int, DpAll K H (l.map V.int) (l.map PyData.int)
  | [] => .nil
  | n :: l => .cons (.int n) (dpInts l)
theorem KVs.len {H : Hp} {ks : List Ky} {vs : List V} (h : KVs H ks vs) : ks.length = vs.length := Paired.length h
theorem KVs.get {H : Hp} {ks : List Ky} {vs : List V} (h : KVs H ks vs) {i : Nat} {v : V} (e : vs[i]? = some v) : ∃ k, ks[i]? = some k ∧ KV H k v := by
  have hl : i < ks.length := by rw [h.len]; exact (List.getElem?_eq_some_iff.mp e).1
  obtain ⟨v', hv, q⟩ := paired_get h (List.getElem?_eq_getElem hl)
  rw [e] at hv
  cases hv
  exact ⟨_, List.getElem?_eq_getElem hl, q⟩
theorem KVs.append {H : Hp} {ks js : List Ky} {vs ws : List V} (h : KVs H ks vs) (g : KVs H js ws) : KVs H (ks ++ js) (vs ++ ws) := by
  induction h with
  | nil => exact g
  | cons a _ ih => exact .cons a ih
theorem KVs.take {H : Hp} {ks : List Ky} {vs : List V} (h : KVs H ks vs) : ∀ n, KVs H (ks.take n) (vs.take n) := by
  induction h with
  | nil => intro n; rw [List.take_nil, List.take_nil]; exact .nil
  | cons a _ ih => intro n; cases n with
    | zero => exact .nil
    | succ n => exact .cons a (ih n)
theorem tupKeep {F : Addr → Prop} {H H' : Hp} (k : Kp F H H') (hf : ∀ b xs, H b = some (.tup xs) → ¬ F b) : ∀ b xs, H b = some (.tup xs) → H' b = some (.tup xs) := fun b xs e => k b _ e (hf b xs e)
end K50

set_option Elab.async false
set_option linter.all false
set_option maxRecDepth 100000
set_option maxHeartbeats 4000000
namespace K50
open PySem PySem.Spec L2 ND
theorem for_enum {K : PySem.W.Frag} {a : Addr} {xs : List V} {g : TG} {tb : TS} {D : Ends} {σ : L2.St} {H : Hp} (Pv : Nat → L2.St → Hp → Prop) (h0 : Pv 0 σ H) (hl : ∀ i σ H, i ≤ xs.length → Pv i σ H → SqL K H a xs)
    (hs : ∀ i x σ H T, xs[i]? = some x → Pv i σ H → H T = none → g (.ref T) σ (upd H T (.tup [.int (i : Nat), x])) fun σ2 H2 => tb { D with nx := Pv (i + 1), ct := Pv (i + 1), bk := D.nx } σ2 H2) (hd : ∀ σ H, Pv xs.length σ H → D.nx σ H) :
    ∃ W : Nat → Nat → L2.St → Hp → Prop, (∃ m, W 0 m σ H) ∧ ∀ i m σ H, W i m σ H →
      ((Ite K a).stop i H ∧ D.nx σ H) ∨ ((Ite K a).go i H ∧ ∃ N : L2.St → Hp → Prop, (∀ σ' H', N σ' H' → ∃ m', m' < m ∧ W (i + 1) m' σ' H') ∧ ∀ x H', (Ite K a).yld i H x H' → g x σ H' fun σ2 H2 => tb { D with nx := N, ct := N, bk := D.nx } σ2 H2) := by
  refine ⟨fun i m σ H => m = xs.length - i ∧ i ≤ xs.length ∧ Pv i σ H, ⟨xs.length, by simp, Nat.zero_le _, h0⟩, ?_⟩
  rintro i m σ H ⟨rfl, hi, p⟩
  have q := hl i σ H hi p
  by_cases hlt : i < xs.length
  · refine .inr ⟨⟨xs, xs[i], q, by simp [hlt]⟩, Pv (i + 1), fun σ' H' p' => ⟨xs.length - (i + 1), by omega, rfl, hlt, p'⟩, fun x H' y => ?_⟩
    obtain ⟨T, z, rfl, nT, rfl, hz⟩ := y
    exact hs i z σ _ T (hz xs q) p nT
  · have e : i = xs.length := by omega
    subst e
    exact .inl ⟨⟨xs, q, Nat.le_refl _⟩, hd σ H p⟩
theorem cut_first (xs : List V) (n : Nat) : cutV xs none (some (n : Int)) = xs.take n := by
  unfold cutV
  rw [show HT.sIx xs.length xs.length (some (n : Int)) = min n xs.length from HT.sIx_nat xs.length xs.length n, HT.sIx_none, List.drop_zero, Nat.sub_zero]
  rcases Nat.le_total n xs.length with h | h
  · rw [Nat.min_eq_left h]
  · rw [Nat.min_eq_right h, List.take_length, List.take_of_length_le h]

/-! ### the bag -/
def BagIs (o : HO) : Prop := ∃ x y : Int, o = .lst [.int x, .int y] ∧ 0 ≤ x ∧ 0 ≤ y ∧ y < 2147483648
def BagAt (H : Hp) (b : Addr) : Prop := ∃ o, H b = some o ∧ BagIs o
theorem BagAt.keep {F : Addr → Prop} {H H' : Hp} {b : Addr} (h : BagAt H b) (k : Kp F H H') (n : ¬ F b) : BagAt H' b := let ⟨o, e, i⟩ := h; ⟨o, k b o e n, i⟩
def spBag (K : PySem.W.Frag) : Sp := fun vs H Q _ => ∃ (a : Addr) (ns : List Int) (i : Nat), vs = [.ref a, .int i] ∧ SqL K H a (ns.map V.int) ∧ ns.length ≤ 63 ∧ i ≤ 63 ∧
  ∀ H' p, Kp No H H' → H p = none → BagAt H' p → Q (.ref p) H'
/-- bag functions: called with the bag at b -/
def spTake : Sp := fun vs H Q _ => ∃ (b : Addr) (m : Int), vs = [.ref b, .int m] ∧ BagAt H b ∧ 0 < m ∧ m < 1000000 ∧
  ∀ (r : Int) (o : HO), 0 ≤ r → r < m → BagIs o → Q (.int r) (upd H b o)
def spOf : Sp := fun vs H Q _ => ∃ (b a : Addr) (xs : List V), vs = [.ref b, .ref a] ∧ BagAt H b ∧ a ≠ b ∧ H a = some (.lst xs) ∧ xs ≠ [] ∧ xs.length < 1000000 ∧
  ∀ (v : V) (o : HO), v ∈ xs → BagIs o → Q v (upd H b o)
def spSome : Sp := fun vs H Q _ => ∃ (b a : Addr) (xs : List V) (m : Int), vs = [.ref b, .ref a, .int m] ∧ BagAt H b ∧ a ≠ b ∧ H a = some (.lst xs) ∧ xs.length < 1000 ∧ 0 ≤ m ∧ m < 1000 ∧
  ∀ (ys : List V) (p : Addr) (H' : Hp), (∀ y ∈ ys, y ∈ xs) → (ys.length : Int) ≤ m → H p = none → Kp (fun x => x = b) H H' → BagAt H' b → H' p = some (.lst ys) → Q (.ref p) H'

section
variable {P : Program} {w : World} {K : PySem.W.Frag} {mg : Str → Option Value} {base : Heap} {D : Nat → FuncData}
theorem ok_law_bag (T : Txt K mg D) : FnOk P w K mg base CX0 1 (He.ga K "_law_bag") (D 10) P_law_bag (spBag K) := by
  refine T.F_law_bag.ok sc_law_bag (fun vs H Q E h => ?_) (fun cdv A outer s H vs Q E hr h => ?_)
  · obtain ⟨a, ns, i, rfl, _⟩ := h
    rfl
  · obtain ⟨a, ns, i, rfl, hS, hlen, hi, k⟩ := h
    have nd := sc_law_bag.nd
    refine ⟨_, PSs.nox (pss_cons (ps_set (i := 2) nd rfl (Or.inl rfl) (pe_ifExp (pt_cmpR op_lt (pv 1) (pe_callB call_len (by rfl) T.n_len (by decide +kernel) (pa_cons (pv 0) pa_nil)) (nomark _)) (pe_ix ix_list (pv 0) (pv 1) (fun _ _ => rfl)) pe_int))
    (pss_cons (ps_set (i := 3) nd rfl (Or.inl rfl) (pe_op op_add (pe_op op_mul pe_int (pv 1)) pe_int))
    (pss_cons (ps_for PassesOwn.never rfl (pi_enum (by rfl) T.n_enumerate (pa_cons (pe_slice sl_list (pv 0) po_none (po_some pe_int)) pa_nil)) (pg_tup rfl (pgs_cons (pg_name (i := 4) nd rfl (Or.inl rfl)) (pgs_cons (pg_name (i := 5) nd rfl (Or.inl rfl)) pgs_nil)))
    (pss_one (ps_set (i := 3) nd rfl (Or.inl rfl) (pe_op op_mod (pe_callTy call_int1 (by rfl) T.n_int (by decide +kernel) (pa_cons (pe_op op_add (pe_op op_add (pe_op op_add (pe_op op_mul (pv 3) pe_int) (pe_op op_mod (pe_callTy call_int1 (by rfl) T.n_int (by decide +kernel) (pa_cons (pv 5) pa_nil)) pe_int)) (pe_op op_mul pe_int (pv 4))) pe_int) pa_nil)) pe_int))))
    (pss_one (ps_ret (pe_lst (pa_cons (pe_ifExp (pt_cmpR op_ge (pe_callB call_abs (by rfl) T.n_abs (by decide +kernel) (pa_cons (pv 2) pa_nil)) (pe_op op_pow pe_int pe_int) (nomark _)) (pe_callB call_abs (by rfl) T.n_abs (by decide +kernel) (pa_cons (pv 2) pa_nil)) pe_int) (pa_cons (pv 3) pa_nil)))))))), ?_⟩
    refine ⟨_, rfl, _, rfl, _, (ns.map V.int).length, rfl, Or.inl ⟨_, hS, rfl⟩, _, _, rfl, rfl, _, rfl, ?_⟩
    refine ite2 (fun e => ⟨_, rfl, _, rfl, a, _, _, .int (ns[i]'(by have := of_decide_eq_true e; rw [List.length_map] at this; omega)), rfl, rfl, hS, atI_nat (j := i) (by rw [List.getElem?_map, List.getElem?_eq_getElem]; rfl), ?_⟩) (fun e => ?_)
    all_goals
      refine ⟨_, rfl, _, _, rfl, rfl, .inl ⟨by decide, by decide⟩, _, _, rfl, rfl, ?_⟩
      refine ⟨.ref a, rfl, 63, rfl, a, _, rfl, hS, fun c nc => ?_⟩
      have e63 : cutV (ns.map V.int) none (some 63) = (ns.take 63).map V.int := by rw [show (63 : Int) = ((63 : Nat) : Int) from rfl, cut_first, List.map_take]
      rw [e63]
      have k1 : Kp No H (upd H c (.lst ((ns.take 63).map V.int))) := Kp.new nc
      refine ⟨c, _, rfl, SqL.of upd_same, ?_⟩
      refine for_enum (xs := (ns.take 63).map V.int) (fun j σ H' => ∃ (y n : Int) (u v : Option V), σ = [some (.ref a), some (.int i), some (.int n), some (.int y), u, v] ∧ 0 ≤ y ∧ y < 2147483648 ∧ Kp No (upd H c (.lst ((ns.take 63).map V.int))) H') ?_ ?_ ?_ ?_
      · exact ⟨_, _, none, none, rfl, by show (0 : Int) ≤ 7919 * (i : Nat) + 1301; omega, by show 7919 * ((i : Nat) : Int) + 1301 < 2147483648; omega, Kp.refl⟩
      · rintro j σ H' _ ⟨_, _, _, _, _, _, _, kk⟩
        exact kk.same.seq (SqL.of upd_same)
      · rintro j x σ H' T' hx ⟨y, n, u, v, rfl, y0, y1, kk⟩ nT
        have hjl : j < 63 := by
          have := (List.getElem?_eq_some_iff.mp hx).1
          rw [List.length_map, List.length_take] at this
          omega
        obtain ⟨z, rfl⟩ : ∃ z : Int, x = .int z := by
          rw [List.getElem?_map] at hx
          cases q : (ns.take 63)[j]? with
          | none => rw [q] at hx; cases hx
          | some z => rw [q] at hx; exact ⟨z, (Option.some.inj hx).symm⟩
        refine ⟨T', _, rfl, SqT.of upd_same, rfl, _, _, rfl, _, _, rfl, rfl, ?_⟩
        refine ⟨_, rfl, _, _, rfl, rfl, .inl ⟨by omega, by omega⟩, _, rfl, .inl ⟨_, rfl, _, _, rfl, rfl, (by show (0 : Int) < _; decide), _, _, rfl, rfl, _, rfl, _, _, rfl, rfl, .inl ⟨by decide, by decide⟩, _, _, rfl, rfl, _, _, rfl, rfl, .inl ⟨_, rfl, _, _, rfl, rfl, (by show (0 : Int) < _; decide), ?_⟩⟩⟩
        exact ⟨_, _, _, _, rfl, Int.emod_nonneg _ (by decide), Int.lt_trans (Int.emod_lt_of_pos _ (by decide)) (by decide), kk.trans (Kp.new nT)⟩
      · rintro σ H' ⟨y, n, u, v, rfl, y0, y1, kk⟩
        refine ⟨_, rfl, _, rfl, _, _, rfl, rfl, ⟨by decide, by decide, by decide⟩, _, _, rfl, rfl, _, rfl, ?_⟩
        refine ite2 (fun e => ?_) (fun e => ?_)
        · refine ⟨_, rfl, _, rfl, _, rfl, by show 2 ≤ sizeLine; decide, fun p np => ?_⟩
          refine k _ p (k1.trans (kk.trans (Kp.new np))) ((k1.trans kk).nil np id) ⟨_, upd_same, _, y, rfl, ?_, y0, y1⟩
          split <;> omega
        · refine ⟨_, rfl, by show 2 ≤ sizeLine; decide, fun p np => ?_⟩
          exact k _ p (k1.trans (kk.trans (Kp.new np))) ((k1.trans kk).nil np id) ⟨_, upd_same, 0, y, rfl, Int.le_refl _, y0, y1⟩
theorem set_two (b : Addr) (H : Hp) (x y z : V) (h : H b = some (.lst [x, y])) : True := trivial
theorem ok_law_take (T : Txt K mg D) : FnOk P w K mg base CX0 1 (He.ga K "_law_take") (D 11) P_law_take spTake := by
  refine T.F_law_take.ok sc_law_take (fun vs H Q E h => ?_) (fun cdv A outer s H vs Q E hr h => ?_)
  · obtain ⟨b, m, rfl, _⟩ := h
    rfl
  · obtain ⟨b, m, rfl, ⟨_, hb, x, y, rfl, x0, y0, y1⟩, m0, m1, k⟩ := h
    have nd := sc_law_take.nd
    refine ⟨_, PSs.nox (pss_cons (ps_if (pt_cmpR op_gt (pe_ix ix_list (pv 0) pe_int (fun _ _ => rfl)) pe_int (nomark _)) (pss_cons (ps_set (i := 2) nd rfl (Or.inl rfl) (pe_op op_mod (pe_callTy call_int1 (by rfl) T.n_int (by decide +kernel) (pa_cons (pe_ix ix_list (pv 0) pe_int (fun _ _ => rfl)) pa_nil)) (pv 1)))
    (pss_cons (ps_asg (pe_op op_fdiv (pe_ix ix_list (pv 0) pe_int (fun _ _ => rfl)) (pv 1)) (pg_sub (pv 0) pe_int set_list))
    (pss_one (ps_ret (pv 2))))) pss_nil)
    (pss_cons (ps_asg (pe_op op_mod (pe_callTy call_int1 (by rfl) T.n_int (by decide +kernel) (pa_cons (pe_op op_add (pe_op op_mul (pe_ix ix_list (pv 0) pe_int (fun _ _ => rfl)) pe_int) pe_int) pa_nil)) pe_int) (pg_sub (pv 0) pe_int set_list))
    (pss_one (ps_ret (pe_op op_mod (pe_op op_fdiv (pe_op op_mod (pe_callTy call_int1 (by rfl) T.n_int (by decide +kernel) (pa_cons (pe_op op_mul (pe_op op_fdiv (pe_ix ix_list (pv 0) pe_int (fun _ _ => rfl)) pe_int) pe_int) pa_nil)) pe_int) pe_int) (pv 1)))))), ?_⟩
    have i0 : ∀ u v : V, atI [u, v] 0 = some u := fun _ _ => rfl
    have i1 : ∀ u v : V, atI [u, v] 1 = some v := fun _ _ => rfl
    refine ⟨_, rfl, b, _, _, _, rfl, rfl, SqL.of hb, i0 _ _, _, _, rfl, rfl, _, rfl, ?_⟩
    refine ite2 (fun e => ?_) (fun e => ?_)
    · have e := of_decide_eq_true e
      refine ⟨_, rfl, b, _, _, _, rfl, rfl, SqL.of hb, i0 _ _, .inl ⟨_, rfl, _, rfl, _, _, rfl, rfl, m0, ?_⟩⟩
      refine ⟨_, rfl, b, _, _, _, rfl, rfl, SqL.of hb, i0 _ _, _, rfl, _, _, rfl, rfl, ⟨m0, by omega⟩, ?_⟩
      refine ⟨_, rfl, b, _, _, 0, rfl, rfl, hb, rfl, ?_⟩
      refine ⟨_, rfl, ?_⟩
      exact k _ _ (Int.emod_nonneg _ (by omega)) (Int.emod_lt_of_pos _ m0) ⟨x / m, y, rfl, Int.ediv_nonneg x0 (by omega), y0, y1⟩
    · refine ⟨_, rfl, b, _, _, _, rfl, rfl, SqL.of hb, i1 _ _, _, _, rfl, rfl, .inl ⟨by omega, by omega⟩, _, _, rfl, rfl, .inl ⟨_, rfl, _, _, rfl, rfl, (by show (0 : Int) < _; decide), ?_⟩⟩
      refine ⟨_, rfl, b, _, _, 1, rfl, rfl, hb, rfl, ?_⟩
      refine ⟨_, rfl, b, _, _, _, rfl, rfl, SqL.of upd_same, i1 _ _, _, _, rfl, rfl, ⟨by decide, by decide⟩, _, _, rfl, rfl, .inr ⟨by decide, by decide⟩, .inl ⟨_, rfl, _, _, rfl, rfl, (by show (0 : Int) < _; decide), _, _, rfl, rfl, ⟨by decide, by decide⟩, _, rfl, _, _, rfl, rfl, m0, ?_⟩⟩
      exact k _ _ (Int.emod_nonneg _ (by omega)) (Int.emod_lt_of_pos _ m0) ⟨x, _, rfl, x0, Int.emod_nonneg _ (by decide), Int.lt_trans (Int.emod_lt_of_pos _ (by decide)) (by decide)⟩
theorem ok_law_of (T : Txt K mg D) : FnOk P w K mg base CX0 2 (He.ga K "_law_of") (D 12) P_law_of spOf := by
  refine T.F_law_of.ok sc_law_of (fun vs H Q E h => ?_) (fun cdv A outer s H vs Q E hr h => ?_)
  · obtain ⟨b, a, xs, rfl, _⟩ := h
    rfl
  · obtain ⟨b, a, xs, rfl, hb, ne, ha, hx, hl, k⟩ := h
    have nd := sc_law_of.nd
    refine ⟨_, PSs.nox (pss_one (ps_ret (pe_ix ix_list (pv 1) (pe_call (ok_law_take T) (hr.mono (by decide)) (by rfl) T.g_law_take T.kp_law_take (b_law_take T) .nil pass0 (pa_cons (pv 0) (pa_cons (pe_callB call_len (by rfl) T.n_len (by decide +kernel) (pa_cons (pv 1) pa_nil)) pa_nil))) (fun _ _ => rfl)))), ?_⟩
    have hx0 : 0 < xs.length := List.length_pos_iff.mpr hx
    refine ⟨_, rfl, _, rfl, _, rfl, _, xs.length, rfl, Or.inl ⟨_, SqL.of ha, rfl⟩, b, _, rfl, hb, by omega, by omega, fun r o r0 r1 bo => ?_⟩
    obtain ⟨j, rfl⟩ : ∃ j : Nat, r = j := ⟨r.toNat, by omega⟩
    have hr : j < xs.length := by omega
    exact ⟨a, xs, j, xs[j], rfl, rfl, SqL.of (by rw [upd_ne ne]; exact ha), atI_nat (List.getElem?_eq_getElem hr), k _ _ (List.getElem_mem _) bo⟩
theorem ok_law_some (T : Txt K mg D) : FnOk P w K mg base CX0 2 (He.ga K "_law_some") (D 13) P_law_some spSome := by
  refine T.F_law_some.ok sc_law_some (fun vs H Q E h => ?_) (fun cdv A outer s H vs Q E hr h => ?_)
  · obtain ⟨b, a, xs, m, rfl, _⟩ := h
    rfl
  · obtain ⟨b, a, xs, m, rfl, hb, ne, ha, hl, m0, m1, k⟩ := h
    have nd := sc_law_some.nd
    refine ⟨_, PSs.nox (pss_cons (ps_par (i := 3) (j := 4) rfl nd rfl rfl (by decide) rfl rfl (pa_cons (pe_callTy call_list_of (by rfl) T.n_list (by decide +kernel) (pa_cons (pv 1) pa_nil)) (pa_cons (pe_lst pa_nil) pa_nil)) (by rfl))
    (pss_cons (ps_for PassesOwn.never rfl (pi_range1 rfl T.n_range (pa_cons (pe_callB (call_min2 rfl) (by rfl) T.n_min (by decide +kernel) (pa_cons (pe_callB call_len (by rfl) T.n_len (by decide +kernel) (pa_cons (pv 3) pa_nil)) (pa_cons (pe_call (ok_law_take T) (hr.mono (by decide)) (by rfl) T.g_law_take T.kp_law_take (b_law_take T) .nil pass0 (pa_cons (pv 0) (pa_cons (pe_op op_add (pv 2) pe_int) pa_nil))) pa_nil))) pa_nil)) (pg_name (i := 5) nd rfl (Or.inl rfl))
    (pss_one (ps_expr (pe_bm F.plainAttrs_list F.slot_list_append F.type_list_append mt_append (pv 4) (pa_cons (pe_bm F.plainAttrs_list F.slot_list_pop F.type_list_pop mt_popAt (pv 3) (pa_cons (pe_call (ok_law_take T) (hr.mono (by decide)) (by rfl) T.g_law_take T.kp_law_take (b_law_take T) .nil pass0 (pa_cons (pv 0) (pa_cons (pe_callB call_len (by rfl) T.n_len (by decide +kernel) (pa_cons (pv 3) pa_nil)) pa_nil))) pa_nil)) pa_nil)))))
    (pss_one (ps_ret (pv 4))))), ?_⟩
    obtain ⟨o0, hb0, hbi⟩ := id hb
    refine ⟨_, rfl, a, xs, rfl, .inl (SqL.of ha), fun l nl => ?_⟩
    have s1 : Same H (upd H l (.lst xs)) := fun b o e => up_some e nl
    refine ⟨Nat.zero_le _, fun f nf => ?_⟩
    have nfl : f ≠ l := fun e => by rw [e, upd_same] at nf; cases nf
    have nf0 : H f = none := by rw [upd_ne nfl] at nf; exact nf
    have nbl : b ≠ l := ne_of_none hb0 nl
    have nbf : b ≠ f := ne_of_none hb0 nf0
    refine ⟨_, _, rfl, ?_⟩
    refine ⟨_, rfl, _, xs.length, rfl, Or.inl ⟨xs, SqL.of (by rw [upd_ne nfl.symm, upd_same]), rfl⟩, _, rfl, _, rfl, _, _, rfl, rfl, b, _, rfl, ⟨o0, by rw [upd_ne nbf, upd_ne nbl]; exact hb0, hbi⟩, by omega, by omega, fun r o r0 r1 bo => ?_⟩
    refine ⟨_, _, rfl, ?_⟩
    -- the loop
    have hz : ∃ n : Nat, (if r < (xs.length : Int) then r else (xs.length : Int)) = (n : Int) ∧ n ≤ xs.length ∧ (n : Int) ≤ m := by
      split
      · exact ⟨r.toNat, by omega, by omega, by omega⟩
      · exact ⟨xs.length, rfl, Nat.le_refl _, by omega⟩
    obtain ⟨n, en, n1, n2⟩ := hz
    refine ⟨(n : Int), congrArg (fun z => [V.int z]) en, by omega, by omega, ?_⟩
    refine for_range (n := n) (fun i σ H' => ∃ (ls fs : List V) (v : Option V), σ = [some (.ref b), some (.ref a), some (.int m), some (.ref l), some (.ref f), v] ∧ H' l = some (.lst ls) ∧ H' f = some (.lst fs) ∧ BagAt H' b ∧
      ls.length + i = xs.length ∧ fs.length = i ∧ (∀ y ∈ ls, y ∈ xs) ∧ (∀ y ∈ fs, y ∈ xs) ∧ Kp (fun x => x = b ∨ x = l ∨ x = f) H H') ?_ ?_ ?_
    · refine ⟨xs, [], none, rfl, ?_, ?_, ⟨o, upd_same, bo⟩, rfl, rfl, fun _ h => h, fun _ h => (nomatch h), ?_⟩
      · rw [upd_ne nbl.symm, upd_ne nfl.symm, upd_same]
      · rw [upd_ne nbf.symm, upd_same]
      · exact ((Kp.put (.inr (.inl rfl))).trans (Kp.put (.inr (.inr rfl)))).trans (Kp.put (.inl rfl))
    · rintro i σ H' hi ⟨ls, fs, v, rfl, hL, hF, ⟨o1, hb1, hbi1⟩, c1, c2, c3, c4, kk⟩
      refine ⟨_, rfl, .inl ⟨rfl, _, SqL.of hF⟩, _, rfl, .inl ⟨rfl, _, SqL.of hL⟩, _, rfl, _, rfl, _, ls.length, rfl, Or.inl ⟨ls, SqL.of hL, rfl⟩, b, _, rfl, ⟨o1, hb1, hbi1⟩, by omega, by omega, fun r o r0 r1 bo => ?_⟩
      have hrl : r.toNat < ls.length := by omega
      refine ⟨l, ls, r, r.toNat, ls[r.toNat], rfl, rfl, by rw [upd_ne nbl.symm]; exact hL, by omega, by omega, ?_, List.getElem?_eq_getElem hrl, ?_⟩
      · unfold seqIndex?
        rw [if_neg (by omega : ¬ r < 0), if_pos (by simp; omega)]
      refine ⟨f, fs, ls[r.toNat], rfl, rfl, by rw [upd_ne nfl, upd_ne nbf.symm]; exact hF, Nat.lt_of_le_of_lt (Nat.le_of_lt_succ (by omega : fs.length < 1000 + 1)) (by decide), ?_⟩
      refine ⟨_, _, _, rfl, by rw [upd_ne nfl.symm, upd_same], upd_same, ⟨o, by rw [upd_ne nbf, upd_ne nbl, upd_same], bo⟩, ?_, ?_, fun y hy => c3 y (List.mem_of_mem_eraseIdx hy), fun y hy => ?_, ?_⟩
      · rw [List.length_eraseIdx_of_lt hrl]; omega
      · rw [List.length_append, c2]; rfl
      · rcases List.mem_append.mp hy with h | h
        · exact c4 y h
        · rw [List.mem_singleton.mp h]; exact c3 _ (List.getElem_mem _)
      · exact ((kk.trans (Kp.put (.inl rfl))).trans (Kp.put (.inr (.inl rfl)))).trans (Kp.put (.inr (.inr rfl)))
    · rintro σ H' ⟨ls, fs, v, rfl, hL, hF, hb1, c1, c2, c3, c4, kk⟩
      refine ⟨_, rfl, k fs f H' c4 (by omega) nf0 (fun c o e n => kk c o e ?_) hb1 hF⟩
      rintro (h | h | h)
      · exact n h
      · rw [h, nl] at e; cases e
      · rw [h, nf0] at e; cases e
end
end K50

set_option Elab.async false
set_option linter.all false
set_option maxRecDepth 100000
set_option maxHeartbeats 4000000
namespace K50
open PySem PySem.Spec L2 ND
/-- truth -/
def tTru5 (K : PySem.W.Frag) (ta : TE) : TT := fun σ H Q => ta σ H fun x H' => ∃ k, TruV K x H' k ∧ Q k H'
theorem pt_tru5 {X : Cx} {K : PySem.W.Frag} (hK : X.K = K) {a : Expr} {ta : TE} (ha : PE X a ta) (he : ∀ whole, isTrue a X.env whole = (do let v ← whole; standAt a.pos; holding [v] (truthy v)) := by intro _; rfl) : PT X a (tTru5 K ta) := by
  subst hK
  exact pt_truth ha he
theorem Kp.drop {F G : Addr → Prop} {H H' : Hp} (k : Kp F H H') (h : ∀ c, F c → G c ∨ H c = none) : Kp G H H' := fun c o e n => k c o e fun f => (h c f).elim n fun z => by rw [z] at e; cases e
/-! ### names -/
def Nm (x : Str) : Prop := ∀ c ∈ x.cps.toList, 97 ≤ c ∧ c ≤ 122
def Lt (x : Str) : Prop := ∃ c, x = ⟨#[c]⟩ ∧ 97 ≤ c ∧ c ≤ 122
theorem Lt.nm {x : Str} (h : Lt x) : Nm x := by
  obtain ⟨c, rfl, h⟩ := h
  intro d hd
  have : d = c := by simpa using hd
  subst this; exact h
theorem Lt.len {x : Str} (h : Lt x) : x.length = 1 := by
  obtain ⟨c, rfl, h⟩ := h
  rfl
theorem cps_app (x y : Str) : (x ++ y).cps.toList = x.cps.toList ++ y.cps.toList := by
  show (x.cps ++ y.cps).toList = _
  rw [Array.toList_append]
theorem len_app (x y : Str) : (x ++ y).length = x.length + y.length := by
  show (x.cps ++ y.cps).size = _
  rw [Array.size_append]; rfl
theorem Nm.app {x y : Str} (h : Nm x) (g : Nm y) : Nm (x ++ y) := fun c hc => by
  rw [cps_app] at hc
  exact (List.mem_append.mp hc).elim (h c) (g c)
theorem Nm.ok {x : Str} (h : Nm x) : PyData.strOk x = true := by
  unfold PyData.strOk
  rw [Array.all_eq_true_iff_forall_mem]
  intro c hc
  have := h c (Array.mem_toList_iff.mpr hc)
  exact decide_eq_true (by omega)
theorem str_ext {x y : Str} (h : x.cps.toList = y.cps.toList) : x = y := PySem.W.str_of_cps h
theorem app_left {b x y : Str} (h : b ++ x = b ++ y) : x = y := by
  have e := congrArg (fun z : Str => z.cps.toList) h
  simp only [cps_app] at e
  exact str_ext (List.append_cancel_left e)
theorem app_right {b x y : Str} (h : x ++ b = y ++ b) : x = y := by
  have e := congrArg (fun z : Str => z.cps.toList) h
  simp only [cps_app] at e
  exact str_ext (List.append_cancel_right e)
theorem join_nm (e : Str) (he : e.cps.toList = []) : ∀ {ys : List Str}, (∀ y ∈ ys, Lt y) → Nm (Str.join e ys) ∧ (Str.join e ys).length = ys.length
  | [], _ => ⟨fun c h => by simp [Str.join, Str.empty] at h, rfl⟩
  | [x], h => ⟨(h x List.mem_cons_self).nm, (h x List.mem_cons_self).len⟩
  | x :: y :: r, h => by
    obtain ⟨a, b⟩ := join_nm e he (ys := y :: r) fun z hz => h z (List.mem_cons_of_mem _ hz)
    have hx := h x List.mem_cons_self
    show Nm (x ++ e ++ Str.join e (y :: r)) ∧ (x ++ e ++ Str.join e (y :: r)).length = (y :: r).length + 1
    refine ⟨(hx.nm.app fun c hc => by rw [he] at hc; cases hc).app a, ?_⟩
    have le : e.length = 0 := by show e.cps.size = 0; rw [← Array.length_toList, he]; rfl
    rw [len_app, len_app, b, hx.len, le]; omega
structure Good (x y z : Str) : Prop where
  nx : Nm x
  ny : Nm y
  nz : Nm z
  xy : x ≠ y
  xz : x ≠ z
  yz : y ≠ z
  lx : 0 < x.length
  ly : 0 < y.length
  lz : 0 < z.length
abbrev letters : Str := "abcdefghijklmnopqrstuvwxyz"
theorem letters_len : letters.cps.toList.length = 26 := by decide +kernel
theorem letters_get : ∀ i : Nat, i < 26 → letters.cps.toList[i]? = some (97 + i) := by decide +kernel
def letter (i : Nat) : Str := ⟨#[97 + i]⟩
theorem letter_lt {i : Nat} (h : i < 26) : Lt (letter i) := ⟨97 + i, rfl, by omega, by omega⟩
theorem letter_inj {i j : Nat} (h : letter i = letter j) : i = j := by
  unfold letter at h
  simp only [Str.mk.injEq] at h
  have := congrArg (fun a : Array Nat => a.toList) h
  simp at this
  omega
theorem letters_at {i : Nat} (h : i < 26) : atI letters.cps.toList (i : Int) = some (97 + i) := atI_nat (letters_get i h)
def spNames : Sp := fun vs H Q _ => ∃ (b : Addr), vs = [.ref b, .int 3] ∧ BagAt H b ∧
  ∀ (x y z : Str) (p : Addr) (H' : Hp), Good x y z → H p = none → Kp (fun c => c = b) H H' → BagAt H' b → H' p = some (.lst [.str x, .str y, .str z]) → Q (.ref p) H'
section
variable {P : Program} {w : World} {K : PySem.W.Frag} {mg : Str → Option Value} {base : Heap} {D : Nat → FuncData}
theorem ok_law_names (T : Txt K mg D) : FnOk P w K mg base CX0 3 (He.ga K "_law_names") (D 14) P_law_names spNames := by
  refine T.F_law_names.ok sc_law_names (fun vs H Q E h => ?_) (fun cdv A outer s H vs Q E hr h => ?_)
  · obtain ⟨b, rfl, _⟩ := h
    rfl
  · obtain ⟨b, rfl, hb, k⟩ := h
    have nd := sc_law_names.nd
    refine ⟨_, PSs.nox (pss_cons (ps_set (i := 2) nd rfl (Or.inr rfl) pe_str)
    (pss_cons (ps_set (i := 3) nd rfl (Or.inr rfl) (pe_join pe_str (pe_lc (own := [("_law_k", 7)]) rfl nd (pi_range1 rfl T.n_range (pa_cons (pe_call (ok_law_of T) (hr.mono (by decide)) (by rfl) T.g_law_of T.kp_law_of (b_law_of T) .nil pass0 (pa_cons (pv 0) (pa_cons (pe_lst (pa_cons pe_int (pa_cons pe_int (pa_cons pe_int (pa_cons pe_int pa_nil))))) pa_nil))) pa_nil)) (blkOk_by (own := [("_law_k", 7)]) (N := N_law_names) (sc := defScope s_law_names) (by decide +kernel)) (fun _ _ _ _ _ => pg_name (i := 7) nd rfl (Or.inl rfl)) (fun _ _ _ _ _ => pts_nil) (fun _ _ _ _ _ => (pe_ix ix_str (pv 2) (pe_call (ok_law_take T) (hr.mono (by decide)) (by rfl) T.g_law_take T.kp_law_take (b_law_take T) .nil pass0 (pa_cons (pv 0) (pa_cons pe_int pa_nil))) (fun _ _ => rfl))))))
    (pss_cons (ps_asg (pe_tup (pa_cons (pe_call (ok_law_take T) (hr.mono (by decide)) (by rfl) T.g_law_take T.kp_law_take (b_law_take T) .nil pass0 (pa_cons (pv 0) (pa_cons pe_int pa_nil))) (pa_cons (pe_call (ok_law_take T) (hr.mono (by decide)) (by rfl) T.g_law_take T.kp_law_take (b_law_take T) .nil pass0 (pa_cons (pv 0) (pa_cons pe_int pa_nil))) pa_nil))) (pg_tup rfl (pgs_cons (pg_name (i := 4) nd rfl (Or.inr rfl)) (pgs_cons (pg_name (i := 5) nd rfl (Or.inr rfl)) pgs_nil))))
    (pss_cons (ps_setLc (i := 6) (own := [("_law_k", 7)]) rfl nd rfl rfl (sw_true rfl rfl rfl (by decide +kernel)) (pi_range1 rfl T.n_range (pa_cons (pv 1) pa_nil)) (blkOk_by (own := [("_law_k", 7)]) (N := N_law_names) (sc := defScope s_law_names) (by decide +kernel)) (fun _ _ _ _ _ => pg_name (i := 7) nd rfl (Or.inl rfl)) (fun _ _ _ _ _ => pts_nil) (fun _ _ _ _ _ => (pe_ix ix_str (pv 2) (pe_op op_mod (pe_op op_add (pv 4) (pe_op op_mul pe_int (pv 7))) pe_int) (fun _ _ => rfl))))
    (pss_one (ps_ret (pe_lc (own := [("_law_one", 8)]) rfl nd (pi_list (pv 6)) (blkOk_by (own := [("_law_one", 8)]) (N := N_law_names) (sc := defScope s_law_names) (by decide +kernel)) (fun _ _ _ _ _ => pg_name (i := 8) nd rfl (Or.inl rfl)) (fun _ _ _ _ _ => pts_nil) (fun _ _ _ _ _ => (pe_ifExp (pt_tru5 (K := K) rfl (pv 5)) (pe_op op_add_str (pv 3) (pv 8)) (pe_op op_add_str (pv 8) (pv 3))))))))))), ?_⟩
    have lb : ∀ {H' : Hp}, BagAt H' b → ∀ {p : Addr}, H' p = none → p ≠ b := fun h _ hp e => by obtain ⟨o, e1, _⟩ := h; rw [← e, hp] at e1; cases e1
    -- the base
    refine ⟨⟨_, rfl⟩, _, rfl, by show 4 ≤ sizeLine; decide, fun p1 n1 => ?_⟩
    have q1 : Kp (fun c => c = b) H (upd H p1 (.lst [.int 0, .int 0, .int 2, .int 7])) := Kp.new n1
    refine ⟨b, p1, _, rfl, hb.keep (Kp.new (F := No) n1) id, lb hb n1, upd_same, (fun z => nomatch z), (by show 4 < 1000000; decide), fun v o hv bo => ?_⟩
    obtain ⟨n, rfl, hn⟩ : ∃ n : Nat, v = .int n ∧ n ≤ 7 := by
      simp only [List.mem_cons, List.mem_nil_iff, or_false] at hv
      rcases hv with h | h | h | h
      · exact ⟨0, h, by decide⟩
      · exact ⟨0, h, by decide⟩
      · exact ⟨2, h, by decide⟩
      · exact ⟨7, h, by decide⟩
    have q2 := q1.trans (Kp.put (o := o) rfl)
    have hb2 : BagAt (upd (upd H p1 (.lst [.int 0, .int 0, .int 2, .int 7])) b o) b := ⟨o, upd_same, bo⟩
    generalize upd (upd H p1 (.lst [.int 0, .int 0, .int 2, .int 7])) b o = H2 at q2 hb2
    refine ⟨n, rfl, by omega, by omega, fun d nD => ?_⟩
    have dB := lb hb2 nD
    refine lc_range (n := n) (fun i H' => ∃ ys : List Str, H' d = some (.lst (ys.map V.str)) ∧ ys.length = i ∧ (∀ y ∈ ys, Lt y) ∧ BagAt H' b ∧ Kp (fun c => c = b ∨ c = d) H2 H')
      ⟨[], upd_same, rfl, fun _ h => (nomatch h), hb2.keep (Kp.new (F := No) nD) id, Kp.put (.inr rfl)⟩ ?_ ?_
    · rintro i H' hi ⟨ys, hD, hl, hy, hbb, kk⟩
      refine ⟨rfl, ?_⟩
      refine ⟨_, rfl, _, rfl, b, _, rfl, hbb, by decide, by decide, fun r o r0 r1 bo => ?_⟩
      obtain ⟨j, rfl⟩ : ∃ j : Nat, r = j := ⟨r.toNat, by omega⟩
      have hj : j < 26 := by omega
      refine ⟨_, _, _, rfl, rfl, by decide +kernel, letters_at hj, ?_⟩
      refine ⟨ys.map V.str, by rw [upd_ne dB]; exact hD, by rw [List.length_map]; exact Nat.lt_of_lt_of_le (by omega : ys.length < 1000) (by decide), ys ++ [letter j], ?_, by rw [List.length_append, hl]; rfl, fun y hy' => ?_, ⟨o, by rw [upd_ne dB.symm, upd_same], bo⟩, (kk.trans (Kp.put (.inl rfl))).trans (Kp.put (.inr rfl))⟩
      · rw [upd_same, List.map_append]; rfl
      · rcases List.mem_append.mp hy' with h | h
        · exact hy y h
        · rw [List.mem_singleton.mp h]; exact letter_lt hj
    · rintro H3 ⟨ys, hD, hl, hy, hbb, kk⟩
      have q3 := q2.trans (kk.drop (G := fun c => c = b) (by rintro c (h | h); exact .inl h; exact .inr (h ▸ nD)))
      have jn := join_nm ("" : Str) (by decide +kernel) hy
      refine ⟨_, _, ys, rfl, rfl, .inl (SqL.of hD), ?_, ?_⟩
      · have : (ys.map (·.length)).sum = ys.length := by
          clear hD hl jn
          induction ys with
          | nil => rfl
          | cons y r ih => rw [List.map_cons, List.sum_cons, ih fun z hz => hy z (List.mem_cons_of_mem _ hz), (hy y List.mem_cons_self).len, List.length_cons]; omega
        rw [this, show (("" : Str)).length = 0 from by decide +kernel]; omega
      rw [TL.join_eq]
      generalize Str.join ("" : Str) ys = bs at jn
      -- start, is_behind
      refine ⟨_, rfl, b, _, rfl, hbb, by decide, by decide, fun r o r0 r1 bo => ?_⟩
      refine ⟨_, rfl, b, _, rfl, ⟨o, upd_same, bo⟩, by decide, by decide, fun r' o' r0' r1' bo' => ?_⟩
      refine ⟨by show 2 ≤ sizeLine; decide, fun t nt => ?_⟩
      have q4 := ((q3.trans (Kp.put (o := o) rfl)).trans (Kp.put (o := o') rfl))
      have hb4 : BagAt (upd (upd H3 b o) b o') b := ⟨o', upd_same, bo'⟩
      generalize upd (upd H3 b o) b o' = H4 at q4 hb4 nt
      refine ⟨t, _, rfl, SqT.of upd_same, rfl, _, _, rfl, _, _, rfl, rfl, ?_⟩
      have q5 := q4.trans (Kp.new (o := .tup [.int r, .int r']) nt)
      have hb5 := hb4.keep (Kp.new (F := No) (o := .tup [.int r, .int r']) nt) id
      generalize upd H4 t (.tup [.int r, .int r']) = H5 at q5 hb5
      -- found
      obtain ⟨st, rfl⟩ : ∃ j : Nat, r = j := ⟨r.toNat, by omega⟩
      refine ⟨_, rfl, 3, rfl, by decide, by decide, fun f nf => ?_⟩
      have fB := lb hb5 nf
      refine lc_range (n := 3) (fun i H' => i ≤ 3 ∧ H' f = some (.lst (((List.range i).map fun j => letter ((st + 7 * j) % 26)).map V.str)) ∧ Kp (fun c => c = f) H5 H')
        ⟨by decide, upd_same, Kp.put rfl⟩ ?_ ?_
      · rintro i H' hi ⟨_, hF, kk⟩
        refine ⟨rfl, ?_⟩
        have hj : (st + 7 * i) % 26 < 26 := Nat.mod_lt _ (by decide)
        have ej : ((st : Int) + 7 * (0 + (i : Int))) % 26 = ((st + 7 * i) % 26 : Nat) := by omega
        refine ⟨_, rfl, _, rfl, _, rfl, _, _, rfl, rfl, .inl ⟨by decide, by decide⟩, _, _, rfl, rfl, _, _, rfl, rfl, (by show (0 : Int) < _; decide), ?_⟩
        refine ⟨_, _, 97 + (st + 7 * i) % 26, rfl, rfl, by decide +kernel, ?_, ?_⟩
        · show atI _ (((st : Int) + 7 * (0 + (i : Int))) % 26) = _
          rw [ej]
          exact letters_at hj
        refine ⟨_, hF, by rw [List.length_map, List.length_map, List.length_range]; exact Nat.lt_of_lt_of_le (by omega : i < 1000) (by decide), by omega, ?_, kk.trans (Kp.put rfl)⟩
        rw [upd_same, List.range_succ, List.map_append, List.map_append]; rfl
      · rintro H6 ⟨_, hF, kk⟩
        have q6 := q5.trans (kk.drop (G := fun c => c = b) (by rintro c h; exact .inr (h ▸ nf)))
        have hb6 := hb5.keep kk (fun e => fB e.symm)
        have lts : ∀ i, Lt (letter ((st + 7 * i) % 26)) := fun i => letter_lt (Nat.mod_lt _ (by decide))
        refine ⟨_, rfl, f, rfl, ⟨_, SqL.of hF⟩, fun e ne => ?_⟩
        have fe : f ≠ e := ne_of_none hF ne
        have hbs : bs.length ≤ 7 := by rw [jn.2]; omega
        have sz : ∀ x : Str, Lt x → bs.length + x.length ≤ sizeLine ∧ x.length + bs.length ≤ sizeLine := fun x h => by
          have := h.len
          exact ⟨Nat.le_trans (by omega : _ ≤ 8) (by decide), Nat.le_trans (by omega : _ ≤ 8) (by decide)⟩
        -- the names
        refine lc_list (xs := ((List.range 3).map fun j => letter ((st + 7 * j) % 26)).map V.str) (fun i H' => Kp (fun c => c = e) H6 H' ∧ H' e = some (.lst ((((List.range 3).map fun j => letter ((st + 7 * j) % 26)).take i).map fun x => V.str (if r' ≠ 0 then bs ++ x else x ++ bs))))
          ⟨Kp.put rfl, upd_same⟩ (fun i H' _ h => SqL.of (h.1 _ _ hF fe)) ?_ ?_
        · rintro i x H' hx ⟨kk, hE⟩
          refine ⟨rfl, ?_⟩
          rw [List.getElem?_map] at hx
          obtain ⟨y, hy, rfl⟩ : ∃ y, ((List.range 3).map fun j => letter ((st + 7 * j) % 26))[i]? = some y ∧ x = .str y := by
            cases q : ((List.range 3).map fun j => letter ((st + 7 * j) % 26))[i]? with
            | none => rw [q] at hx; cases hx
            | some y => rw [q] at hx; exact ⟨y, rfl, (Option.some.inj hx).symm⟩
          have ly : Lt y := by
            obtain ⟨j, _, rfl⟩ := List.mem_map.mp (List.mem_of_getElem? hy)
            exact lts j
          have hi3 : i < 3 := by
            have := (List.getElem?_eq_some_iff.mp hy).1
            rwa [List.length_map, List.length_range] at this
          refine ⟨_, rfl, (r' != 0), rfl, ?_⟩
          refine ite2 (fun c => ?_) (fun c => ?_)
          · have c : r' ≠ 0 := by simpa using c
            refine ⟨_, rfl, _, rfl, bs, y, rfl, rfl, (sz y ly).1, _, hE, ?_, kk.trans (Kp.put rfl), ?_⟩
            · rw [List.length_map, List.length_take]; exact Nat.lt_of_le_of_lt (Nat.min_le_left _ _) (Nat.lt_of_lt_of_le (by omega : i < 1000) (by decide))
            · rw [upd_same, List.take_add_one, hy, List.map_append]
              show some (HO.lst (_ ++ [V.str (bs ++ y)])) = some (HO.lst (_ ++ [V.str (if r' ≠ 0 then bs ++ y else y ++ bs)]))
              rw [if_pos c]
          · have c : r' = 0 := by simpa using c
            refine ⟨_, rfl, _, rfl, y, bs, rfl, rfl, (sz y ly).2, _, hE, ?_, kk.trans (Kp.put rfl), ?_⟩
            · rw [List.length_map, List.length_take]; exact Nat.lt_of_le_of_lt (Nat.min_le_left _ _) (Nat.lt_of_lt_of_le (by omega : i < 1000) (by decide))
            · rw [upd_same, List.take_add_one, hy, List.map_append]
              show some (HO.lst (_ ++ [V.str (y ++ bs)])) = some (HO.lst (_ ++ [V.str (if r' ≠ 0 then bs ++ y else y ++ bs)]))
              rw [if_neg (fun z => z c)]
        · rintro H7 ⟨kk, hE⟩
          have nm : ∀ i j, i < 3 → j < 3 → i ≠ j → letter ((st + 7 * i) % 26) ≠ letter ((st + 7 * j) % 26) := fun i j hi hj ne e => by
            have := letter_inj e
            omega
          let g : Str → Str := fun x => if r' ≠ 0 then bs ++ x else x ++ bs
          have gi : ∀ x y, g x = g y → x = y := fun x y h => by
            show x = y
            simp only [g] at h
            split at h
            · exact app_left h
            · exact app_right h
          have gn : ∀ x, Lt x → Nm (g x) := fun x h => by
            simp only [g]
            split
            · exact jn.1.app h.nm
            · exact h.nm.app jn.1
          have gl : ∀ x, Lt x → 0 < (g x).length := fun x h => by
            have := h.len
            simp only [g]
            split
            · rw [len_app]; omega
            · rw [len_app]; omega
          refine k (g (letter ((st + 7 * 0) % 26))) (g (letter ((st + 7 * 1) % 26))) (g (letter ((st + 7 * 2) % 26))) e H7
            ⟨gn _ (lts 0), gn _ (lts 1), gn _ (lts 2), fun h => nm 0 1 (by decide) (by decide) (by decide) (gi _ _ h), fun h => nm 0 2 (by decide) (by decide) (by decide) (gi _ _ h), fun h => nm 1 2 (by decide) (by decide) (by decide) (gi _ _ h), gl _ (lts 0), gl _ (lts 1), gl _ (lts 2)⟩ ?_ (q6.trans (kk.drop fun c h => .inr (h ▸ ne))) (hb6.keep kk (fun z => lb hb6 ne z.symm)) hE
          exact q6.nil ne (lb hb6 ne)
end
end K50

set_option Elab.async false
set_option linter.all false
set_option maxRecDepth 100000
set_option maxHeartbeats 4000000
namespace K50
open PySem PySem.Spec L2 ND
def every (x y z : Str) : List Ky := [.a x, .t [.s x], .t [.s x, .s y], .t [.s x, .s z], .t [.s y, .i 7], .t [.s y, .i 8], .a "", .a y]
theorem every_ok {x y z : Str} (g : Good x y z) : ∀ k ∈ every x y z, k.ok = true := by
  intro k hk
  simp only [every, List.mem_cons, List.mem_nil_iff, or_false] at hk
  have a := g.nx.ok
  have b := g.ny.ok
  have c := g.nz.ok
  rcases hk with rfl | rfl | rfl | rfl | rfl | rfl | rfl | rfl <;> simp [Ky.ok, At.ok, a, b, c]
  decide +kernel
theorem ne_nil {x : Str} (h : 0 < x.length) : x ≠ "" := fun e => by
  rw [e] at h
  exact absurd h (by decide +kernel)
theorem every_nodup {x y z : Str} (g : Good x y z) : (every x y z).Nodup := by
  have a := g.xy
  have b := g.xz
  have c := g.yz
  have a' := g.xy.symm
  have b' := g.xz.symm
  have c' := g.yz.symm
  have d := ne_nil g.lx
  have e := ne_nil g.ly
  have d' := (ne_nil g.lx).symm
  have e' := (ne_nil g.ly).symm
  simp [every, a, b, c, a', b', c', d, e, d', e']
def sameK (ks js : List Ky) : Bool := ks.all (fun k => decide (k ∈ js)) && js.all fun k => decide (k ∈ ks)
theorem sameK_iff {ks js : List Ky} : sameK ks js = true ↔ ∀ k, k ∈ ks ↔ k ∈ js := by
  unfold sameK
  rw [Bool.and_eq_true, List.all_eq_true, List.all_eq_true]
  constructor
  · rintro ⟨a, b⟩ k
    exact ⟨fun h => of_decide_eq_true (a k h), fun h => of_decide_eq_true (b k h)⟩
  · intro h
    exact ⟨fun k hk => decide_eq_true ((h k).mp hk), fun k hk => decide_eq_true ((h k).mpr hk)⟩
theorem pick {H : Hp} {es : List Ky} {xs : List V} (h : KVs H es xs) : ∀ {ys : List V}, (∀ y ∈ ys, y ∈ xs) → ∃ ks, KVs H ks ys ∧ ∀ k ∈ ks, k ∈ es
  | [], _ => ⟨[], .nil, fun _ h => (nomatch h)⟩
  | y :: ys, hy => by
    obtain ⟨ks, a, b⟩ := pick h (ys := ys) fun z hz => hy z (List.mem_cons_of_mem _ hz)
    obtain ⟨i, hi⟩ := List.mem_iff_getElem?.mp (hy y List.mem_cons_self)
    obtain ⟨k, hk, q⟩ := h.get hi
    refine ⟨k :: ks, .cons q a, fun z hz => ?_⟩
    rcases List.mem_cons.mp hz with e | e
    · rw [e]; exact List.mem_of_getElem? hk
    · exact b z e
theorem BagAt.ne {H : Hp} {b p : Addr} (h : BagAt H b) (n : H p = none) : p ≠ b := fun e => by
  obtain ⟨o, e1, _⟩ := h
  rw [← e, n] at e1
  cases e1
theorem BagAt.tup {H : Hp} {b c : Addr} {xs : List V} (h : BagAt H b) (n : H c = some (.tup xs)) : ¬ c = b := fun e => by
  obtain ⟨o, e1, x, y, rfl, _⟩ := h
  rw [← e, n] at e1
  cases e1
theorem pe_ty {X : Cx} {n : String} {x : Str} {pos : Pos} (hg : Gl X x) (hm : X.mg x = none) (hv : bootBuiltins x = some (.type n)) (hn : x ≠ "__name__" := by decide) (hd : (x == ("__debug__" : Str)) = false := by decide) : PE X (.Name x pos) (tC (.ty n)) := pe_bltn hg hm hv rfl hn hd
/-- [k for k in a if k not in b] -/
theorem lc_notin {K : PySem.W.Frag} {σ : L2.St} {H : Hp} {Q : VK} (a b : Addr) {i j : Nat} {ks js : List Ky} {us ws : List V} (h1 : σ[i]? = some (some (.ref a))) (h2 : ∀ u, ((wipe σ [2]).set 2 (some u))[j]? = some (some (.ref b))) (h3 : ∀ u, ((wipe σ [2]).set 2 (some u))[2]? = some (some u))
    (h4 : ∀ u, wipe ((wipe σ [2]).set 2 (some u)) [2] = wipe σ [2]) (ha : H a = some (.lst us)) (hb : H b = some (.lst ws)) (hk : KVs H ks us) (hj : KVs H js ws) (ok1 : ∀ k ∈ ks, k.ok = true) (ok2 : ∀ k ∈ js, k.ok = true) (l1 : ks.length ≤ 1000)
    (q : ∀ (d : Addr) (H' : Hp) (fs : List Ky) (us' : List V), Kp No H H' → H d = none → H' d = some (.lst us') → KVs H' fs us' → fs = ks.filter (fun k => !decide (k ∈ js)) → Q (.ref d) H') :
    tLc (iList K (tVar i)) (gName 2) (tTest (tOp (rNotInD K) (tVar 2) (tVar j))) (tVar 2) [2] σ H Q := by
  refine ⟨_, h1, a, rfl, ⟨us, SqL.of ha⟩, fun d nd => ?_⟩
  refine lc_list (xs := us) (fun n H' => ∃ us', Kp (fun c => c = d) H H' ∧ H' d = some (.lst us') ∧ KVs H ((ks.take n).filter (fun k => !decide (k ∈ js))) us' ∧ us'.length ≤ 1000) ⟨[], Kp.put rfl, upd_same, .nil, Nat.zero_le _⟩ ?_ ?_ ?_
  · rintro n H' _ ⟨us', kk, _⟩
    exact SqL.of (kk _ _ ha (ne_of_none ha nd))
  · rintro n x H' hx ⟨us', kk, hd, hkv, hl⟩
    obtain ⟨k, hkn, hkx⟩ := hk.get hx
    have tk : ∀ c xs, H c = some (.tup xs) → H' c = some (.tup xs) := fun c xs h => kk _ _ h (ne_of_none h nd)
    have kok := ok1 k (List.mem_of_getElem? hkn)
    have hm : ks.take (n + 1) = ks.take n ++ [k] := by rw [List.take_add_one, hkn]; rfl
    refine ⟨h4 x, x, h3 x, _, h2 x, k.d, js.map Ky.d, (hkx.keep tk).dp, .lst (SqL.of (kk _ _ hb (ne_of_none hb nd))) (hj.keep tk).dp, Ky.shaped kok, shaped_list ok2, _, rfl, ?_⟩
    rw [any_keys]
    refine ite2 (fun c => ?_) (fun c => ?_)
    · have hl2 : us'.length < 1000 := by
        have e1 := hkv.len
        have e2 := List.length_filter_le (fun k => !decide (k ∈ js)) (ks.take n)
        have e3 := (List.getElem?_eq_some_iff.mp hkn).1
        rw [List.length_take] at e2
        omega
      refine ⟨x, h3 x, us', hd, Nat.lt_of_lt_of_le hl2 (by decide), us' ++ [x], kk.trans (Kp.put rfl), upd_same, ?_, by rw [List.length_append]; exact hl2⟩
      rw [hm, List.filter_append, List.filter_cons, if_pos c, List.filter_nil]
      exact hkv.append (.cons hkx .nil)
    · refine ⟨us', kk, hd, ?_, hl⟩
      rw [hm, List.filter_append, List.filter_cons, if_neg c, List.filter_nil, List.append_nil]
      exact hkv
  · rintro H' ⟨us', kk, hd, hkv, hl⟩
    refine q d H' _ us' (kk.drop fun c h => .inr (h ▸ nd)) nd hd (hkv.keep fun c xs h => kk _ _ h (ne_of_none h nd)) ?_
    rw [← hk.len, List.take_length]
def spBool : Sp := fun vs H Q _ => ∃ a b : Bool, vs = [.bl a, .bl b] ∧ Q (.bl (decide (a = b))) H
def spEvery : Sp := fun vs H Q _ => ∃ (a : Addr) (x y z : Str), vs = [.ref a] ∧ H a = some (.lst [.str x, .str y, .str z]) ∧
  ∀ (us : List V) (p : Addr) (H' : Hp), KVs H' (every x y z) us → H p = none → Kp No H H' → H' p = some (.lst us) → Q (.ref p) H'
def spSame : Sp := fun vs H Q _ => ∃ (a b : Addr) (ks js : List Ky) (us ws : List V), vs = [.ref a, .ref b] ∧ H a = some (.lst us) ∧ H b = some (.lst ws) ∧ KVs H ks us ∧ KVs H js ws ∧
  (∀ k ∈ ks, k.ok = true) ∧ (∀ k ∈ js, k.ok = true) ∧ ks.length ≤ 1000 ∧ js.length ≤ 1000 ∧ ∀ H', Kp No H H' → Q (.bl (sameK ks js)) H'
def spKeys : Sp := fun vs H Q _ => ∃ (b a : Addr) (x y z : Str), vs = [.ref b, .ref a] ∧ BagAt H b ∧ a ≠ b ∧ H a = some (.lst [.str x, .str y, .str z]) ∧
  ∀ (ks : List Ky) (us : List V) (p : Addr) (H' : Hp), KVs H' ks us → (∀ k ∈ ks, k ∈ every x y z) → ks.length ≤ 6 → H p = none → Kp (fun c => c = b) H H' → BagAt H' b → H' p = some (.lst us) → Q (.ref p) H'
section
variable {P : Program} {w : World} {K : PySem.W.Frag} {mg : Str → Option Value} {base : Heap} {D : Nat → FuncData}
theorem ok_law_bool (T : Txt K mg D) : FnOk P w K mg base CX0 1 (He.ga K "_law_bool") (D 15) P_law_bool spBool := by
  refine T.F_law_bool.ok sc_law_bool (fun vs H Q E h => ?_) (fun cdv A outer s H vs Q E hr h => ?_)
  · obtain ⟨a, b, rfl, _⟩ := h
    rfl
  · obtain ⟨a, b, rfl, k⟩ := h
    have nd := sc_law_bool.nd
    refine ⟨_, PSs.nox ((pss_one (ps_ret (pe_and (pe_callB call_isiN (by rfl) T.n_isinstance (by decide +kernel) (pa_cons (pv 0) (pa_cons (pe_ty (n := "bool") (by rfl) T.n_bool (by decide +kernel)) pa_nil))) (pe_one (pe_cmpR op_eq (pv 0) (pv 1) (nomark _))))))), ?_⟩
    refine ⟨_, rfl, .bl a, .ty "bool", .type "bool", .type "bool", true, rfl, .ty "bool", .inl (.base (.bl a)), kit_ty (by decide +kernel), true, rfl, ?_⟩
    rw [if_pos rfl]
    refine ⟨_, rfl, _, rfl, rfl, ?_⟩
    have e : (decide (V.bl a = V.bl b)) = decide (a = b) := by simp
    show Q (.bl (decide (V.bl a = V.bl b))) H
    rw [e]
    exact k
theorem ok_law_every (T : Txt K mg D) : FnOk P w K mg base CX0 1 (He.ga K "_law_every") (D 16) P_law_every spEvery := by
  refine T.F_law_every.ok sc_law_every (fun vs H Q E h => ?_) (fun cdv A outer s H vs Q E hr h => ?_)
  · obtain ⟨a, x, y, z, rfl, _⟩ := h
    rfl
  · obtain ⟨a, x, y, z, rfl, ha, k⟩ := h
    have nd := sc_law_every.nd
    refine ⟨_, PSs.nox ((pss_cons (ps_asg (pv 0) (pg_unl rfl (pgs_cons (pg_name (i := 1) nd rfl (Or.inl rfl)) (pgs_cons (pg_name (i := 2) nd rfl (Or.inl rfl)) (pgs_cons (pg_name (i := 3) nd rfl (Or.inl rfl)) pgs_nil)))))
    (pss_one (ps_ret (pe_lst (pa_cons (pv 1) (pa_cons (pe_tup (pa_cons (pv 1) pa_nil)) (pa_cons (pe_tup (pa_cons (pv 1) (pa_cons (pv 2) pa_nil))) (pa_cons (pe_tup (pa_cons (pv 1) (pa_cons (pv 3) pa_nil))) (pa_cons (pe_tup (pa_cons (pv 2) (pa_cons pe_int pa_nil))) (pa_cons (pe_tup (pa_cons (pv 2) (pa_cons pe_int pa_nil))) (pa_cons pe_str (pa_cons (pv 2) pa_nil))))))))))))), ?_⟩
    refine ⟨_, rfl, a, _, rfl, SqL.of ha, rfl, _, _, rfl, _, _, rfl, _, _, rfl, rfl, ?_⟩
    refine ⟨_, rfl, _, rfl, by show 1 ≤ sizeLine; decide, fun p1 n1 => ⟨_, rfl, _, rfl, by show 2 ≤ sizeLine; decide, fun p2 n2 => ⟨_, rfl, _, rfl, by show 2 ≤ sizeLine; decide, fun p3 n3 => ⟨_, rfl, by show 2 ≤ sizeLine; decide, fun p4 n4 => ⟨_, rfl, by show 2 ≤ sizeLine; decide, fun p5 n5 => ⟨_, rfl, by show 8 ≤ sizeLine; decide, fun p6 n6 => ?_⟩⟩⟩⟩⟩⟩
    have e6 : ∀ c o, (upd (upd (upd (upd (upd H p1 (.tup [.str x])) p2 (.tup [.str x, .str y])) p3 (.tup [.str x, .str z])) p4 (.tup [.str y, .int 7])) p5 (.tup [.str y, .int 8])) c = some o → (upd (upd (upd (upd (upd (upd H p1 (.tup [.str x])) p2 (.tup [.str x, .str y])) p3 (.tup [.str x, .str z])) p4 (.tup [.str y, .int 7])) p5 (.tup [.str y, .int 8])) p6 (.lst [.str x, .ref p1, .ref p2, .ref p3, .ref p4, .ref p5, .str "", .str y])) c = some o := fun c o h => up_some h n6
    have e5 : ∀ c o, (upd (upd (upd (upd H p1 (.tup [.str x])) p2 (.tup [.str x, .str y])) p3 (.tup [.str x, .str z])) p4 (.tup [.str y, .int 7])) c = some o → _ := fun c o h => e6 c o (up_some h n5)
    have e4 : ∀ c o, (upd (upd (upd H p1 (.tup [.str x])) p2 (.tup [.str x, .str y])) p3 (.tup [.str x, .str z])) c = some o → _ := fun c o h => e5 c o (up_some h n4)
    have e3 : ∀ c o, (upd (upd H p1 (.tup [.str x])) p2 (.tup [.str x, .str y])) c = some o → _ := fun c o h => e4 c o (up_some h n3)
    have e2 : ∀ c o, (upd H p1 (.tup [.str x])) c = some o → _ := fun c o h => e3 c o (up_some h n2)
    have kk : Kp No H _ := fun c o h _ => e2 c o (up_some h n1)
    refine k _ p6 _ ?_ ?_ kk upd_same
    · exact .cons rfl (.cons ⟨p1, rfl, e2 _ _ upd_same⟩ (.cons ⟨p2, rfl, e3 _ _ upd_same⟩ (.cons ⟨p3, rfl, e4 _ _ upd_same⟩ (.cons ⟨p4, rfl, e5 _ _ upd_same⟩ (.cons ⟨p5, rfl, e6 _ _ upd_same⟩ (.cons rfl (.cons rfl .nil)))))))
    · have k5 : Kp No H (upd (upd (upd (upd (upd H p1 (.tup [.str x])) p2 (.tup [.str x, .str y])) p3 (.tup [.str x, .str z])) p4 (.tup [.str y, .int 7])) p5 (.tup [.str y, .int 8])) := ((((Kp.new n1).trans (Kp.new n2)).trans (Kp.new n3)).trans (Kp.new n4)).trans (Kp.new n5)
      exact k5.nil n6 id
theorem ok_law_same (T : Txt K mg D) : FnOk P w K mg base CX0 1 (He.ga K "_law_same") (D 18) P_law_same spSame := by
  refine T.F_law_same.ok sc_law_same (fun vs H Q E h => ?_) (fun cdv A outer s H vs Q E hr h => ?_)
  · obtain ⟨a, b, ks, js, us, ws, rfl, _⟩ := h
    rfl
  · obtain ⟨a, b, ks, js, us, ws, rfl, ha, hb, hk, hj, ok1, ok2, l1, l2, k⟩ := h
    have nd := sc_law_same.nd
    refine ⟨_, PSs.nox ((pss_one (ps_ret (pe_and (pe_cmpR (op_eqD hr.units) (pe_lc (own := [("_law_key", 2)]) rfl nd (pi_list (pv 0)) (blkOk_by (own := [("_law_key", 2)]) (N := N_law_same) (sc := defScope s_law_same) (by decide +kernel)) (fun _ _ _ _ _ => pg_name (i := 2) nd rfl (Or.inl rfl)) (fun _ _ _ _ _ => pts_one (pt_cmpR (r := rNotInD K) (op_notInD (u65 hr)) (pv 2) (pv 1) rfl)) (fun _ _ _ _ _ => (pv 2))) (pe_lst pa_nil) (nomark _)) (pe_one (pe_cmpR (op_eqD hr.units) (pe_lc (own := [("_law_key", 2)]) rfl nd (pi_list (pv 1)) (blkOk_by (own := [("_law_key", 2)]) (N := N_law_same) (sc := defScope s_law_same) (by decide +kernel)) (fun _ _ _ _ _ => pg_name (i := 2) nd rfl (Or.inl rfl)) (fun _ _ _ _ _ => pts_one (pt_cmpR (r := rNotInD K) (op_notInD (u65 hr)) (pv 2) (pv 0) rfl)) (fun _ _ _ _ _ => (pv 2))) (pe_lst pa_nil) (nomark _))))))), ?_⟩
    unfold tRet tAndV tOp
    refine lc_notin (σ := [some (.ref a), some (.ref b), none]) a b (i := 0) (j := 1) rfl (fun _ => rfl) (fun _ => rfl) (fun _ => rfl) ha hb hk hj ok1 ok2 l1 fun d H1 fs us' k1 nd1 hd hkv hf => ?_
    refine ⟨Nat.zero_le _, fun e ne => ?_⟩
    have de : d ≠ e := ne_of_none hd ne
    refine ⟨_, _, .lst (SqL.of (by rw [upd_ne de]; exact hd)) (hkv.keep fun c xs h => up_some h ne).dp, .lst (SqL.of upd_same) .nil, shaped_list fun k hk => ok1 k (hf ▸ hk |> fun h => (List.mem_filter.mp h).1), by decide, ?_⟩
    have k2 : Kp No H (upd H1 e (.lst [])) := k1.trans (Kp.new ne)
    have e1 : PyData.eqv (.list (fs.map Ky.d)) (.list []) = ks.all (fun k => decide (k ∈ js)) := by
      rw [show ([] : List PyData) = ([] : List Ky).map Ky.d from rfl, eqv_keys, hf, Bool.eq_iff_iff, decide_eq_true_iff, List.all_eq_true, List.filter_eq_nil_iff]
      simp
    refine ⟨_, rfl, ?_⟩
    rw [e1]
    refine ite2 (fun c => ?_) (fun c => ?_)
    · refine lc_notin (σ := [some (.ref a), some (.ref b), none]) b a (i := 1) (j := 0) rfl (fun _ => rfl) (fun _ => rfl) (fun _ => rfl) (k2 _ _ hb id) (k2 _ _ ha id) (hj.keep fun c xs h => k2 _ _ h id) (hk.keep fun c xs h => k2 _ _ h id) ok2 ok1 l2 fun d H1 fs us' k1 nd1 hd hkv hf => ?_
      refine ⟨Nat.zero_le _, fun e ne => ?_⟩
      have de : d ≠ e := ne_of_none hd ne
      refine ⟨_, _, .lst (SqL.of (by rw [upd_ne de]; exact hd)) (hkv.keep fun c xs h => up_some h ne).dp, .lst (SqL.of upd_same) .nil, shaped_list fun k hk => ok2 k (hf ▸ hk |> fun h => (List.mem_filter.mp h).1), by decide, ?_⟩
      have e1 : PyData.eqv (.list (fs.map Ky.d)) (.list []) = js.all (fun k => decide (k ∈ ks)) := by
        rw [show ([] : List PyData) = ([] : List Ky).map Ky.d from rfl, eqv_keys, hf, Bool.eq_iff_iff, decide_eq_true_iff, List.all_eq_true, List.filter_eq_nil_iff]
        simp
      rw [e1]
      have := k _ (k2.trans (k1.trans (Kp.new (o := .lst []) ne)))
      unfold sameK at this
      rw [c, Bool.true_and] at this
      exact this
    · have := k _ k2
      unfold sameK at this
      rw [Bool.not_eq_true] at c
      rw [c, Bool.false_and] at this
      exact this
theorem ok_law_keys (T : Txt K mg D) : FnOk P w K mg base CX0 3 (He.ga K "_law_keys") (D 17) P_law_keys spKeys := by
  refine T.F_law_keys.ok sc_law_keys (fun vs H Q E h => ?_) (fun cdv A outer s H vs Q E hr h => ?_)
  · obtain ⟨b, a, x, y, z, rfl, _⟩ := h
    rfl
  · obtain ⟨b, a, x, y, z, rfl, hb, ne, ha, k⟩ := h
    have nd := sc_law_keys.nd
    refine ⟨_, PSs.nox ((pss_cons (ps_set (i := 2) nd rfl (Or.inl rfl) (pe_call (ok_law_every T) (hr.mono (by decide)) (by rfl) T.g_law_every T.kp_law_every (b_law_every T) .nil pass0 (pa_cons (pv 1) pa_nil)))
    (pss_cons (ps_set (i := 3) nd rfl (Or.inl rfl) (pe_call (ok_law_some T) (hr.mono (by decide)) (by rfl) T.g_law_some T.kp_law_some (b_law_some T) .nil pass0 (pa_cons (pv 0) (pa_cons (pv 2) (pa_cons pe_int pa_nil)))))
    (pss_one (ps_ret (pe_ifExp (pt_cmpR op_eq (pe_call (ok_law_take T) (hr.mono (by decide)) (by rfl) T.g_law_take T.kp_law_take (b_law_take T) .nil pass0 (pa_cons (pv 0) (pa_cons pe_int pa_nil))) pe_int (nomark _)) (pe_op op_cat (pv 3) (pe_slice sl_list (pv 3) po_none (po_some pe_int))) (pv 3))))))), ?_⟩
    refine ⟨_, rfl, a, x, y, z, rfl, ha, fun us p H1 hus np k1 hp => ?_⟩
    have hb1 := hb.keep k1 id
    have pb : p ≠ b := hb.ne np
    refine ⟨_, rfl, _, rfl, b, p, us, 5, rfl, hb1, pb, hp, by rw [← hus.len]; show 8 < 1000; decide, by decide, by decide, fun ys q H2 hys ly nq k2 hb2 hq => ?_⟩
    obtain ⟨ks, hks, hke⟩ := pick hus hys
    have lk : ks.length ≤ 5 := by rw [hks.len]; omega
    have ku : Kp (fun c => c = b) H H2 := (No.all k1).trans k2
    have hks2 : KVs H2 ks ys := hks.keep fun c xs h => k2 _ _ h fun z => hb1.tup h z
    refine ⟨_, rfl, b, _, rfl, hb2, by decide, by decide, fun r o r0 r1 bo => ?_⟩
    have qb : q ≠ b := hb1.ne nq
    have nqH : H q = none := k1.nil nq id
    have k3 := ku.trans (Kp.put (o := o) rfl)
    have hq3 : (upd H2 b o) q = some (.lst ys) := by rw [upd_ne qb]; exact hq
    have hb3 : BagAt (upd H2 b o) b := ⟨o, upd_same, bo⟩
    have hks3 : KVs (upd H2 b o) ks ys := hks2.keep fun c xs h => Kp.put (F := fun c => c = b) (H := H2) (p := b) (o := o) rfl _ _ h fun z => hb2.tup h z
    generalize upd H2 b o = H3 at k3 hq3 hb3 hks3
    have fin : ∀ (js : List Ky) (ws : List V) (e : Addr) (H' : Hp), KVs H' js ws → (∀ k ∈ js, k ∈ every x y z) → js.length ≤ 6 → H e = none → Kp (fun c => c = b) H H' → BagAt H' b → H' e = some (.lst ws) → Q (.ref e) H' := k
    refine ⟨rfl, _, rfl, ?_⟩
    refine ite2 (fun c => ?_) (fun c => ?_)
    · refine ⟨_, rfl, _, rfl, 1, rfl, q, ys, rfl, SqL.of hq3, fun e ne => ?_⟩
      rw [show (1 : Int) = ((1 : Nat) : Int) from rfl, cut_first]
      have qe : q ≠ e := ne_of_none hq3 ne
      refine ⟨q, e, ys, ys.take 1, rfl, rfl, by rw [upd_ne qe]; exact hq3, upd_same, Nat.le_trans (by rw [List.length_take]; omega : _ ≤ 100) (by decide), fun f nf => ?_⟩
      have k4 := (k3.trans (Kp.new (o := .lst (ys.take 1)) ne)).trans (Kp.new (o := .lst (ys ++ ys.take 1)) nf)
      have hb4 := (hb3.keep (Kp.new (F := No) (o := .lst (ys.take 1)) ne) id).keep (Kp.new (F := No) (o := .lst (ys ++ ys.take 1)) nf) id
      have hks4 := (hks3.keep fun c xs h => up_some (o := .lst (ys.take 1)) h ne).keep fun c xs h => up_some (o := .lst (ys ++ ys.take 1)) h nf
      refine fin (ks ++ ks.take 1) _ f _ (hks4.append (hks4.take 1)) (fun k hk => ?_) (by rw [List.length_append, List.length_take]; omega) ?_ k4 hb4 upd_same
      · rcases List.mem_append.mp hk with h | h
        · exact hke k h
        · exact hke k (List.mem_of_mem_take h)
      · exact (k3.trans (Kp.new (o := .lst (ys.take 1)) ne)).nil nf ((hb3.keep (Kp.new (F := No) (o := .lst (ys.take 1)) ne) id).ne nf)
    · exact ⟨_, rfl, fin ks ys q H3 hks3 hke (by omega) nqH k3 hb3 hq3⟩
end
end K50

set_option Elab.async false
set_option linter.all false
set_option maxRecDepth 100000
set_option maxHeartbeats 4000000
namespace K50
open PySem PySem.Spec L2 ND
/-! ### the dict by_key: key -> row of numbers -/
structure KE where
  k : Ky
  v : V
  r : Addr
  l : List Int
def KE.e (x : KE) : EntV := (x.k.k, x.v, .ref x.r)
def look (es : List KE) (k : Ky) : List Int := ((es.find? fun x => decide (x.k = k)).map (·.l)).getD []
def setl (es : List KE) (k : Ky) (l : List Int) : List KE := es.map fun y => if y.k = k then { y with l := l } else y
def cutk (es : List KE) (k : Ky) : List KE := es.filter fun y => decide (y.k ≠ k)
theorem es_none {es : List KE} {k : Ky} (h : ∀ x ∈ es, x.k ≠ k) : atN (es.map KE.e) k.k = none ∧ look es k = [] := by
  constructor
  · refine atN_none fun j p e => ?_
    rw [List.getElem?_map] at e
    cases q : es[j]? with
    | none => rw [q] at e; cases e
    | some x =>
      rw [q] at e
      have e1 : KE.e x = (k.k, p) := Option.some.inj e
      exact h x (List.mem_of_getElem? q) (Ky.k_inj (congrArg Prod.fst e1))
  · unfold look
    rw [List.find?_eq_none.mpr fun x hx => by simpa using h x hx]
    rfl
theorem nodup_k {es : List KE} (n : (es.map (·.k)).Nodup) : ((es.map KE.e).map (·.1)).Nodup := by
  rw [List.map_map]
  have : (fun x : EntV => x.1) ∘ KE.e = Ky.k ∘ (fun x : KE => x.k) := rfl
  rw [this, ← List.map_map]
  exact List.pairwise_map.mpr (n.imp fun h e => h (Ky.k_inj e))
theorem find_at {es : List KE} {x : KE} (n : (es.map (·.k)).Nodup) (h : x ∈ es) : (es.find? fun y => decide (y.k = x.k)) = some x := by
  induction es with
  | nil => cases h
  | cons y es ih =>
    rw [List.map_cons, List.nodup_cons] at n
    rcases List.mem_cons.mp h with e | e
    · subst e
      rw [List.find?_cons_of_pos (by simp)]
    · have : y.k ≠ x.k := fun z => n.1 (z ▸ List.mem_map_of_mem e)
      rw [List.find?_cons_of_neg (by simpa using this)]
      exact ih n.2 e
theorem es_some {es : List KE} {x : KE} (n : (es.map (·.k)).Nodup) (h : x ∈ es) : atN (es.map KE.e) x.k.k = some (x.v, .ref x.r) ∧ look es x.k = x.l := by
  constructor
  · obtain ⟨i, hi⟩ := List.mem_iff_getElem?.mp h
    exact atN_some (nodup_k n) (i := i) (by rw [List.getElem?_map, hi]; rfl)
  · unfold look
    rw [find_at n h]; rfl
theorem key_in {es : List KE} {k : Ky} : (∃ x ∈ es, x.k = k) ∨ ∀ x ∈ es, x.k ≠ k := by
  by_cases h : ∃ x ∈ es, x.k = k
  · exact .inl h
  · exact .inr fun x hx e => h ⟨x, hx, e⟩
theorem setl_k {es : List KE} {k : Ky} {l : List Int} : (setl es k l).map (·.k) = es.map (·.k) := by
  unfold setl
  rw [List.map_map]
  apply List.map_congr_left
  intro x _
  show (if x.k = k then _ else x).k = x.k
  split <;> rfl
theorem setl_r {es : List KE} {k : Ky} {l : List Int} : (setl es k l).map (·.r) = es.map (·.r) := by
  unfold setl
  rw [List.map_map]
  apply List.map_congr_left
  intro x _
  show (if x.k = k then _ else x).r = x.r
  split <;> rfl
theorem setl_e {es : List KE} {k : Ky} {l : List Int} : (setl es k l).map KE.e = es.map KE.e := by
  unfold setl
  rw [List.map_map]
  apply List.map_congr_left
  intro x _
  show KE.e (if x.k = k then _ else x) = KE.e x
  split <;> rfl
theorem mem_setl {es : List KE} {k : Ky} {l : List Int} {y : KE} : y ∈ setl es k l ↔ ∃ x ∈ es, y = if x.k = k then { x with l := l } else x := by
  unfold setl
  rw [List.mem_map]
  constructor
  · rintro ⟨x, h, e⟩; exact ⟨x, h, e.symm⟩
  · rintro ⟨x, h, e⟩; exact ⟨x, h, e.symm⟩
theorem look_setl {es : List KE} {k : Ky} {l : List Int} (n : (es.map (·.k)).Nodup) (h : ∃ x ∈ es, x.k = k) (k' : Ky) : look (setl es k l) k' = if k' = k then l else look es k' := by
  have n' : ((setl es k l).map (·.k)).Nodup := by rw [setl_k]; exact n
  rcases key_in (es := es) (k := k') with ⟨x, hx, rfl⟩ | h'
  · by_cases e : x.k = k
    · have m : ({ x with l := l } : KE) ∈ setl es k l := mem_setl.mpr ⟨x, hx, by rw [if_pos e]⟩
      rw [if_pos e]
      exact (es_some n' m).2
    · have m : x ∈ setl es k l := mem_setl.mpr ⟨x, hx, by rw [if_neg e]⟩
      rw [if_neg e, (es_some n' m).2, (es_some n hx).2]
  · have e : ¬ k' = k := fun z => by obtain ⟨x, hx, hk⟩ := h; exact h' x hx (hk.trans z.symm)
    rw [if_neg e, (es_none h').2, (es_none (es := setl es k l) fun y hy => ?_).2]
    obtain ⟨x, hx, rfl⟩ := mem_setl.mp hy
    split
    · exact h' x hx
    · exact h' x hx
theorem cut_e {es : List KE} {k : Ky} : (cutk es k).map KE.e = cutN (es.map KE.e) k.k := by
  unfold cutk cutN
  rw [List.filter_map]
  congr 1
  apply List.filter_congr
  intro x _
  show decide (x.k ≠ k) = decide (x.k.k ≠ k.k)
  by_cases e : x.k = k
  · simp [e]
  · have : ¬ x.k.k = k.k := fun z => e (Ky.k_inj z)
    simp [e, this]
theorem look_cut {es : List KE} {k : Ky} (n : (es.map (·.k)).Nodup) (k' : Ky) : look (cutk es k) k' = if k' = k then [] else look es k' := by
  have n' : ((cutk es k).map (·.k)).Nodup := List.Pairwise.sublist (List.filter_sublist.map _) n
  rcases key_in (es := es) (k := k') with ⟨x, hx, rfl⟩ | h'
  · by_cases e : x.k = k
    · rw [if_pos e, (es_none fun y hy z => ?_).2]
      exact of_decide_eq_true (List.mem_filter.mp hy).2 (z.trans e)
    · have m : x ∈ cutk es k := List.mem_filter.mpr ⟨hx, decide_eq_true e⟩
      rw [if_neg e, (es_some n' m).2, (es_some n hx).2]
  · rw [(es_none h').2, (es_none (es := cutk es k) fun y hy => h' y (List.mem_filter.mp hy).1).2, ite_self]
theorem look_snoc {es : List KE} {k : Ky} {v : V} {r : Addr} {l : List Int} (n : (es.map (·.k)).Nodup) (h : ∀ x ∈ es, x.k ≠ k) (k' : Ky) : look (es ++ [⟨k, v, r, l⟩]) k' = if k' = k then l else look es k' := by
  have n' : ((es ++ [(⟨k, v, r, l⟩ : KE)]).map (fun x : KE => x.k)).Nodup := by
    rw [List.map_append, List.nodup_append]
    refine ⟨n, by simp, fun a ha b hb e => ?_⟩
    obtain ⟨x, hx, rfl⟩ := List.mem_map.mp ha
    have : b = k := by simpa using hb
    exact h x hx (e.trans this)
  by_cases e : k' = k
  · subst e
    rw [if_pos rfl]
    exact (es_some (x := ⟨k', v, r, l⟩) n' (List.mem_append_right _ List.mem_cons_self)).2
  · rw [if_neg e]
    rcases key_in (es := es) (k := k') with ⟨x, hx, rfl⟩ | h'
    · rw [(es_some n' (List.mem_append_left _ hx)).2, (es_some n hx).2]
    · rw [(es_none h').2]
      refine (es_none (es := es ++ [(⟨k, v, r, l⟩ : KE)]) (k := k') fun y hy z => ?_).2
      rcases List.mem_append.mp hy with a | a
      · exact h' y a z
      · rw [List.mem_singleton.mp a] at z; exact e z.symm
theorem sub_len {α : Type} [DecidableEq α] : ∀ {l m : List α}, l.Nodup → (∀ x ∈ l, x ∈ m) → l.length ≤ m.length
  | [], _, _, _ => Nat.zero_le _
  | x :: l, m, n, h => by
    rw [List.nodup_cons] at n
    have hx := h x List.mem_cons_self
    have := sub_len (l := l) (m := m.erase x) n.2 fun y hy => by
      rw [List.mem_erase_of_ne fun e => n.1 (by rw [← e]; exact hy)]
      exact h y (List.mem_cons_of_mem _ hy)
    rw [List.length_erase_of_mem hx] at this
    have := List.length_pos_of_mem hx
    rw [List.length_cons]; omega
/-- the keys and numbers that come -/
structure Un (U : List Ky) (PN : List Int) : Prop where
  ok : ∀ k ∈ U, k.ok = true
  u : U.length ≤ 1000
  p : PN.length ≤ 1000
structure BK (w : World) (H : Hp) (U : List Ky) (PN : List Int) (dk : Addr) (es : List KE) : Prop where
  d : H dk = some (dictO w dk (es.map KE.e))
  kv : ∀ x ∈ es, KV H x.k x.v
  row : ∀ x ∈ es, H x.r = some (.lst (x.l.map V.int))
  so : ∀ x ∈ es, Sorted x.l
  ne : ∀ x ∈ es, x.l ≠ []
  inU : ∀ x ∈ es, x.k ∈ U
  inP : ∀ x ∈ es, ∀ n ∈ x.l, n ∈ PN
  nk : (es.map (·.k)).Nodup
  nr : (es.map (·.r)).Nodup
theorem keys_of {H : Hp} {es : List KE} (h : ∀ x ∈ es, KV H x.k x.v) : Keys H (es.map KE.e) := fun x hx => by
  obtain ⟨y, hy, rfl⟩ := List.mem_map.mp hx
  exact (h y hy).at
theorem BK.dn {w : World} {H : Hp} {U : List Ky} {PN : List Int} {dk : Addr} {es : List KE} (h : BK w H U PN dk es) : DN w H dk (es.map KE.e) := ⟨h.d, keys_of h.kv⟩
theorem BK.keep {w : World} {H H' : Hp} {U : List Ky} {PN : List Int} {dk : Addr} {es : List KE} {F : Addr → Prop} (h : BK w H U PN dk es) (k : Kp F H H') (n1 : ¬ F dk) (n2 : ∀ x ∈ es, ¬ F x.r) (n3 : ∀ b xs, H b = some (.tup xs) → ¬ F b) : BK w H' U PN dk es :=
  ⟨k _ _ h.d n1, fun x hx => (h.kv x hx).keep (tupKeep k n3), fun x hx => k _ _ (h.row x hx) (n2 x hx), h.so, h.ne, h.inU, h.inP, h.nk, h.nr⟩
theorem BK.len {w : World} {H : Hp} {U : List Ky} {PN : List Int} {dk : Addr} {es : List KE} (h : BK w H U PN dk es) (u : Un U PN) : es.length ≤ 1000 := by
  have := sub_len (m := U) h.nk fun k hk => by
    obtain ⟨x, hx, rfl⟩ := List.mem_map.mp hk
    exact h.inU x hx
  rw [List.length_map] at this
  have := u.u
  omega
theorem Sorted.len {l PN : List Int} (h : Sorted l) (hp : ∀ n ∈ l, n ∈ PN) : l.length ≤ PN.length := sub_len (h.imp fun h => by omega) hp
theorem dk_ne {w : World} {H : Hp} {d r : Addr} {xs : List EntV} {l : List V} (h : H d = some (dictO w d xs)) (g : H r = some (.lst l)) : r ≠ d := fun e => by
  rw [e, h] at g
  cases g
theorem tup_ne_d {w : World} {H : Hp} {d b : Addr} {xs : List EntV} {l : List V} (h : H d = some (dictO w d xs)) (g : H b = some (.tup l)) : b ≠ d := fun e => by
  rw [e, h] at g
  cases g
theorem tup_ne_l {H : Hp} {d b : Addr} {xs : List V} {l : List V} (h : H d = some (.lst xs)) (g : H b = some (.tup l)) : b ≠ d := fun e => by
  rw [e, h] at g
  cases g
theorem nr_inj {es : List KE} (n : (es.map (·.r)).Nodup) {x y : KE} (hx : x ∈ es) (hy : y ∈ es) (e : x.r = y.r) : x = y := by
  induction es with
  | nil => cases hx
  | cons z es ih =>
    rw [List.map_cons, List.nodup_cons] at n
    rcases List.mem_cons.mp hx with a | a <;> rcases List.mem_cons.mp hy with b | b
    · rw [a, b]
    · subst a; exact absurd (List.mem_map.mpr ⟨y, b, e.symm⟩) n.1
    · subst b; exact absurd (List.mem_map.mpr ⟨x, a, e⟩) n.1
    · exact ih n.2 a b
theorem nk_inj {es : List KE} (n : (es.map (·.k)).Nodup) {x y : KE} (hx : x ∈ es) (hy : y ∈ es) (e : x.k = y.k) : x = y := by
  induction es with
  | nil => cases hx
  | cons z es ih =>
    rw [List.map_cons, List.nodup_cons] at n
    rcases List.mem_cons.mp hx with a | a <;> rcases List.mem_cons.mp hy with b | b
    · rw [a, b]
    · subst a; exact absurd (List.mem_map.mpr ⟨y, b, e.symm⟩) n.1
    · subst b; exact absurd (List.mem_map.mpr ⟨x, a, e⟩) n.1
    · exact ih n.2 a b
/-- a row changed -/
theorem BK.set {w : World} {H : Hp} {U : List Ky} {PN : List Int} {dk : Addr} {es : List KE} (h : BK w H U PN dk es) {x : KE} (hx : x ∈ es) {l : List Int} (s : Sorted l) (ne : l ≠ []) (p : ∀ n ∈ l, n ∈ PN) :
    BK w (upd H x.r (.lst (l.map V.int))) U PN dk (setl es x.k l) := by
  have nt : ∀ b xs, H b = some (.tup xs) → b ≠ x.r := fun b xs e => tup_ne_l (h.row x hx) e
  refine ⟨?_, fun y hy => ?_, fun y hy => ?_, fun y hy => ?_, fun y hy => ?_, fun y hy => ?_, fun y hy => ?_, by rw [setl_k]; exact h.nk, by rw [setl_r]; exact h.nr⟩
  · rw [setl_e, upd_ne (dk_ne h.d (h.row x hx)).symm]; exact h.d
  all_goals obtain ⟨z, hz, rfl⟩ := mem_setl.mp hy
  · have := (h.kv z hz).keep (H' := upd H x.r (.lst (l.map V.int))) fun b xs e => by rw [upd_ne (nt b xs e)]; exact e
    split <;> exact this
  · by_cases e : z.k = x.k
    · rw [if_pos e, nk_inj h.nk hz hx e]; exact upd_same
    · rw [if_neg e, upd_ne fun q => e (by rw [nr_inj h.nr hz hx q])]; exact h.row z hz
  · split
    · exact s
    · exact h.so z hz
  · split
    · exact ne
    · exact h.ne z hz
  · split <;> exact h.inU z hz
  · split
    · exact p
    · exact h.inP z hz
/-- a key gone -/
theorem BK.cut {w : World} {H H1 : Hp} {U : List Ky} {PN : List Int} {dk : Addr} {es : List KE} (h : BK w H U PN dk es) {x : KE} (hx : x ∈ es) (k1 : Kp (fun c => c = dk ∨ c = x.r) H H1) (e1 : H1 dk = some (dictO w dk (cutN (es.map KE.e) x.k.k))) :
    BK w H1 U PN dk (cutk es x.k) := by
  have sub : ∀ y ∈ cutk es x.k, y ∈ es ∧ y.k ≠ x.k := fun y hy => ⟨(List.mem_filter.mp hy).1, of_decide_eq_true (List.mem_filter.mp hy).2⟩
  refine ⟨by rw [cut_e]; exact e1, fun y hy => ?_, fun y hy => ?_, fun y hy => h.so y (sub y hy).1, fun y hy => h.ne y (sub y hy).1, fun y hy => h.inU y (sub y hy).1, fun y hy => h.inP y (sub y hy).1, List.Pairwise.sublist (List.filter_sublist.map _) h.nk, List.Pairwise.sublist (List.filter_sublist.map _) h.nr⟩
  · refine (h.kv y (sub y hy).1).keep (tupKeep k1 fun b xs e => ?_)
    rintro (q | q)
    · exact tup_ne_d h.d e q
    · exact tup_ne_l (h.row x hx) e q
  · refine k1 _ _ (h.row y (sub y hy).1) ?_
    rintro (q | q)
    · exact dk_ne h.d (h.row y (sub y hy).1) q
    · exact (sub y hy).2 (by rw [nr_inj h.nr (sub y hy).1 hx q])
/-- a key more -/
theorem BK.more {w : World} {H H1 : Hp} {U : List Ky} {PN : List Int} {dk r : Addr} {es : List KE} (h : BK w H U PN dk es) {k : Ky} {v : V} {n : Int} (hk : ∀ x ∈ es, x.k ≠ k) (hv : KV H k v) (kU : k ∈ U) (nP : n ∈ PN) (nr : H r = none)
    (k1 : Kp (fun c => c = dk ∨ c = r) H H1) (e1 : H1 dk = some (dictO w dk (es.map KE.e ++ [(k.k, v, .ref r)]))) (e2 : H1 r = some (.lst [.int n])) :
    BK w H1 U PN dk (es ++ [⟨k, v, r, [n]⟩]) := by
  have tk : ∀ b xs, H b = some (.tup xs) → H1 b = some (.tup xs) := tupKeep k1 fun b xs e => by
    rintro (q | q)
    · exact tup_ne_d h.d e q
    · exact ne_of_none e nr q
  refine ⟨by rw [List.map_append]; exact e1, fun y hy => ?_, fun y hy => ?_, fun y hy => ?_, fun y hy => ?_, fun y hy => ?_, fun y hy => ?_, ?_, ?_⟩
  · rcases List.mem_append.mp hy with a | a
    · exact (h.kv y a).keep tk
    · rw [List.mem_singleton.mp a]; exact hv.keep tk
  · rcases List.mem_append.mp hy with a | a
    · refine k1 _ _ (h.row y a) ?_
      rintro (q | q)
      · exact dk_ne h.d (h.row y a) q
      · exact ne_of_none (h.row y a) nr q
    · rw [List.mem_singleton.mp a]; exact e2
  · rcases List.mem_append.mp hy with a | a
    · exact h.so y a
    · rw [List.mem_singleton.mp a]; exact List.pairwise_singleton _ _
  · rcases List.mem_append.mp hy with a | a
    · exact h.ne y a
    · rw [List.mem_singleton.mp a]; exact List.cons_ne_nil _ _
  · rcases List.mem_append.mp hy with a | a
    · exact h.inU y a
    · rw [List.mem_singleton.mp a]; exact kU
  · rcases List.mem_append.mp hy with a | a
    · exact h.inP y a
    · rw [List.mem_singleton.mp a]
      intro m hm
      rw [List.mem_singleton.mp hm]; exact nP
  · rw [List.map_append, List.nodup_append]
    refine ⟨h.nk, by simp, fun a ha b hb e => ?_⟩
    obtain ⟨x, hx, rfl⟩ := List.mem_map.mp ha
    have : b = k := by simpa using hb
    exact hk x hx (e.trans this)
  · rw [List.map_append, List.nodup_append]
    refine ⟨h.nr, by simp, fun a ha b hb e => ?_⟩
    obtain ⟨x, hx, rfl⟩ := List.mem_map.mp ha
    have : b = r := by simpa using hb
    exact ne_of_none (h.row x hx) nr (e.trans this)
theorem seq_nat {j n : Nat} (h : j < n) : seqIndex? (j : Int) n = some j := by
  unfold seqIndex?
  have e : ¬ (j : Int) < 0 := by omega
  simp only [if_neg e]
  rw [if_pos (by simp; omega)]
  simp
/-! ### take_out -/
def ixF (dn dk : Addr) : List (Str × V) := [("by_number", .ref dn), ("by_key", .ref dk)]
theorem ixF_n (dn dk : Addr) : (ixF dn dk).lookup ("by_number" : Str) = some (.ref dn) := by
  have e : (("by_number" : Str) == "by_number") = true := by decide +kernel
  simp only [ixF, List.lookup, e]
theorem ixF_k (dn dk : Addr) : (ixF dn dk).lookup ("by_key" : Str) = some (.ref dk) := by
  have e : (("by_key" : Str) == "by_number") = false := by decide +kernel
  have e2 : (("by_key" : Str) == "by_key") = true := by decide +kernel
  simp only [ixF, List.lookup, e, e2]
theorem ixF_no {m : Str} (dn dk : Addr) (h1 : (m == ("by_number" : Str)) = false) (h2 : (m == ("by_key" : Str)) = false) : (ixF dn dk).lookup m = none := by
  simp only [ixF, List.lookup, h1, h2]
def rowsF (es : List KE) (dk : Addr) : Addr → Prop := fun c => c = dk ∨ c ∈ es.map (·.r)
def spTakeOut (w : World) (K : PySem.W.Frag) : Sp := fun vs H Q _ => ∃ (p dx dn dk : Addr) (U : List Ky) (PN : List Int) (es : List KE) (k : Ky) (v : V) (n : Int), vs = [.ref p, v, .int n] ∧ Un U PN ∧ H p = some (.ins (He.ga K "Index") dx (ixF dn dk)) ∧ BK w H U PN dk es ∧ KV H k v ∧ n ∈ look es k ∧
  ∀ (es' : List KE) (H' : Hp), BK w H' U PN dk es' → (∀ k', k' ≠ k → look es' k' = look es k') → (∀ m, m ∈ look es' k ↔ m ∈ look es k ∧ m ≠ n) → (∀ r ∈ es'.map (·.r), r ∈ es.map (·.r)) → Kp (rowsF es dk) H H' → Q .non H'
section
variable {P : Program} {w : World} {K : PySem.W.Frag} {mg : Str → Option Value} {base : Heap} {D : Nat → FuncData}
theorem ok_Index_take_out (T : Txt K mg D) : FnOk P w K mg base CX0 2 (He.ma K (He.ga K "Index") "take_out") (D 3) P_Index_take_out (spTakeOut w K) := by
  refine T.F_Index_take_out.ok sc_Index_take_out (fun vs H Q E h => ?_) (fun cdv A outer s H vs Q E hr h => ?_)
  · obtain ⟨p, dx, dn, dk, U, PN, es, k, v, n, rfl, _⟩ := h
    rfl
  · obtain ⟨p, dx, dn, dk, U, PN, es, k, v, n, rfl, un, hp, b, hv, hn, q⟩ := h
    have nd := sc_Index_take_out.nd
    refine ⟨_, PSs.nox ((pss_cons (ps_set (i := 3) nd rfl (Or.inl rfl) (pe_nget (u9 hr) (pe_fld (pv 0) rfl) (pv 1) (fun _ _ => rfl)))
    (pss_cons (ps_delL (pv 3) (pe_call (ok_place_for T) (hr.mono (by decide)) (by rfl) T.g_place_for T.kp_place_for (b_place_for T) .nil pass0 (pa_cons (pv 2) (pa_cons (pv 3) pa_nil))))
    (pss_one (ps_if (pt_cmpR (op_eqD hr.units) (pv 3) (pe_lst pa_nil) (nomark _)) (pss_one (ps_ndel (u9 hr) (pe_fld (pv 0) rfl) (pv 1))) pss_nil))))), ?_⟩
    rcases key_in (es := es) (k := k) with ⟨x, hx, rfl⟩ | h'
    rotate_left
    · rw [(es_none h').2] at hn; cases hn
    obtain ⟨ea, el⟩ := es_some b.nk hx
    rw [el] at hn
    refine ⟨_, rfl, p, _, dx, _, _, rfl, hp, T.cl_Index, T.a_by_key, ixF_k dn dk, _, rfl, dk, _, x.k.k, _, rfl, b.dn.r, hv.at, ea, ?_⟩
    have hrow := b.row x hx
    have xl : x.l.length ≤ 1000 := Nat.le_trans ((b.so x hx).len (b.inP x hx)) un.p
    refine ⟨_, rfl, _, rfl, _, rfl, n, x.r, x.l, rfl, hrow, b.so x hx, by omega, fun j pj => ?_⟩
    have hj := place_at (b.so x hx) pj hn
    have hjl := (List.getElem?_eq_some_iff.mp hj).1
    refine ⟨x.r, _, j, j, rfl, rfl, hrow, by omega, by omega, seq_nat (by rw [List.length_map]; exact hjl), ?_⟩
    have em : (x.l.map V.int).eraseIdx j = (x.l.eraseIdx j).map V.int := by rw [List.eraseIdx_eq_take_drop_succ, List.eraseIdx_eq_take_drop_succ, List.map_append, List.map_take, List.map_drop]
    rw [em]
    have npr : p ≠ x.r := fun e => by rw [e, hrow] at hp; cases hp
    have ndr : dk ≠ x.r := (dk_ne b.d hrow).symm
    have kp1 : Kp (rowsF es dk) H (upd H x.r (.lst ((x.l.eraseIdx j).map V.int))) := Kp.put (.inr (List.mem_map_of_mem hx))
    -- row == []
    refine ⟨_, rfl, Nat.zero_le _, fun e ne => ?_⟩
    have nre : x.r ≠ e := fun z => by rw [← z, upd_same] at ne; cases ne
    have neH : H e = none := by rw [upd_ne nre.symm] at ne; exact ne
    refine ⟨_, _, .lst (SqL.of (by rw [upd_ne nre, upd_same])) (dpInts _), .lst (SqL.of upd_same) .nil, shaped_ints _, by decide, _, rfl, ?_⟩
    have e1 : PyData.eqv (.list ((x.l.eraseIdx j).map PyData.int)) (.list []) = decide (x.l.eraseIdx j = []) := by
      rw [show ([] : List PyData) = ([] : List Int).map PyData.int from rfl, eqv_ints]
    rw [e1]
    have kp2 : Kp (rowsF es dk) H (upd (upd H x.r (.lst ((x.l.eraseIdx j).map V.int))) e (.lst [])) := kp1.trans (Kp.new ne)
    have mem : ∀ m, m ∈ x.l.eraseIdx j ↔ m ∈ x.l ∧ m ≠ n := fun m => mem_cut (b.so x hx) hj
    refine ite2 (fun c => ?_) (fun c => ?_)
    · have c := of_decide_eq_true c
      have hdk : (upd (upd H x.r (.lst ((x.l.eraseIdx j).map V.int))) e (.lst [])) dk = some (dictO w dk (es.map KE.e)) := by
        rw [upd_ne (ne_of_none b.d neH), upd_ne ndr]; exact b.d
      have hp2 : (upd (upd H x.r (.lst ((x.l.eraseIdx j).map V.int))) e (.lst [])) p = some (.ins (He.ga K "Index") dx (ixF dn dk)) := by
        rw [upd_ne (ne_of_none hp neH), upd_ne npr]; exact hp
      have tk : ∀ c xs, H c = some (.tup xs) → (upd (upd H x.r (.lst ((x.l.eraseIdx j).map V.int))) e (.lst [])) c = some (.tup xs) := fun c xs h => by
        rw [upd_ne (ne_of_none h neH), upd_ne (tup_ne_l hrow h)]; exact h
      refine ⟨_, rfl, p, _, dx, _, _, rfl, hp2, T.cl_Index, T.a_by_key, ixF_k dn dk, _, rfl, dk, _, x.k.k, rfl, ⟨hdk, keys_of fun y hy => (b.kv y hy).keep tk⟩, (hv.keep tk).at, by rw [ea]; rfl, ?_⟩
      have kp3 := kp2.trans (Kp.put (o := dictO w dk (cutN (es.map KE.e) x.k.k)) (.inl rfl : rowsF es dk dk))
      refine q (cutk es x.k) _ (b.cut hx (fun d o hd n => ?_) upd_same) (fun k' hk' => by rw [look_cut b.nk, if_neg hk']) (fun m => ?_) (fun r hr => ?_) kp3
      · have n1 : d ≠ dk := fun z => n (.inl z)
        have n2 : d ≠ x.r := fun z => n (.inr z)
        rw [upd_ne n1, upd_ne (ne_of_none hd neH), upd_ne n2]; exact hd
      · rw [look_cut b.nk, if_pos rfl, el, ← mem, c]
      · obtain ⟨y, hy, rfl⟩ := List.mem_map.mp hr
        exact List.mem_map_of_mem (List.mem_filter.mp hy).1
    · have c : x.l.eraseIdx j ≠ [] := fun z => c (decide_eq_true z)
      refine q (setl es x.k (x.l.eraseIdx j)) _ ((b.set hx (sorted_cut (b.so x hx) j) c fun m hm => b.inP x hx m (List.mem_of_mem_eraseIdx hm)).keep (Kp.new (F := No) ne) id (fun _ _ => id) fun _ _ _ => id)
        (fun k' hk' => by rw [look_setl b.nk ⟨x, hx, rfl⟩, if_neg hk']) (fun m => by rw [look_setl b.nk ⟨x, hx, rfl⟩, if_pos rfl, el]; exact mem m) (fun r hr => by rw [setl_r] at hr; exact hr) kp2
end
end K50

set_option Elab.async false
set_option linter.all false
set_option maxRecDepth 100000
set_option maxHeartbeats 4000000
namespace K50
open PySem PySem.Spec L2 ND
/-! ### the dicts of keys -/
def fr (ps : List (Ky × V)) : List EntV := ps.map fun p => (p.1.k, p.2, .bl true)
def fk (ps : List (Ky × V)) : List Ky := ps.map (·.1)
theorem fr_none {ps : List (Ky × V)} {k : Ky} (h : k ∉ fk ps) : atN (fr ps) k.k = none := by
  refine atN_none fun j p e => ?_
  unfold fr at e
  rw [List.getElem?_map] at e
  cases q : ps[j]? with
  | none => rw [q] at e; cases e
  | some x =>
    rw [q] at e
    have e1 : ((x.1.k, x.2, .bl true) : EntV) = (k.k, p) := Option.some.inj e
    exact h (List.mem_map.mpr ⟨x, List.mem_of_getElem? q, Ky.k_inj (congrArg Prod.fst e1)⟩)
theorem fr_some {ps : List (Ky × V)} {k : Ky} (h : k ∈ fk ps) : ∃ v, atN (fr ps) k.k = some (v, .bl true) := by
  induction ps with
  | nil => cases h
  | cons x ps ih =>
    by_cases e : x.1 = k
    · exact ⟨x.2, by unfold fr atN; rw [List.map_cons, List.find?_cons_of_pos (by simp [e])]; rfl⟩
    · have e' : ¬ x.1.k = k.k := fun z => e (Ky.k_inj z)
      have : k ∈ fk ps := by
        rcases List.mem_cons.mp (show k ∈ x.1 :: fk ps from h) with a | a
        · exact absurd a.symm e
        · exact a
      obtain ⟨v, hv⟩ := ih this
      refine ⟨v, ?_⟩
      unfold fr atN at hv ⊢
      rw [List.map_cons, List.find?_cons_of_neg (by simpa using e')]
      exact hv
theorem fr_isSome {ps : List (Ky × V)} {k : Ky} : (atN (fr ps) k.k).isSome = decide (k ∈ fk ps) := by
  by_cases h : k ∈ fk ps
  · obtain ⟨v, e⟩ := fr_some h
    rw [e, decide_eq_true h]; rfl
  · rw [fr_none h, decide_eq_false h]; rfl
def addp (ps : List (Ky × V)) (q : Ky × V) : List (Ky × V) := if q.1 ∈ fk ps then ps else ps ++ [q]
theorem fr_add (ps : List (Ky × V)) (q : Ky × V) : storeN (fr ps) q.1.k q.2 (.bl true) = fr (addp ps q) := by
  unfold addp
  by_cases h : q.1 ∈ fk ps
  · obtain ⟨v, e⟩ := fr_some h
    rw [storeN_old e, if_pos h]
    unfold fr
    rw [List.map_map]
    apply List.map_congr_left
    intro x _
    show repN q.1.k (V.bl true) (x.1.k, x.2, V.bl true) = _
    unfold repN
    split <;> rfl
  · rw [storeN_new (fr_none h), if_neg h]
    unfold fr
    rw [List.map_append]; rfl
def ded (l : List (Ky × V)) : List (Ky × V) := l.foldl addp []
theorem ded_snoc (l : List (Ky × V)) (q : Ky × V) : ded (l ++ [q]) = addp (ded l) q := by
  unfold ded
  rw [List.foldl_append]; rfl
theorem rev_ind {α : Type} {M : List α → Prop} (h0 : M []) (h1 : ∀ l a, M l → M (l ++ [a])) (l : List α) : M l := by
  have : ∀ l : List α, M l.reverse := fun l => by
    induction l with
    | nil => exact h0
    | cons a l ih => rw [List.reverse_cons]; exact h1 _ _ ih
  have e := this l.reverse
  rwa [List.reverse_reverse] at e
theorem ded_facts (l : List (Ky × V)) : (fk (ded l)).Nodup ∧ (∀ k, k ∈ fk (ded l) ↔ k ∈ fk l) ∧ (∀ p ∈ ded l, p ∈ l) := by
  refine rev_ind (M := fun l => (fk (ded l)).Nodup ∧ (∀ k, k ∈ fk (ded l) ↔ k ∈ fk l) ∧ (∀ p ∈ ded l, p ∈ l)) ⟨List.nodup_nil, fun k => Iff.rfl, fun p h => h⟩ (fun l a ⟨h1, h2, h3⟩ => ?_) l
  rw [ded_snoc]
  unfold addp
  by_cases h : a.1 ∈ fk (ded l)
  · rw [if_pos h]
    refine ⟨h1, fun k => ?_, fun p hp => List.mem_append_left _ (h3 p hp)⟩
    unfold fk at h h2 ⊢
    rw [h2 k, List.map_append, List.mem_append]
    refine ⟨.inl, ?_⟩
    rintro (q | q)
    · exact q
    · have : k = a.1 := by simpa using q
      rw [this]; exact (h2 _).mp h
  · rw [if_neg h]
    refine ⟨?_, fun k => ?_, fun p hp => ?_⟩
    · unfold fk at h h1 ⊢
      rw [List.map_append, List.nodup_append]
      refine ⟨h1, by simp, fun x hx y hy e => ?_⟩
      have : y = a.1 := by simpa using hy
      rw [← this, ← e] at h
      exact h hx
    · unfold fk at h2 ⊢
      rw [List.map_append, List.map_append, List.mem_append, List.mem_append, h2 k]
    · rcases List.mem_append.mp hp with q | q
      · exact List.mem_append_left _ (h3 p q)
      · exact List.mem_append_right _ q
theorem eqD_fr {a b : List (Ky × V)} (na : (fk a).Nodup) (nb : (fk b).Nodup) : eqD (fun _ _ => true) (fr a) (fr b) = sameK (fk a) (fk b) := by
  have e1 : ((fr a).all fun x => match atN (fr b) x.1 with | none => false | some _ => true) = (fk a).all fun k => decide (k ∈ fk b) := by
    unfold fk fr
    rw [List.all_map, List.all_map]
    congr 1
    funext p
    show (match atN (fr b) p.1.k with | none => false | some _ => true) = decide (p.1 ∈ fk b)
    rw [← fr_isSome]
    cases atN (fr b) p.1.k <;> rfl
  have e2 : eqD (fun _ _ => true) (fr a) (fr b) = ((fr a).length == (fr b).length && (fk a).all fun k => decide (k ∈ fk b)) := by
    rw [← e1]; rfl
  rw [e2, Bool.eq_iff_iff, sameK_iff, Bool.and_eq_true, List.all_eq_true, beq_iff_eq]
  have la : (fr a).length = (fk a).length := by unfold fr fk; rw [List.length_map, List.length_map]
  have lb : (fr b).length = (fk b).length := by unfold fr fk; rw [List.length_map, List.length_map]
  rw [la, lb]
  constructor
  · rintro ⟨e, h⟩ k
    have h' : ∀ k ∈ fk a, k ∈ fk b := fun k hk => of_decide_eq_true (h k hk)
    refine ⟨h' k, fun hk => ?_⟩
    by_cases c : k ∈ fk a
    · exact c
    · have := sub_len (l := k :: fk a) (m := fk b) (List.nodup_cons.mpr ⟨c, na⟩) fun x hx => by
        rcases List.mem_cons.mp hx with z | z
        · rw [z]; exact hk
        · exact h' x z
      rw [List.length_cons] at this
      omega
  · intro h
    have a1 := sub_len (l := fk a) (m := fk b) na fun x hx => (h x).mp hx
    have a2 := sub_len (l := fk b) (m := fk a) nb fun x hx => (h x).mpr hx
    exact ⟨by omega, fun k hk => decide_eq_true ((h k).mp hk)⟩
theorem ev_true {w : World} {H : Hp} {a b : List (Ky × V)} : ∀ p ∈ fr a, ∀ q, atN (fr b) p.1 = some q → EvOk w H 1 p.2.2 q.2 true := fun p hp q hq => by
  obtain ⟨x, _, rfl⟩ := List.mem_map.mp hp
  obtain ⟨j, hj⟩ := atN_get hq
  obtain ⟨y, _, e⟩ := List.mem_map.mp (List.mem_of_getElem? hj)
  have e2 : q.2 = .bl true := by
    have := congrArg (fun z : EntV => z.2.2) e
    exact this.symm
  rw [e2]
  have kb : KAt H (.num 1) (.bl true) := ⟨.bool true, by simp [NestedKey.depth]⟩
  exact .inl ⟨.num 1, .num 1, kb, kb, by simp⟩
/-! ### the dict by_number: number -> dict of its keys -/
structure NE where
  n : Int
  d : Addr
  ks : List (Ky × V)
def NE.e (x : NE) : EntV := (.num x.n, .int x.n, .ref x.d)
def keysOf (ns : List NE) (n : Int) : List Ky := ((ns.find? fun x => decide (x.n = n)).map (fun x => fk x.ks)).getD []
theorem ns_none {ns : List NE} {n : Int} (h : ∀ x ∈ ns, x.n ≠ n) : atN (ns.map NE.e) (.num n) = none ∧ keysOf ns n = [] := by
  constructor
  · refine atN_none fun j p e => ?_
    rw [List.getElem?_map] at e
    cases q : ns[j]? with
    | none => rw [q] at e; cases e
    | some x =>
      rw [q] at e
      have e1 : NE.e x = (.num n, p) := Option.some.inj e
      have e2 : NestedKey.num x.n = NestedKey.num n := congrArg Prod.fst e1
      exact h x (List.mem_of_getElem? q) (by injection e2)
  · unfold keysOf
    rw [List.find?_eq_none.mpr fun x hx => by simpa using h x hx]
    rfl
theorem nodup_n {ns : List NE} (n : (ns.map (·.n)).Nodup) : ((ns.map NE.e).map (·.1)).Nodup := by
  rw [List.map_map]
  have : (fun x : EntV => x.1) ∘ NE.e = NestedKey.num ∘ (fun x : NE => x.n) := rfl
  rw [this, ← List.map_map]
  exact List.pairwise_map.mpr (n.imp fun h e => h (by injection e))
theorem find_n {ns : List NE} {x : NE} (n : (ns.map (·.n)).Nodup) (h : x ∈ ns) : (ns.find? fun y => decide (y.n = x.n)) = some x := by
  induction ns with
  | nil => cases h
  | cons y es ih =>
    rw [List.map_cons, List.nodup_cons] at n
    rcases List.mem_cons.mp h with e | e
    · subst e
      rw [List.find?_cons_of_pos (by simp)]
    · have : y.n ≠ x.n := fun z => n.1 (z ▸ List.mem_map_of_mem e)
      rw [List.find?_cons_of_neg (by simpa using this)]
      exact ih n.2 e
theorem ns_some {ns : List NE} {x : NE} (n : (ns.map (·.n)).Nodup) (h : x ∈ ns) : atN (ns.map NE.e) (.num x.n) = some (.int x.n, .ref x.d) ∧ keysOf ns x.n = fk x.ks := by
  constructor
  · obtain ⟨i, hi⟩ := List.mem_iff_getElem?.mp h
    exact atN_some (nodup_n n) (i := i) (by rw [List.getElem?_map, hi]; rfl)
  · unfold keysOf
    rw [find_n n h]; rfl
theorem num_in (ns : List NE) (n : Int) : (∃ x ∈ ns, x.n = n) ∨ ∀ x ∈ ns, x.n ≠ n := by
  by_cases h : ∃ x ∈ ns, x.n = n
  · exact .inl h
  · exact .inr fun x hx e => h ⟨x, hx, e⟩
structure BN (w : World) (H : Hp) (U : List Ky) (PN : List Int) (dn : Addr) (ns : List NE) : Prop where
  d : H dn = some (dictO w dn (ns.map NE.e))
  v : ∀ x ∈ ns, H x.d = some (dictO w x.d (fr x.ks))
  kv : ∀ x ∈ ns, ∀ p ∈ x.ks, KV H p.1 p.2
  nk : ∀ x ∈ ns, (fk x.ks).Nodup
  ne : ∀ x ∈ ns, x.ks ≠ []
  inU : ∀ x ∈ ns, ∀ k ∈ fk x.ks, k ∈ U
  inP : ∀ x ∈ ns, x.n ∈ PN
  nn : (ns.map (·.n)).Nodup
  nd : (ns.map (·.d)).Nodup
  nv : ∀ x ∈ ns, x.d ≠ dn
theorem keys_num {H : Hp} (ns : List NE) : Keys H (ns.map NE.e) := fun x hx => by
  obtain ⟨y, hy, rfl⟩ := List.mem_map.mp hx
  exact KAt.int y.n
theorem keys_fr {H : Hp} {ps : List (Ky × V)} (h : ∀ p ∈ ps, KV H p.1 p.2) : Keys H (fr ps) := fun x hx => by
  obtain ⟨y, hy, rfl⟩ := List.mem_map.mp hx
  exact (h y hy).at
theorem BN.dn' {w : World} {H : Hp} {U : List Ky} {PN : List Int} {dn : Addr} {ns : List NE} (h : BN w H U PN dn ns) : DN w H dn (ns.map NE.e) := ⟨h.d, keys_num ns⟩
theorem BN.len {w : World} {H : Hp} {U : List Ky} {PN : List Int} {dn : Addr} {ns : List NE} (h : BN w H U PN dn ns) (u : Un U PN) : ns.length ≤ 1000 := by
  have := sub_len (m := PN) h.nn fun k hk => by
    obtain ⟨x, hx, rfl⟩ := List.mem_map.mp hk
    exact h.inP x hx
  rw [List.length_map] at this
  have := u.p
  omega
theorem BN.keep {w : World} {H H' : Hp} {U : List Ky} {PN : List Int} {dn : Addr} {ns : List NE} {F : Addr → Prop} (h : BN w H U PN dn ns) (k : Kp F H H') (n1 : ¬ F dn) (n2 : ∀ x ∈ ns, ¬ F x.d) (n3 : ∀ b xs, H b = some (.tup xs) → ¬ F b) : BN w H' U PN dn ns :=
  ⟨k _ _ h.d n1, fun x hx => k _ _ (h.v x hx) (n2 x hx), fun x hx p hp => (h.kv x hx p hp).keep (tupKeep k n3), h.nk, h.ne, h.inU, h.inP, h.nn, h.nd, h.nv⟩
def cutn (ns : List NE) (n : Int) : List NE := ns.filter fun y => decide (y.n ≠ n)
def putn (ns : List NE) (n : Int) (d : Addr) (ks : List (Ky × V)) : List NE := if ∃ x ∈ ns, x.n = n then ns.map (fun y => if y.n = n then ⟨n, d, ks⟩ else y) else ns ++ [⟨n, d, ks⟩]
theorem cutn_e {ns : List NE} {n : Int} : (cutn ns n).map NE.e = cutN (ns.map NE.e) (.num n) := by
  unfold cutn cutN
  rw [List.filter_map]
  congr 1
  apply List.filter_congr
  intro x _
  show decide (x.n ≠ n) = decide (NestedKey.num x.n ≠ .num n)
  by_cases e : x.n = n
  · simp [e]
  · simp [e]
theorem putn_e {ns : List NE} {n : Int} {d : Addr} {ks : List (Ky × V)} (nn : (ns.map (·.n)).Nodup) : (putn ns n d ks).map NE.e = storeN (ns.map NE.e) (.num n) (.int n) (.ref d) := by
  unfold putn
  rcases num_in ns n with h | h
  · obtain ⟨x, hx, e⟩ := id h
    rw [if_pos h]
    subst e
    rw [storeN_old (ns_some nn hx).1, List.map_map, List.map_map]
    apply List.map_congr_left
    intro y _
    show NE.e (if y.n = x.n then _ else y) = repN (.num x.n) (.ref d) (.num y.n, .int y.n, .ref y.d)
    unfold repN
    by_cases e : y.n = x.n
    · rw [if_pos e, if_pos (by rw [e])]
      show (NestedKey.num x.n, V.int x.n, V.ref d) = (NestedKey.num y.n, V.int y.n, V.ref d)
      rw [e]
    · rw [if_neg e, if_neg (fun z => e (by injection z))]; rfl
  · rw [if_neg (fun ⟨x, hx, e⟩ => h x hx e), storeN_new (ns_none h).1, List.map_append]; rfl
theorem mem_putn {ns : List NE} {n : Int} {d : Addr} {ks : List (Ky × V)} {y : NE} (h : y ∈ putn ns n d ks) : y = ⟨n, d, ks⟩ ∨ (y ∈ ns ∧ y.n ≠ n) := by
  unfold putn at h
  split at h
  · obtain ⟨x, hx, rfl⟩ := List.mem_map.mp h
    by_cases e : x.n = n
    · rw [if_pos e]; exact .inl rfl
    · rw [if_neg e]; exact .inr ⟨hx, e⟩
  · rename_i c
    rcases List.mem_append.mp h with a | a
    · exact .inr ⟨a, fun e => c ⟨y, a, e⟩⟩
    · exact .inl (List.mem_singleton.mp a)
theorem putn_n {ns : List NE} {n : Int} {d : Addr} {ks : List (Ky × V)} (nn : (ns.map (·.n)).Nodup) : ((putn ns n d ks).map (·.n)).Nodup := by
  unfold putn
  split
  · have : (ns.map fun y => if y.n = n then (⟨n, d, ks⟩ : NE) else y).map (·.n) = ns.map (·.n) := by
      rw [List.map_map]
      apply List.map_congr_left
      intro y _
      show (if y.n = n then (⟨n, d, ks⟩ : NE) else y).n = y.n
      split
      · rename_i e; exact e.symm
      · rfl
    rw [this]; exact nn
  · rename_i c
    rw [List.map_append, List.nodup_append]
    refine ⟨nn, by simp, fun a ha b hb e => ?_⟩
    obtain ⟨x, hx, rfl⟩ := List.mem_map.mp ha
    have : b = n := by simpa using hb
    exact c ⟨x, hx, e.trans this⟩
theorem putn_d {ns : List NE} {n : Int} {d : Addr} {ks : List (Ky × V)} (nn : (ns.map (·.n)).Nodup) (nd : (ns.map (·.d)).Nodup) (h : ∀ x ∈ ns, x.d ≠ d) : ((putn ns n d ks).map (·.d)).Nodup := by
  unfold putn
  split
  · rename_i c
    clear c
    induction ns with
    | nil => exact List.nodup_nil
    | cons x ns ih =>
      rw [List.map_cons, List.nodup_cons] at nn nd
      have ih' := ih nn.2 nd.2 fun y hy => h y (List.mem_cons_of_mem _ hy)
      rw [List.map_cons, List.map_cons, List.nodup_cons]
      refine ⟨fun m => ?_, ih'⟩
      obtain ⟨z, hz, e⟩ := List.mem_map.mp m
      obtain ⟨y, hy, rfl⟩ := List.mem_map.mp hz
      by_cases c : x.n = n
      · have cy : ¬ y.n = n := fun z => nn.1 (by rw [c, ← z]; exact List.mem_map_of_mem hy)
        rw [if_pos c, if_neg cy] at e
        exact h y (List.mem_cons_of_mem _ hy) e
      · rw [if_neg c] at e
        by_cases cy : y.n = n
        · rw [if_pos cy] at e
          exact h x List.mem_cons_self e.symm
        · rw [if_neg cy] at e
          exact nd.1 (by rw [← e]; exact List.mem_map_of_mem hy)
  · rw [List.map_append, List.nodup_append]
    refine ⟨nd, by simp, fun a ha b hb e => ?_⟩
    obtain ⟨x, hx, rfl⟩ := List.mem_map.mp ha
    have : b = d := by simpa using hb
    exact h x hx (e.trans this)
theorem mem_put_self {ns : List NE} {n : Int} {d : Addr} {ks : List (Ky × V)} : (⟨n, d, ks⟩ : NE) ∈ putn ns n d ks := by
  unfold putn
  split
  · rename_i c
    obtain ⟨x, hx, e⟩ := c
    exact List.mem_map.mpr ⟨x, hx, if_pos e⟩
  · exact List.mem_append_right _ List.mem_cons_self
theorem mem_put_old {ns : List NE} {n : Int} {d : Addr} {ks : List (Ky × V)} {y : NE} (h : y ∈ ns) (e : y.n ≠ n) : y ∈ putn ns n d ks := by
  unfold putn
  split
  · exact List.mem_map.mpr ⟨y, h, if_neg e⟩
  · exact List.mem_append_left _ h
theorem keysOf_put {ns : List NE} {n : Int} {d : Addr} {ks : List (Ky × V)} (nn : (ns.map (·.n)).Nodup) (m : Int) : keysOf (putn ns n d ks) m = if m = n then fk ks else keysOf ns m := by
  by_cases e : m = n
  · subst e
    rw [if_pos rfl]
    exact (ns_some (x := ⟨m, d, ks⟩) (putn_n nn) mem_put_self).2
  · rw [if_neg e]
    rcases num_in ns m with ⟨x, hx, rfl⟩ | h
    · rw [(ns_some nn hx).2, (ns_some (putn_n nn) (mem_put_old hx e)).2]
    · rw [(ns_none h).2]
      refine (ns_none fun y hy z => ?_).2
      rcases mem_putn hy with q | q
      · rw [q] at z; exact e z.symm
      · exact h y q.1 z
theorem keysOf_cut {ns : List NE} {n : Int} (nn : (ns.map (·.n)).Nodup) (m : Int) : keysOf (cutn ns n) m = if m = n then [] else keysOf ns m := by
  have n' : ((cutn ns n).map (·.n)).Nodup := List.Pairwise.sublist (List.filter_sublist.map _) nn
  rcases num_in ns m with ⟨x, hx, rfl⟩ | h
  · by_cases e : x.n = n
    · rw [if_pos e]
      refine (ns_none fun y hy z => ?_).2
      exact of_decide_eq_true (List.mem_filter.mp hy).2 (z.trans e)
    · rw [if_neg e, (ns_some nn hx).2, (ns_some n' (List.mem_filter.mpr ⟨hx, decide_eq_true e⟩)).2]
  · rw [(ns_none h).2, (ns_none (ns := cutn ns n) fun y hy => h y (List.mem_filter.mp hy).1).2, ite_self]
end K50

set_option Elab.async false
set_option linter.all false
set_option maxRecDepth 100000
set_option maxHeartbeats 4000000
namespace K50
open PySem PySem.Spec L2 ND
/-! ### a list or a tuple walked -/
def iSeq (K : PySem.W.Frag) (tl : TE) : TI := fun σ H R => tl σ H fun x H1 => ∃ a, x = .ref a ∧ (((∃ xs, SqL K H1 a xs) ∧ R (Itl K a) H1) ∨ ((∃ xs, SqT K H1 a xs) ∧ R (Itt K a) H1))
theorem pi_seq {X : Cx} {tg l : Expr} {tl : TE} (hl : PE X l tl) : PI X tg l (iSeq X.K tl) := by
  refine ⟨fun pins s σ H R I h => ?_⟩
  refine thn (hl.run pins s σ H _ I h) fun v s1 ⟨x, H1, I1, r1, q1⟩ => ?_
  obtain ⟨a, e, q⟩ := q1
  subst e
  cases r1
  rcases q with ⟨⟨xs, hq⟩, q⟩ | ⟨⟨xs, hq⟩, q⟩
  · obtain ⟨its, rv, p, hz⟩ := I1.list hq
    refine wpAny_pyIter_list p.isList ?_
    refine ⟨s1.heap.objs.size, [s1.heap.objs.size], _, _, H1, rfl, I1.kept (t' := s1.toks) fun b o e => Heap.get?_push_of_some _ e, turn_list a _, ⟨_, Heap.get?_push_size _ rfl, rfl, rfl⟩, fun b hb => ?_, q⟩
    have e : b = s1.heap.objs.size := by simpa using hb
    subst e
    exact I1.fpOk (Nat.le_refl _) (I1.hok.fresh (Nat.le_refl _))
  · obtain ⟨its, rv, p, hz⟩ := I1.tuple hq
    refine wpAny_pyIter_tuple (show s1.heap.IsTuple a its.toArray from p) ?_
    refine ⟨s1.heap.objs.size, [s1.heap.objs.size], _, _, H1, rfl, I1.kept (t' := s1.toks) fun b o e => Heap.get?_push_of_some _ e, turn_tuple a _, ⟨_, Heap.get?_push_size _ rfl, rfl, rfl⟩, fun b hb => ?_, q⟩
    have e : b = s1.heap.objs.size := by simpa using hb
    subst e
    exact I1.fpOk (Nat.le_refl _) (I1.hok.fresh (Nat.le_refl _))
/-- {key: True for key in keys} -/
theorem dc_keys {w : World} {K : PySem.W.Frag} {σ : L2.St} {H : Hp} {Q : VK} (a : Addr) {ks : List Ky} {us : List V} (h1 : σ[2]? = some (some (.ref a))) (h3 : ∀ u, ((wipe σ [5]).set 5 (some u))[5]? = some (some u)) (h4 : ∀ u, wipe ((wipe σ [5]).set 5 (some u)) [5] = wipe σ [5])
    (ha : H a = some (.lst us) ∨ H a = some (.tup us)) (hk : KVs H ks us) (l1 : ks.length ≤ 1000) (q : ∀ (d : Addr) (H' : Hp), Kp No H H' → H d = none → H' d = some (dictO w d (fr (ded (ks.zip us)))) → Q (.ref d) H') :
    tNDc w (iSeq K (tVar 2)) (gName 5) tYes (tVar 5) (tC (.bl true)) [5] σ H Q := by
  have lz : (ks.zip us).length = us.length := by rw [List.length_zip, hk.len]; omega
  have step : ∀ (d : Addr), H d = none → ∀ i x H', us[i]? = some x → (Kp (fun c => c = d) H H' ∧ H' d = some (dictO w d (fr (ded ((ks.zip us).take i))))) →
      gName 5 x (wipe σ [5]) H' fun σ2 H2 => wipe σ2 [5] = wipe σ [5] ∧ tYes σ2 H2 fun b H3 => if b = true then tVar 5 σ2 H3 fun y H4 => tC (.bl true) σ2 H4 fun z H5 => ∃ xs k, KAt H5 k y ∧ DN w H5 d xs ∧ xs.length < sizeLine ∧
        (Kp (fun c => c = d) H (upd H5 d (dictO w d (storeN xs k y z))) ∧ (upd H5 d (dictO w d (storeN xs k y z))) d = some (dictO w d (fr (ded ((ks.zip us).take (i + 1)))))) else (Kp (fun c => c = d) H H3 ∧ H3 d = some (dictO w d (fr (ded ((ks.zip us).take (i + 1)))))) := by
    rintro d nd i x H' hx ⟨kk, hd⟩
    obtain ⟨k, hkn, hkx⟩ := hk.get hx
    have tk : ∀ c xs, H c = some (.tup xs) → H' c = some (.tup xs) := fun c xs h => kk _ _ h (ne_of_none h nd)
    refine ⟨h4 x, ?_⟩
    unfold tYes
    dsimp only
    rw [if_pos rfl]
    have hz : (ks.zip us)[i]? = some (k, x) := by rw [List.getElem?_zip_eq_some]; exact ⟨hkn, hx⟩
    have kvm : ∀ p ∈ ks.zip us, KV H p.1 p.2 := fun p hp => by
      obtain ⟨j, hj⟩ := List.mem_iff_getElem?.mp hp
      rw [List.getElem?_zip_eq_some] at hj
      obtain ⟨k', hk', r⟩ := hk.get hj.2
      rw [hj.1] at hk'
      cases hk'
      exact r
    refine ⟨x, h3 x, _, k.k, (hkx.keep tk).at, ⟨hd, keys_fr fun p hp => (kvm p (List.mem_of_mem_take ((ded_facts _).2.2 p hp))).keep tk⟩, ?_, kk.trans (Kp.put rfl), ?_⟩
    · have e1 := (ded_facts ((ks.zip us).take i)).1
      have e2 : (fk (ded ((ks.zip us).take i))).length ≤ ks.length := by
        refine sub_len e1 fun y hy => ?_
        obtain ⟨p, hp, rfl⟩ := List.mem_map.mp (((ded_facts _).2.1 y).mp hy)
        exact (List.of_mem_zip (List.mem_of_mem_take hp)).1
      unfold fk at e2
      unfold fr
      rw [List.length_map] at e2 ⊢
      exact Nat.lt_of_lt_of_le (by omega : _ < 2000) (by decide)
    · rw [upd_same, List.take_add_one, hz]
      show some (dictO w d _) = some (dictO w d (fr (ded ((ks.zip us).take i ++ [(k, x)]))))
      rw [ded_snoc, ← fr_add]
  refine ⟨_, h1, a, rfl, ?_⟩
  rcases ha with ha | ha
  · refine .inl ⟨⟨us, SqL.of ha⟩, fun d nd => ?_⟩
    refine ndc_list (ys := us) (fun i H' => Kp (fun c => c = d) H H' ∧ H' d = some (dictO w d (fr (ded ((ks.zip us).take i))))) ⟨Kp.put rfl, upd_same⟩ (fun i H' _ h => SqL.of (h.1 _ _ ha (ne_of_none ha nd))) (step d nd) fun H' ⟨kk, hd⟩ => ?_
    rw [← lz, List.take_length] at hd
    exact q d H' (kk.drop fun c h => .inr (h ▸ nd)) nd hd
  · refine .inr ⟨⟨us, SqT.of ha⟩, fun d nd => ?_⟩
    refine ndc_tup (ys := us) (fun i H' => Kp (fun c => c = d) H H' ∧ H' d = some (dictO w d (fr (ded ((ks.zip us).take i))))) ⟨Kp.put rfl, upd_same⟩ (fun i H' _ h => SqT.of (h.1 _ _ ha (ne_of_none ha nd))) (step d nd) fun H' ⟨kk, hd⟩ => ?_
    rw [← lz, List.take_length] at hd
    exact q d H' (kk.drop fun c h => .inr (h ▸ nd)) nd hd
/-! ### the index -/
def foot (dn dk : Addr) (ns : List NE) (es : List KE) : Addr → Prop := fun c => c = dn ∨ c = dk ∨ c ∈ es.map (·.r) ∨ c ∈ ns.map (·.d)
structure IxAt (w : World) (K : PySem.W.Frag) (H : Hp) (U : List Ky) (PN : List Int) (p dx dn dk : Addr) (ns : List NE) (es : List KE) : Prop where
  p : H p = some (.ins (He.ga K "Index") dx (ixF dn dk))
  n : BN w H U PN dn ns
  k : BK w H U PN dk es
  nk : dn ≠ dk
  vk : ∀ x ∈ ns, x.d ≠ dk
  two : ∀ k n, n ∈ look es k ↔ k ∈ keysOf ns n
/-- an index at p, its own addresses F, that holds the table T -/
def Ix (w : World) (K : PySem.W.Frag) (H : Hp) (U : List Ky) (PN : List Int) (p : Addr) (F : Addr → Prop) (T : Int → List Ky) : Prop :=
  ∃ dx dn dk ns es, IxAt w K H U PN p dx dn dk ns es ∧ (∀ c, F c ↔ foot dn dk ns es c) ∧ ∀ n k, k ∈ keysOf ns n ↔ k ∈ T n
theorem IxAt.own {w : World} {K : PySem.W.Frag} {H : Hp} {U : List Ky} {PN : List Int} {p dx dn dk : Addr} {ns : List NE} {es : List KE} (h : IxAt w K H U PN p dx dn dk ns es) {c : Addr} (f : foot dn dk ns es c) : (∃ xs, H c = some (dictO w c xs)) ∨ ∃ l, H c = some (.lst l) := by
  rcases f with rfl | rfl | f | f
  · exact .inl ⟨_, h.n.d⟩
  · exact .inl ⟨_, h.k.d⟩
  · obtain ⟨x, hx, rfl⟩ := List.mem_map.mp f
    exact .inr ⟨_, h.k.row x hx⟩
  · obtain ⟨x, hx, rfl⟩ := List.mem_map.mp f
    exact .inl ⟨_, h.n.v x hx⟩
theorem Ix.own {w : World} {K : PySem.W.Frag} {H : Hp} {U : List Ky} {PN : List Int} {p : Addr} {F : Addr → Prop} {T : Int → List Ky} (h : Ix w K H U PN p F T) {c : Addr} (f : F c) : (∃ xs, H c = some (dictO w c xs)) ∨ ∃ l, H c = some (.lst l) := by
  obtain ⟨dx, dn, dk, ns, es, i, hf, _⟩ := h
  exact i.own ((hf c).mp f)
theorem Ix.tup {w : World} {K : PySem.W.Frag} {H : Hp} {U : List Ky} {PN : List Int} {p : Addr} {F : Addr → Prop} {T : Int → List Ky} (h : Ix w K H U PN p F T) {c : Addr} {xs : List V} (e : H c = some (.tup xs)) : ¬ F c := fun f => by
  rcases h.own f with ⟨ys, z⟩ | ⟨l, z⟩
  · rw [e] at z; cases z
  · rw [e] at z; cases z
theorem Ix.ins {w : World} {K : PySem.W.Frag} {H : Hp} {U : List Ky} {PN : List Int} {p : Addr} {F : Addr → Prop} {T : Int → List Ky} (h : Ix w K H U PN p F T) {c C dx : Addr} {xs : List (Str × V)} (e : H c = some (.ins C dx xs)) : ¬ F c := fun f => by
  rcases h.own f with ⟨ys, z⟩ | ⟨l, z⟩
  · rw [e] at z; cases z
  · rw [e] at z; cases z
theorem Ix.has {w : World} {K : PySem.W.Frag} {H : Hp} {U : List Ky} {PN : List Int} {p : Addr} {F : Addr → Prop} {T : Int → List Ky} (h : Ix w K H U PN p F T) {c : Addr} (e : H c = none) : ¬ F c := fun f => by
  rcases h.own f with ⟨ys, z⟩ | ⟨l, z⟩
  · rw [e] at z; cases z
  · rw [e] at z; cases z
theorem IxAt.keep {w : World} {K : PySem.W.Frag} {H H' : Hp} {U : List Ky} {PN : List Int} {p dx dn dk : Addr} {ns : List NE} {es : List KE} {G : Addr → Prop} (h : IxAt w K H U PN p dx dn dk ns es) (k : Kp G H H') (n1 : ¬ G p) (n2 : ∀ c, foot dn dk ns es c → ¬ G c) (n3 : ∀ b xs, H b = some (.tup xs) → ¬ G b) : IxAt w K H' U PN p dx dn dk ns es :=
  ⟨k _ _ h.p n1, h.n.keep k (n2 _ (.inl rfl)) (fun x hx => n2 _ (.inr (.inr (.inr (List.mem_map_of_mem hx))))) n3, h.k.keep k (n2 _ (.inr (.inl rfl))) (fun x hx => n2 _ (.inr (.inr (.inl (List.mem_map_of_mem hx))))) n3, h.nk, h.vk, h.two⟩
theorem Ix.keep {w : World} {K : PySem.W.Frag} {H H' : Hp} {U : List Ky} {PN : List Int} {p : Addr} {F G : Addr → Prop} {T : Int → List Ky} (h : Ix w K H U PN p F T) (k : Kp G H H') (n1 : ¬ G p) (n2 : ∀ c, F c → ¬ G c) (n3 : ∀ b xs, H b = some (.tup xs) → ¬ G b) : Ix w K H' U PN p F T := by
  obtain ⟨dx, dn, dk, ns, es, i, hf, ht⟩ := h
  exact ⟨dx, dn, dk, ns, es, i.keep k n1 (fun c f => n2 c ((hf c).mpr f)) n3, hf, ht⟩
theorem Ix.same {w : World} {K : PySem.W.Frag} {H H' : Hp} {U : List Ky} {PN : List Int} {p : Addr} {F : Addr → Prop} {T : Int → List Ky} (h : Ix w K H U PN p F T) (k : Kp No H H') : Ix w K H' U PN p F T := h.keep k id (fun _ _ => id) fun _ _ _ => id
theorem Ix.congr {w : World} {K : PySem.W.Frag} {H : Hp} {U : List Ky} {PN : List Int} {p : Addr} {F : Addr → Prop} {T T' : Int → List Ky} (h : Ix w K H U PN p F T) (e : ∀ n k, k ∈ T n ↔ k ∈ T' n) : Ix w K H U PN p F T' := by
  obtain ⟨dx, dn, dk, ns, es, i, hf, ht⟩ := h
  exact ⟨dx, dn, dk, ns, es, i, hf, fun n k => (ht n k).trans (e n k)⟩
def spInit (w : World) (K : PySem.W.Frag) : Sp := fun vs H Q _ => ∃ (p dx : Addr), vs = [.ref p] ∧ H p = some (.ins (He.ga K "Index") dx []) ∧
  ∀ (H' : Hp) (F : Addr → Prop), (∀ U PN, Ix w K H' U PN p F fun _ => []) → (∀ c, F c → H c = none) → Kp (fun c => c = p) H H' → Q .non H'
def spLay (w : World) (K : PySem.W.Frag) : Sp := fun vs H Q _ => ∃ (p a : Addr) (n : Int) (U : List Ky) (PN : List Int) (F : Addr → Prop) (T : Int → List Ky) (ks : List Ky) (us : List V), vs = [.ref p, .int n, .ref a] ∧ Un U PN ∧ Ix w K H U PN p F T ∧
  (H a = some (.lst us) ∨ H a = some (.tup us)) ∧ KVs H ks us ∧ ks.length ≤ 1000 ∧ (∀ k ∈ ks, k ∈ U) ∧ n ∈ PN ∧
  ∀ (H' : Hp) (F' : Addr → Prop), Ix w K H' U PN p F' (fun m => if m = n then ks else T m) → (∀ c, F' c → F c ∨ H c = none) → Kp F H H' → Q (.bl (!sameK ks (T n))) H'
section
variable {P : Program} {w : World} {K : PySem.W.Frag} {mg : Str → Option Value} {base : Heap} {D : Nat → FuncData}
theorem ok_Index_init (T : Txt K mg D) : FnOk P w K mg base CX0 1 (He.ma K (He.ga K "Index") "__init__") (D 1) P_Index_init (spInit w K) := by
  refine T.F_Index_init.ok sc_Index_init (fun vs H Q E h => ?_) (fun cdv A outer s H vs Q E hr h => ?_)
  · obtain ⟨p, dx, rfl, _⟩ := h
    rfl
  · obtain ⟨p, dx, rfl, hp, q⟩ := h
    have nd := sc_Index_init.nd
    refine ⟨_, PSs.nox ((pss_cons (ps_fld (pv 0) pe_nnew rfl)
    (pss_one (ps_fld (pv 0) pe_nnew rfl)))), ?_⟩
    intro dn ndn
    have npn : p ≠ dn := ne_of_none hp ndn
    refine ⟨_, rfl, p, _, dx, [], rfl, (by rw [upd_ne npn]; exact hp), T.cl_Index, T.a_by_number, (by show 0 < 1000; decide), ?_⟩
    intro dk ndk
    have ndk1 : dk ≠ p := fun e => by rw [e, upd_same] at ndk; cases ndk
    have ndk2 : dk ≠ dn := fun e => by rw [e, upd_ne npn.symm, upd_same] at ndk; cases ndk
    refine ⟨_, rfl, p, _, dx, _, rfl, (by rw [upd_ne ndk1.symm]; exact upd_same), T.cl_Index, T.a_by_key, (by show 1 < 1000; decide), ?_⟩
    have ef : putF "by_key" (.ref dk) (putF "by_number" (.ref dn) []) = ixF dn dk := by
      have e : ¬ (("by_number" : Str) = "by_key") := by decide +kernel
      show (if ("by_number" : Str) = "by_key" then _ else (("by_number" : Str), V.ref dn) :: putF "by_key" (V.ref dk) []) = _
      rw [if_neg e]; rfl
    refine q _ (fun c => c = dn ∨ c = dk) (fun U PN => ⟨dx, dn, dk, [], [], ⟨by rw [upd_same, ef], ⟨?_, ?_, ?_, ?_, ?_, ?_, ?_, List.nodup_nil, List.nodup_nil, ?_⟩, ⟨?_, ?_, ?_, ?_, ?_, ?_, ?_, List.nodup_nil, List.nodup_nil⟩, ndk2.symm, ?_, ?_⟩, ?_, ?_⟩) ?_ ?_
    · rw [upd_ne npn.symm, upd_ne ndk2.symm, upd_ne npn.symm, upd_same]; rfl
    · exact fun _ h => (nomatch h)
    · exact fun _ h => (nomatch h)
    · exact fun _ h => (nomatch h)
    · exact fun _ h => (nomatch h)
    · exact fun _ h => (nomatch h)
    · exact fun _ h => (nomatch h)
    · exact fun _ h => (nomatch h)
    · rw [upd_ne ndk1, upd_same]; rfl
    · exact fun _ h => (nomatch h)
    · exact fun _ h => (nomatch h)
    · exact fun _ h => (nomatch h)
    · exact fun _ h => (nomatch h)
    · exact fun _ h => (nomatch h)
    · exact fun _ h => (nomatch h)
    · exact fun _ h => (nomatch h)
    · exact fun k n => ⟨fun h => (nomatch h), fun h => (nomatch h)⟩
    · intro c
      unfold foot
      constructor
      · rintro (h | h)
        · exact .inl h
        · exact .inr (.inl h)
      · rintro (h | h | h | h)
        · exact .inl h
        · exact .inr h
        · cases h
        · cases h
    · exact fun n k => Iff.rfl
    · rintro c (rfl | rfl)
      · exact ndn
      · rw [upd_ne ndk1, upd_ne ndk2] at ndk; exact ndk
    · intro c o h n
      have a2 : c ≠ dn := ne_of_none h ndn
      have a3 : c ≠ dk := fun e => by
        rw [upd_ne ndk1, upd_ne ndk2, ← e, h] at ndk; cases ndk
      rw [upd_ne n, upd_ne a3, upd_ne n, upd_ne a2]; exact h
end
end K50

set_option Elab.async false
set_option linter.all false
set_option maxRecDepth 100000
set_option maxHeartbeats 4000000
namespace K50
open PySem PySem.Spec L2 ND
theorem Kp.lock {F : Addr → Prop} {H H' : Hp} {d : Addr} {u z : HO} (h : H d = some u) (k : Kp F (upd H d z) H') : Kp F H (upd H' d u) := fun b o e n => by
  by_cases c : b = d
  · subst c
    rw [h] at e
    rw [upd_same, e]
  · rw [upd_ne c]
    exact k b o (by rw [upd_ne c]; exact e) n
theorem BN.put {w : World} {H : Hp} {U : List Ky} {PN : List Int} {dn d : Addr} {ns : List NE} (h : BN w H U PN dn ns) {n : Int} {ps : List (Ky × V)} (hd : H d = some (dictO w d (fr ps))) (hv : ∀ p ∈ ps, KV H p.1 p.2) (nk : (fk ps).Nodup) (ne : ps ≠ []) (iu : ∀ k ∈ fk ps, k ∈ U) (ip : n ∈ PN) (dd : d ≠ dn) (dv : ∀ x ∈ ns, x.d ≠ d) :
    BN w (upd H dn (dictO w dn (storeN (ns.map NE.e) (.num n) (.int n) (.ref d)))) U PN dn (putn ns n d ps) := by
  have tk : ∀ b xs, H b = some (.tup xs) → (upd H dn (dictO w dn (storeN (ns.map NE.e) (.num n) (.int n) (.ref d)))) b = some (.tup xs) := fun b xs e => by rw [upd_ne (tup_ne_d h.d e)]; exact e
  refine ⟨by rw [upd_same, putn_e h.nn], fun x hx => ?_, fun x hx => ?_, fun x hx => ?_, fun x hx => ?_, fun x hx => ?_, fun x hx => ?_, putn_n h.nn, putn_d h.nn h.nd dv, fun x hx => ?_⟩ <;> rcases mem_putn hx with rfl | ⟨m, _⟩
  · rw [upd_ne dd]; exact hd
  · rw [upd_ne (h.nv x m)]; exact h.v x m
  · exact fun p hp => (hv p hp).keep tk
  · exact fun p hp => (h.kv x m p hp).keep tk
  · exact nk
  · exact h.nk x m
  · exact ne
  · exact h.ne x m
  · exact iu
  · exact h.inU x m
  · exact ip
  · exact h.inP x m
  · exact dd
  · exact h.nv x m
theorem BN.cut {w : World} {H : Hp} {U : List Ky} {PN : List Int} {dn : Addr} {ns : List NE} (h : BN w H U PN dn ns) (n : Int) : BN w (upd H dn (dictO w dn (cutN (ns.map NE.e) (.num n)))) U PN dn (cutn ns n) := by
  have tk : ∀ b xs, H b = some (.tup xs) → (upd H dn (dictO w dn (cutN (ns.map NE.e) (.num n)))) b = some (.tup xs) := fun b xs e => by rw [upd_ne (tup_ne_d h.d e)]; exact e
  have sub : ∀ y ∈ cutn ns n, y ∈ ns := fun y hy => (List.mem_filter.mp hy).1
  exact ⟨by rw [upd_same, cutn_e], fun x hx => by rw [upd_ne (h.nv x (sub x hx))]; exact h.v x (sub x hx), fun x hx p hp => (h.kv x (sub x hx) p hp).keep tk, fun x hx => h.nk x (sub x hx), fun x hx => h.ne x (sub x hx), fun x hx => h.inU x (sub x hx), fun x hx => h.inP x (sub x hx), List.Pairwise.sublist (List.filter_sublist.map _) h.nn, List.Pairwise.sublist (List.filter_sublist.map _) h.nd, fun x hx => h.nv x (sub x hx)⟩
theorem fr_len (ps : List (Ky × V)) : (fr ps).length = ps.length := by unfold fr; rw [List.length_map]
theorem fr_at {ps : List (Ky × V)} {i : Nat} {x : EntV} (h : (fr ps)[i]? = some x) : ∃ q, ps[i]? = some q ∧ x = (q.1.k, q.2, .bl true) := by
  unfold fr at h
  rw [List.getElem?_map] at h
  cases e : ps[i]? with
  | none => rw [e] at h; cases h
  | some q => rw [e] at h; exact ⟨q, rfl, (Option.some.inj h).symm⟩
theorem fk_take {ps : List (Ky × V)} {i : Nat} {q : Ky × V} (h : ps[i]? = some q) (k : Ky) : k ∈ fk (ps.take (i + 1)) ↔ k ∈ fk (ps.take i) ∨ k = q.1 := by
  unfold fk
  rw [List.take_add_one, h, List.map_append, List.mem_append]
  simp
theorem fk_not {ps : List (Ky × V)} {i : Nat} {q : Ky × V} (n : (fk ps).Nodup) (h : ps[i]? = some q) : q.1 ∉ fk (ps.take i) := fun m => by
  unfold fk at n m
  obtain ⟨j, hj⟩ := List.mem_iff_getElem?.mp m
  rw [List.getElem?_map, List.getElem?_take] at hj
  split at hj
  · rename_i c
    have e1 : (ps.map (·.1))[j]? = some q.1 := by rw [List.getElem?_map]; exact hj
    have e2 : (ps.map (·.1))[i]? = some q.1 := by rw [List.getElem?_map, h]; rfl
    have := (List.getElem?_inj (by have := (List.getElem?_eq_some_iff.mp e1).1; exact this) n).mp (e1.trans e2.symm)
    omega
  · cases hj
section
variable {P : Program} {w : World} {K : PySem.W.Frag} {mg : Str → Option Value} {base : Heap} {D : Nat → FuncData}
theorem ok_Index_lay (T : Txt K mg D) : FnOk P w K mg base CX0 3 (He.ma K (He.ga K "Index") "lay") (D 2) P_Index_lay (spLay w K) := by
  refine T.F_Index_lay.ok sc_Index_lay (fun vs H Q E h => ?_) (fun cdv A outer s H vs Q E hr h => ?_)
  · obtain ⟨p, a, n, U, PN, Ft, T', ks, us, rfl, _⟩ := h
    rfl
  · obtain ⟨p, a, n, U, PN, Ft, T', ks, us, rfl, un, ⟨dx, dn, dk, ns, es, ix, hF, hT⟩, ha, hk, l1, hU, hn, q⟩ := h
    have nd := sc_Index_lay.nd
    refine ⟨_, PSs.nox ((pss_cons (ps_setNDc (i := 3) (own := [("key", 5)]) (u8 hr) rfl nd rfl rfl (sw_trueD rfl rfl rfl (by decide +kernel)) (pi_seq (pv 2)) (blkOk_by (own := [("key", 5)]) (N := N_Index_lay) (sc := defScope s_Index_lay) (by decide +kernel)) (fun _ _ _ _ _ => pg_name (i := 5) nd rfl (Or.inl rfl)) (fun _ _ _ _ _ => pts_nil) (fun _ _ _ _ _ => (pv 5)) (fun _ _ _ _ _ => pe_bl))
    (pss_cons (ps_set (i := 4) nd rfl (Or.inl rfl) (pe_nget2 (u9 hr) (pe_fld (pv 0) rfl) (pv 1) pe_nnew ⟨rfl, rfl, rfl, rfl⟩))
    (pss_cons (ps_if (pt_cmpR (op_neq 1 (u20 hr)) (pv 3) (pv 4) (nomark _)) (pss_one (ps_ret pe_bl)) pss_nil)
    (pss_cons (ps_lock (ps_for PassesOwn.never rfl (pi_nkeys (pv 4)) (pg_name (i := 5) nd rfl (Or.inl rfl))
    (pss_one (ps_if (pt_cmp (pc_nnotin (u9 hr) (pv 5) (pv 3)) rfl) (pss_one (ps_expr (pe_meth (pv 0) T.cl_Index T.m_Index_take_out (ok_Index_take_out T) (hr.mono (by decide)) (b_Index_take_out T) .nil pass0 (pa_cons (pv 5) (pa_cons (pv 1) pa_nil))))) pss_nil))))
    (pss_cons (ps_lock (ps_for PassesOwn.never rfl (pi_nkeys (pv 3)) (pg_name (i := 5) nd rfl (Or.inl rfl))
    (pss_one (ps_if (pt_cmp (pc_nnotin (u9 hr) (pv 5) (pv 4)) rfl) (pss_cons (ps_set (i := 6) nd rfl (Or.inl rfl) (pe_nsetd (u9 hr) (pe_fld (pv 0) rfl) (pv 5) (pe_lst pa_nil) ⟨rfl, rfl, rfl, rfl⟩))
    (pss_one (ps_expr (pe_bm F.plainAttrs_list F.slot_list_insert F.type_list_insert mt_insert (pv 6) (pa_cons (pe_call (ok_place_for T) (hr.mono (by decide)) (by rfl) T.g_place_for T.kp_place_for (b_place_for T) .nil pass0 (pa_cons (pv 1) (pa_cons (pv 6) pa_nil))) (pa_cons (pv 1) pa_nil)))))) pss_nil))))
    (pss_cons (ps_if (pt_ntru (pv 3)) (pss_one (ps_nput (u9 hr) (pe_fld (pv 0) rfl) (pv 1) (pv 3) rfl)) (pss_one (ps_ndel (u9 hr) (pe_fld (pv 0) rfl) (pv 1))))
    (pss_one (ps_ret pe_bl))))))))), ?_⟩
    dsimp only [cxOf, Cx.nox, Cx.wish]
    rw [tSeq, tAsg]
    refine dc_keys (σ := [some (.ref p), some (.int n), some (.ref a), none, none, none, none]) a rfl (fun _ => rfl) (fun _ => rfl) ha hk l1 fun f0 H1 k1 nf0 hf0 => ?_
    generalize hps : ded (ks.zip us) = ps at hf0
    have dfa := ded_facts (ks.zip us)
    rw [hps] at dfa
    obtain ⟨npk, dfk, dfm⟩ := dfa
    have fkk : fk (ks.zip us) = ks := by
      unfold fk
      rw [List.map_fst_zip]
      rw [hk.len]; exact Nat.le_refl _
    rw [fkk] at dfk
    have kvp : ∀ p ∈ ps, KV H p.1 p.2 := fun p hp => by
      obtain ⟨j, hj⟩ := List.mem_iff_getElem?.mp (dfm p hp)
      rw [List.getElem?_zip_eq_some] at hj
      obtain ⟨k', hk', r⟩ := hk.get hj.2
      rw [hj.1] at hk'
      cases hk'
      exact r
    have pU : ∀ k ∈ fk ps, k ∈ U := fun k hk => hU k ((dfk k).mp hk)
    have lps : ps.length ≤ 1000 := by
      have := sub_len npk pU
      unfold fk at this
      rw [List.length_map] at this
      have := un.u
      omega
    have ix1 := ix.keep k1 id (fun _ _ => id) fun _ _ _ => id
    -- elder
    refine ⟨_, rfl, p, _, dx, _, _, rfl, ix1.p, T.cl_Index, T.a_by_number, ixF_n dn dk, dn, rfl, ⟨_, ix1.n.dn'.r⟩, _, rfl, fun e0 ne0 => ?_⟩
    have k2' : Kp No H1 (upd H1 e0 (dictO w e0 [])) := Kp.new ne0
    have k2 := k1.trans k2'
    have ix2 := ix.keep k2 id (fun _ _ => id) fun _ _ _ => id
    have hf2 : (upd H1 e0 (dictO w e0 [])) f0 = some (dictO w f0 (fr ps)) := k2' _ _ hf0 id
    have he2 : (upd H1 e0 (dictO w e0 [])) e0 = some (dictO w e0 []) := upd_same
    have nef : e0 ≠ f0 := fun e => by rw [e, hf0] at ne0; cases ne0
    have neH : H e0 = none := k1.nil ne0 id
    refine ⟨_, .num n, ix2.n.dn'.r, KAt.int n, ?_⟩
    obtain ⟨d0, ke, ed, hd0, kve, nke, eke, d0f, d0k, d0n⟩ : ∃ (d0 : Addr) (ke : List (Ky × V)), (((atN (ns.map NE.e) (.num n)).map (·.2)).getD (.ref e0)) = V.ref d0 ∧ (upd H1 e0 (dictO w e0 [])) d0 = some (dictO w d0 (fr ke)) ∧
        (∀ p ∈ ke, KV (upd H1 e0 (dictO w e0 [])) p.1 p.2) ∧ (fk ke).Nodup ∧ fk ke = keysOf ns n ∧ d0 ≠ f0 ∧ d0 ≠ dk ∧ d0 ≠ dn := by
      rcases num_in ns n with ⟨x, hx, rfl⟩ | h
      · refine ⟨x.d, x.ks, by rw [(ns_some ix.n.nn hx).1]; rfl, ix2.n.v x hx, ix2.n.kv x hx, ix.n.nk x hx, (ns_some ix.n.nn hx).2.symm, ne_of_none (ix.n.v x hx) nf0, ix.vk x hx, ix.n.nv x hx⟩
      · exact ⟨e0, [], by rw [(ns_none h).1]; rfl, he2, fun _ h => (nomatch h), List.nodup_nil, (ns_none h).2.symm, nef, (ne_of_none ix.k.d neH).symm, (ne_of_none ix.n.d neH).symm⟩
    generalize upd H1 e0 (dictO w e0 []) = H2 at k2 ix2 hf2 hd0 kve
    rw [ed]
    have kvp2 : ∀ p ∈ ps, KV H2 p.1 p.2 := fun p hp => (kvp p hp).keep fun b xs e => k2 _ _ e id
    -- fresh == elder
    refine ⟨_, rfl, _, rfl, f0, d0, fr ps, fr ke, fun _ _ => true, rfl, rfl, ⟨.inl hf2, keys_fr kvp2⟩, ⟨.inl hd0, keys_fr kve⟩, ev_true, sameK (fk ps) (fk ke), by rw [eqD_fr npk nke], ?_⟩
    have hse : sameK (fk ps) (fk ke) = sameK ks (T' n) := by
      rw [Bool.eq_iff_iff, sameK_iff, sameK_iff, eke]
      constructor
      · intro h k; rw [← dfk k, h k, hT n k]
      · intro h k; rw [dfk k, h k, hT n k]
    rw [hse]
    refine ite2 (fun c => ?_) (fun c => ?_)
    · have := q H2 Ft ⟨dx, dn, dk, ns, es, ix2, hF, fun m k => ?_⟩ (fun c h => .inl h) (No.all k2)
      · rw [c] at this; exact (show Q (.bl false) H2 from this)
      · show k ∈ keysOf ns m ↔ k ∈ (if m = n then ks else T' m)
        by_cases e : m = n
        · rw [if_pos e, e, hT n k]; exact ((sameK_iff.mp c) k).symm
        · rw [if_neg e]; exact hT m k
    have c : sameK ks (T' n) = false := by simpa using c
    -- the keys that go
    have d0r : ¬ rowsF es dk d0 := by
      rintro (h | h)
      · exact d0k h
      · obtain ⟨x, hx, e⟩ := List.mem_map.mp h
        exact dk_ne hd0 (ix2.k.row x hx) e
    have f0r : ¬ rowsF es dk f0 := by
      rintro (h | h)
      · rw [h, ix.k.d] at nf0; cases nf0
      · obtain ⟨x, hx, e⟩ := List.mem_map.mp h
        rw [← e, ix.k.row x hx] at nf0; cases nf0
    have pr : ¬ rowsF es dk p := by
      rintro (h | h)
      · have := ix.p; rw [h, ix.k.d] at this; cases this
      · obtain ⟨x, hx, e⟩ := List.mem_map.mp h
        have := ix.p; rw [← e, ix.k.row x hx] at this; cases this
    have tr : ∀ b xs, H2 b = some (.tup xs) → ¬ rowsF es dk b := fun b xs hb => by
      rintro (h | h)
      · rw [h, ix2.k.d] at hb; cases hb
      · obtain ⟨x, hx, e⟩ := List.mem_map.mp h
        rw [← e, ix2.k.row x hx] at hb; cases hb
    have d0p : d0 ≠ p := fun e => by rw [e, ix2.p] at hd0; cases hd0
    have f0p : f0 ≠ p := fun e => by rw [e, ix2.p] at hf2; cases hf2
    refine ⟨d0, _, hd0, True.intro, fun od => ?_⟩
    have tr3 : ∀ b xs, H2 b = some (.tup xs) → (upd H2 d0 (.frz od (dictO w d0 (fr ke)))) b = some (.tup xs) := fun b xs hb => by rw [upd_ne (tup_ne_d hd0 hb)]; exact hb
    have bk3 : BK w (upd H2 d0 (.frz od (dictO w d0 (fr ke)))) U PN dk es := ix2.k.keep (F := fun c => c = d0) (Kp.put rfl) d0k.symm (fun x hx e => dk_ne hd0 (ix2.k.row x hx) e) fun b xs hb e => tup_ne_d hd0 hb e
    refine ⟨_, rfl, d0, od, fr ke, rfl, upd_same, for_nkeys (fun i σ H' => ∃ (y z : Option V) (es' : List KE), σ = [some (.ref p), some (.int n), some (.ref a), some (.ref f0), some (.ref d0), y, z] ∧ BK w H' U PN dk es' ∧
      (∀ k m, m ∈ look es' k ↔ m ∈ look es k ∧ ¬ (m = n ∧ k ∈ fk (ke.take i) ∧ k ∉ fk ps)) ∧ (∀ r ∈ es'.map (·.r), r ∈ es.map (·.r)) ∧ Kp (rowsF es dk) (upd H2 d0 (.frz od (dictO w d0 (fr ke)))) H') ?_ ?_ ?_ ?_⟩
    · refine ⟨none, none, es, rfl, bk3, fun k m => ⟨fun h => ⟨h, fun z => (nomatch z.2.1)⟩, fun h => h.1⟩, fun _ h => h, Kp.refl⟩
    · rintro i σ H' _ ⟨y, z, es', rfl, _, _, _, kk⟩
      exact kk _ _ upd_same d0r
    · rintro i x σ H' hx ⟨y, z, es', rfl, bk, sp, rs, kk⟩
      obtain ⟨kv, hkv, rfl⟩ := fr_at hx
      have tk : ∀ b xs, H2 b = some (.tup xs) → H' b = some (.tup xs) := fun b xs hb => kk _ _ (tr3 b xs hb) (tr b xs hb)
      have hf' : H' f0 = some (dictO w f0 (fr ps)) := kk _ _ (by rw [upd_ne d0f.symm]; exact hf2) f0r
      have hp' : H' p = some (.ins (He.ga K "Index") dx (ixF dn dk)) := kk _ _ (by rw [upd_ne d0p.symm]; exact ix2.p) pr
      have kve' : KV H' kv.1 kv.2 := (kve kv (List.mem_of_getElem? hkv)).keep tk
      refine ⟨_, rfl, _, rfl, f0, fr ps, kv.1.k, rfl, ⟨.inl hf', keys_fr fun p hp => (kvp2 p hp).keep tk⟩, kve'.at, _, rfl, ?_⟩
      rw [fr_isSome]
      refine ite2 (fun c => ?_) (fun c => ?_)
      · have c : kv.1 ∉ fk ps := by simpa using c
        have hmem : n ∈ look es' kv.1 := by
          rw [sp]
          refine ⟨(ix.two kv.1 n).mpr ?_, fun z => fk_not nke hkv z.2.1⟩
          rw [← eke]; exact List.mem_map_of_mem (List.mem_of_getElem? hkv)
        refine ⟨_, rfl, p, dx, ixF dn dk, rfl, hp', ixF_no dn dk (by decide +kernel) (by decide +kernel), _, rfl, _, rfl, p, dx, dn, dk, U, PN, es', kv.1, kv.2, n, rfl, un, hp', bk, kve', hmem, fun es'' H'' bk'' c1 c2 c3 c4 => ?_⟩
        refine ⟨_, _, es'', rfl, bk'', fun k m => ?_, fun r hr => rs r (c3 r hr), kk.trans (c4.mono ?_)⟩
        · rw [fk_take hkv]
          by_cases e : k = kv.1
          · subst e
            rw [c2, sp]
            constructor
            · rintro ⟨⟨h1, h2⟩, h3⟩; exact ⟨h1, fun z => h3 z.1⟩
            · rintro ⟨h1, h2⟩
              exact ⟨⟨h1, fun z => h2 ⟨z.1, .inl z.2.1, z.2.2⟩⟩, fun z => h2 ⟨z, .inr rfl, c⟩⟩
          · rw [c1 k e, sp]
            constructor
            · rintro ⟨h1, h2⟩
              refine ⟨h1, fun z => h2 ⟨z.1, ?_, z.2.2⟩⟩
              rcases z.2.1 with h | h
              · exact h
              · exact absurd h e
            · rintro ⟨h1, h2⟩
              exact ⟨h1, fun z => h2 ⟨z.1, .inl z.2.1, z.2.2⟩⟩
        · rintro b (h | h)
          · exact .inl h
          · exact .inr (rs b h)
      · have c : kv.1 ∈ fk ps := by simpa using c
        refine ⟨_, _, es', rfl, bk, fun k m => ?_, rs, kk⟩
        rw [fk_take hkv, sp]
        constructor
        · rintro ⟨h1, h2⟩
          refine ⟨h1, fun z => ?_⟩
          rcases z.2.1 with h | h
          · exact h2 ⟨z.1, h, z.2.2⟩
          · exact z.2.2 (h ▸ c)
        · rintro ⟨h1, h2⟩
          exact ⟨h1, fun z => h2 ⟨z.1, .inl z.2.1, z.2.2⟩⟩
    · rintro σ H' ⟨y, z, es1, rfl, bk, sp, rs, kk⟩
      rw [fr_len, List.take_length] at sp
      refine ⟨kk _ _ upd_same d0r, ?_⟩
      have kA : Kp (rowsF es dk) H2 (upd H' d0 (dictO w d0 (fr ke))) := Kp.lock hd0 kk
      have bkA : BK w (upd H' d0 (dictO w d0 (fr ke))) U PN dk es1 := bk.keep (F := fun c => c = d0) (Kp.put rfl) d0k.symm (fun x hx e => d0r (.inr (rs _ (by rw [← e]; exact List.mem_map_of_mem hx)))) fun b xs hb e => by
        have := kk _ _ upd_same d0r
        rw [← e, hb] at this; cases this
      have hdA : (upd H' d0 (dictO w d0 (fr ke))) d0 = some (dictO w d0 (fr ke)) := upd_same
      clear bk
      generalize upd H' d0 (dictO w d0 (fr ke)) = H4 at kA bkA hdA
      have hf4 : H4 f0 = some (dictO w f0 (fr ps)) := kA _ _ hf2 f0r
      have hp4 : H4 p = some (.ins (He.ga K "Index") dx (ixF dn dk)) := kA _ _ ix2.p pr
      have tk4 : ∀ b xs, H2 b = some (.tup xs) → H4 b = some (.tup xs) := fun b xs hb => kA _ _ hb (tr b xs hb)
      have sub1 : ∀ c, rowsF es1 dk c → rowsF es dk c := by
        rintro c (h | h)
        · exact .inl h
        · exact .inr (rs c h)
      have f1r : ¬ rowsF es1 dk f0 := fun h => f0r (sub1 _ h)
      have f0k : f0 ≠ dk := fun e => f0r (.inl e)
      refine ⟨f0, _, hf4, True.intro, fun of => ?_⟩
      have tr5 : ∀ b xs, H4 b = some (.tup xs) → (upd H4 f0 (.frz of (dictO w f0 (fr ps)))) b = some (.tup xs) := fun b xs hb => by rw [upd_ne (tup_ne_d hf4 hb)]; exact hb
      have bk5 : BK w (upd H4 f0 (.frz of (dictO w f0 (fr ps)))) U PN dk es1 := bkA.keep (F := fun c => c = f0) (Kp.put rfl) f0k.symm (fun x hx e => f1r (.inr (by rw [← e]; exact List.mem_map_of_mem hx))) fun b xs hb e => tup_ne_d hf4 hb e
      have tr1 : ∀ b xs, (upd H4 f0 (.frz of (dictO w f0 (fr ps)))) b = some (.tup xs) → ¬ rowsF es1 dk b := fun b xs hb => by
        rintro (h | h)
        · rw [h, bk5.d] at hb; cases hb
        · obtain ⟨x, hx, e⟩ := List.mem_map.mp h
          rw [← e, bk5.row x hx] at hb; cases hb
      refine ⟨_, rfl, f0, of, fr ps, rfl, upd_same, for_nkeys (fun i σ H' => ∃ (y z : Option V) (es' : List KE), σ = [some (.ref p), some (.int n), some (.ref a), some (.ref f0), some (.ref d0), y, z] ∧ BK w H' U PN dk es' ∧
        (∀ k m, m ∈ look es' k ↔ m ∈ look es1 k ∨ (m = n ∧ k ∈ fk (ps.take i) ∧ k ∉ fk ke)) ∧ (∀ r ∈ es'.map (·.r), r ∈ es1.map (·.r) ∨ (upd H4 f0 (.frz of (dictO w f0 (fr ps)))) r = none) ∧ (∀ r ∈ es1.map (·.r), r ∈ es'.map (·.r)) ∧ Kp (rowsF es1 dk) (upd H4 f0 (.frz of (dictO w f0 (fr ps)))) H') ?_ ?_ ?_ ?_⟩
      · refine ⟨_, _, es1, rfl, bk5, fun k m => ⟨.inl, fun h => ?_⟩, fun _ h => .inl h, fun _ h => h, Kp.refl⟩
        rcases h with h | h
        · exact h
        · exact (nomatch h.2.1)
      · rintro i σ H' _ ⟨y, z, es', rfl, _, _, _, _, kk⟩
        exact kk _ _ upd_same f1r
      · rintro i x σ H' hx ⟨y, z, es', rfl, bk, sp2, rs2, rs3, kk⟩
        obtain ⟨kv, hkv, rfl⟩ := fr_at hx
        have tk : ∀ b xs, H2 b = some (.tup xs) → H' b = some (.tup xs) := fun b xs hb => kk _ _ (tr5 b xs (tk4 b xs hb)) (tr1 b xs (tr5 b xs (tk4 b xs hb)))
        have d1r : ¬ rowsF es1 dk d0 := fun h => d0r (sub1 _ h)
        have hd' : H' d0 = some (dictO w d0 (fr ke)) := kk _ _ (by rw [upd_ne d0f]; exact hdA) d1r
        have hp' : H' p = some (.ins (He.ga K "Index") dx (ixF dn dk)) := kk _ _ (by rw [upd_ne f0p.symm]; exact hp4) fun h => pr (sub1 _ h)
        have kvp' : KV H' kv.1 kv.2 := (kvp2 kv (List.mem_of_getElem? hkv)).keep tk
        refine ⟨_, rfl, _, rfl, d0, fr ke, kv.1.k, rfl, ⟨.inl hd', keys_fr fun p hp => (kve p hp).keep tk⟩, kvp'.at, _, rfl, ?_⟩
        rw [fr_isSome]
        refine ite2 (fun c => ?_) (fun c => ?_)
        · have c : kv.1 ∉ fk ke := by simpa using c
          have kU : kv.1 ∈ U := pU _ (List.mem_map_of_mem (List.mem_of_getElem? hkv))
          have nmem : n ∉ look es' kv.1 := fun h => by
            rw [sp2] at h
            rcases h with h | h
            · rw [sp] at h
              have := (ix.two kv.1 n).mp h.1
              rw [← eke] at this
              exact c this
            · exact fk_not npk hkv h.2.1
          have spn : ∀ (es'' : List KE), (∀ k', k' ≠ kv.1 → look es'' k' = look es' k') → (∀ m, m ∈ look es'' kv.1 ↔ m ∈ look es' kv.1 ∨ m = n) → ∀ k m, m ∈ look es'' k ↔ m ∈ look es1 k ∨ (m = n ∧ k ∈ fk (ps.take (i + 1)) ∧ k ∉ fk ke) := fun es'' g1 g2 k m => by
            rw [fk_take hkv]
            by_cases e : k = kv.1
            · subst e
              rw [g2, sp2]
              constructor
              · rintro ((h | h) | h)
                · exact .inl h
                · exact .inr ⟨h.1, .inl h.2.1, h.2.2⟩
                · exact .inr ⟨h, .inr rfl, c⟩
              · rintro (h | h)
                · exact .inl (.inl h)
                · exact .inr h.1
            · rw [g1 k e, sp2]
              constructor
              · rintro (h | h)
                · exact .inl h
                · exact .inr ⟨h.1, .inl h.2.1, h.2.2⟩
              · rintro (h | h)
                · exact .inl h
                · refine .inr ⟨h.1, ?_, h.2.2⟩
                  rcases h.2.1 with z | z
                  · exact z
                  · exact absurd z e
          refine ⟨_, rfl, p, _, dx, _, _, rfl, hp', T.cl_Index, T.a_by_key, ixF_k dn dk, dk, rfl, ⟨_, bk.dn.r⟩, _, rfl, Nat.zero_le _, fun r0 nr0 => ?_⟩
          have bk6 := bk.keep (Kp.new (F := No) (o := .lst []) nr0) id (fun _ _ => id) fun _ _ _ => id
          have kv6 : KV (upd H' r0 (.lst [])) kv.1 kv.2 := kvp'.keep fun b xs e => up_some e nr0
          refine ⟨_, kv.1.k, bk6.dn, kv6.at, by rw [List.length_map]; exact Nat.lt_of_lt_of_le (by have := bk.len un; omega : es'.length < 2000) (by decide), fun pr hpr => ?_, fun hnone => ?_⟩
          · -- the key has a row
            rcases key_in (es := es') (k := kv.1) with ⟨x, hx, ek⟩ | h'
            rotate_left
            · rw [(es_none h').1] at hpr; cases hpr
            rw [← ek] at hpr nmem spn
            rw [(es_some bk.nk hx).1] at hpr
            cases hpr
            rw [(es_some bk.nk hx).2] at nmem
            have hrow := bk6.row x hx
            have so := bk.so x hx
            have xl : x.l.length ≤ 1000 := Nat.le_trans (so.len (bk.inP x hx)) un.p
            refine ⟨_, rfl, .inl ⟨rfl, _, SqL.of hrow⟩, _, rfl, _, rfl, n, x.r, x.l, rfl, hrow, so, by omega, fun j pj => ?_⟩
            refine ⟨_, rfl, x.r, _, j, .int n, rfl, rfl, hrow, by rw [List.length_map]; exact Nat.lt_of_lt_of_le (by omega : x.l.length < 2000) (by decide), by omega, by have := pj.1; omega, ?_⟩
            have em : (x.l.map V.int).take (j : Int).toNat ++ [V.int n] ++ (x.l.map V.int).drop (j : Int).toNat = (x.l.take j ++ [n] ++ x.l.drop j).map V.int := by
              rw [Int.toNat_natCast, List.map_append, List.map_append, List.map_take, List.map_drop]; rfl
            rw [em]
            have b7 := bk6.set hx (sorted_ins so pj nmem) (by simp) fun m hm => by
              rcases mem_ins.mp hm with h | h
              · exact bk.inP x hx m h
              · rw [h]; exact hn
            refine ⟨_, _, _, rfl, b7, spn _ (fun k' hk' => by rw [look_setl bk.nk ⟨x, hx, rfl⟩, if_neg hk']) (fun m => by rw [look_setl bk.nk ⟨x, hx, rfl⟩, if_pos rfl, mem_ins, (es_some bk.nk hx).2]), fun r hr => rs2 r (by rw [setl_r] at hr; exact hr), fun r hr => by rw [setl_r]; exact rs3 r hr, ?_⟩
            have kx : Kp (fun b => rowsF es1 dk b ∨ b = x.r) (upd H4 f0 (.frz of (dictO w f0 (fr ps)))) (upd (upd H' r0 (.lst [])) x.r (.lst ((x.l.take j ++ [n] ++ x.l.drop j).map V.int))) := ((kk.mono fun b h => .inl h).trans (Kp.new nr0)).trans (Kp.put (.inr rfl))
            refine kx.drop fun b h => ?_
            rcases h with h | h
            · exact .inl h
            · rcases rs2 x.r (List.mem_map_of_mem hx) with g | g
              · exact .inl (.inr (h ▸ g))
              · exact .inr (h ▸ g)
          · -- a new row
            have h' : ∀ x ∈ es', x.k ≠ kv.1 := fun x hx e => by
              rw [← e, (es_some bk.nk hx).1] at hnone; cases hnone
            have r0k : r0 ≠ dk := (ne_of_none bk.d nr0).symm
            have hr0 : (upd (upd H' r0 (.lst [])) dk (dictO w dk (storeN (es'.map KE.e) kv.1.k kv.2 (.ref r0)))) r0 = some (.lst (([] : List Int).map V.int)) := by rw [upd_ne r0k]; exact upd_same
            refine ⟨_, rfl, .inl ⟨rfl, _, SqL.of hr0⟩, _, rfl, _, rfl, n, r0, [], rfl, hr0, List.Pairwise.nil, by decide, fun j pj => ?_⟩
            have j0 : j = 0 := Nat.le_zero.mp pj.1
            subst j0
            refine ⟨_, rfl, r0, _, (0 : Nat), .int n, rfl, rfl, hr0, by decide, by decide, by decide, ?_⟩
            have b7 := bk.more (H1 := upd (upd (upd H' r0 (.lst [])) dk (dictO w dk (storeN (es'.map KE.e) kv.1.k kv.2 (.ref r0)))) r0 (.lst [.int n])) h' kvp' kU hn nr0 (((Kp.new nr0).trans (Kp.put (.inl rfl))).trans (Kp.put (.inr rfl)))
              (by rw [upd_ne r0k.symm, upd_same, storeN_new (es_none h').1]) upd_same
            have r0n : (upd H4 f0 (.frz of (dictO w f0 (fr ps)))) r0 = none := kk.nil nr0 fun h => by
              rcases h with h | h
              · exact r0k h
              · obtain ⟨x, hx, e⟩ := List.mem_map.mp (rs3 _ h)
                have := bk.row x hx
                rw [e, nr0] at this; cases this
            refine ⟨_, _, _, rfl, b7, spn _ (fun k' hk' => by rw [look_snoc bk.nk h', if_neg hk']) (fun m => by rw [look_snoc bk.nk h', if_pos rfl, (es_none h').2]; simp), fun r hr => ?_, fun r hr => ?_, ?_⟩
            · rw [List.map_append, List.mem_append] at hr
              rcases hr with hr | hr
              · exact rs2 r hr
              · have : r = r0 := by simpa using hr
                subst this
                exact .inr r0n
            · rw [List.map_append]; exact List.mem_append_left _ (rs3 r hr)
            · have kx : Kp (fun b => rowsF es1 dk b ∨ b = r0) (upd H4 f0 (.frz of (dictO w f0 (fr ps)))) (upd (upd (upd H' r0 (.lst [])) dk (dictO w dk (storeN (es'.map KE.e) kv.1.k kv.2 (.ref r0)))) r0 (.lst [.int n])) :=
                (((kk.mono fun b h => .inl h).trans (Kp.new nr0)).trans (Kp.put (.inl (.inl rfl)))).trans (Kp.put (.inr rfl))
              refine kx.drop fun b h => ?_
              rcases h with h | h
              · exact .inl h
              · exact .inr (h ▸ r0n)
        · have c : kv.1 ∈ fk ke := by simpa using c
          refine ⟨_, _, es', rfl, bk, fun k m => ?_, rs2, rs3, kk⟩
          rw [fk_take hkv, sp2]
          constructor
          · rintro (h | h)
            · exact .inl h
            · exact .inr ⟨h.1, .inl h.2.1, h.2.2⟩
          · rintro (h | h)
            · exact .inl h
            · refine .inr ⟨h.1, ?_, h.2.2⟩
              rcases h.2.1 with z | z
              · exact z
              · exact absurd c (z ▸ h.2.2)
      · rintro σ H' ⟨y, z, es2, rfl, bk, sp2, rs2, rs3, kk⟩
        rw [fr_len, List.take_length] at sp2
        refine ⟨kk _ _ upd_same f1r, ?_⟩
        have kB : Kp (rowsF es1 dk) H4 (upd H' f0 (dictO w f0 (fr ps))) := Kp.lock hf4 kk
        have f2r : ∀ x ∈ es2, x.r ≠ f0 := fun x hx e => by
          rcases rs2 _ (List.mem_map_of_mem hx) with h | h
          · exact f1r (.inr (e ▸ h))
          · rw [e, upd_same] at h; cases h
        have bkB : BK w (upd H' f0 (dictO w f0 (fr ps))) U PN dk es2 := bk.keep (F := fun c => c = f0) (Kp.put rfl) f0k.symm f2r fun b xs hb e => by
          have := kk _ _ upd_same f1r
          rw [← e, hb] at this; cases this
        clear bk
        generalize upd H' f0 (dictO w f0 (fr ps)) = H6 at kB bkB
        have k6 : Kp (rowsF es dk) H H6 := ((No.all k2).trans kA).trans (kB.mono sub1)
        have k26 : Kp (rowsF es dk) H2 H6 := kA.trans (kB.mono sub1)
        have hf6 : H6 f0 = some (dictO w f0 (fr ps)) := k26 _ _ hf2 f0r
        have hp6 : H6 p = some (.ins (He.ga K "Index") dx (ixF dn dk)) := k26 _ _ ix2.p pr
        have dnr : ¬ rowsF es dk dn := by
          rintro (h | h)
          · exact ix.nk h
          · obtain ⟨x, hx, e⟩ := List.mem_map.mp h
            exact dk_ne ix.n.d (ix.k.row x hx) e
        have ndr : ∀ x ∈ ns, ¬ rowsF es dk x.d := fun x hx => by
          rintro (h | h)
          · exact ix.vk x hx h
          · obtain ⟨y, hy, e⟩ := List.mem_map.mp h
            exact dk_ne (ix.n.v x hx) (ix.k.row y hy) e
        have bn6 : BN w H6 U PN dn ns := ix2.n.keep k26 dnr ndr tr
        have hF1 : ∀ b, rowsF es dk b → Ft b := fun b h => (hF b).mpr (h.elim (fun z => .inr (.inl z)) fun z => .inr (.inr (.inl z)))
        have hFn : Ft dn := (hF dn).mpr (.inl rfl)
        have f0n : f0 ≠ dn := fun e => by rw [e, ix.n.d] at nf0; cases nf0
        have f0v : ∀ x ∈ ns, x.d ≠ f0 := fun x hx => ne_of_none (ix.n.v x hx) nf0
        have row2 : ∀ r ∈ es2.map (·.r), Ft r ∨ H r = none := fun r hr => by
          rcases rs2 r hr with h | h
          · exact .inl (hF1 r (.inr (rs r h)))
          · by_cases c : rowsF es dk r
            · exact .inl (hF1 r c)
            · have e1 : r ≠ f0 := fun e => by rw [e, upd_same] at h; cases h
              rw [upd_ne e1] at h
              exact .inr (((No.all k2).trans kA).nil h c)
        have lk2 : ∀ k m, m ∈ look es2 k ↔ if m = n then k ∈ fk ps else k ∈ keysOf ns m := fun k m => by
          rw [sp2, sp, ix.two]
          by_cases e : m = n
          · subst e
            rw [if_pos rfl, ← eke]
            by_cases c1 : k ∈ fk ke <;> by_cases c2 : k ∈ fk ps <;> simp [c1, c2]
          · rw [if_neg e]
            simp [e]
        have fin : ∀ ns' H', BN w H' U PN dn ns' → H' = upd H6 dn (dictO w dn (ns'.map NE.e)) → (∀ m, keysOf ns' m = if m = n then fk ps else keysOf ns m) → (∀ x ∈ ns', x.d = f0 ∨ x ∈ ns) → Q (.bl true) H' := fun ns' H' bn e1 e2 e3 => by
          have k7 : Kp Ft H H' := by
            rw [e1]
            exact (k6.mono hF1).trans (Kp.put hFn)
          have bk7 : BK w H' U PN dk es2 := by
            rw [e1]
            exact bkB.keep (F := fun c => c = dn) (Kp.put rfl) ix.nk.symm (fun x hx e => dk_ne bn6.d (bkB.row x hx) e) fun b xs hb e => tup_ne_d bn6.d hb e
          have := q H' (foot dn dk ns' es2) ⟨dx, dn, dk, ns', es2, ⟨by rw [e1, upd_ne fun e => by rw [e, bn6.d] at hp6; cases hp6]; exact hp6, bn, bk7, ix.nk, fun x hx => ?_, fun k m => ?_⟩, fun _ => Iff.rfl, fun m k => ?_⟩ (fun c hc => ?_) k7
          · rw [c] at this; exact (show Q (.bl true) H' from this)
          · rcases e3 x hx with h | h
            · rw [h]; exact f0k
            · exact ix.vk x h
          · rw [lk2, e2]
            by_cases e : m = n
            · rw [if_pos e, if_pos e]
            · rw [if_neg e, if_neg e]
          · show k ∈ keysOf ns' m ↔ k ∈ (if m = n then ks else T' m)
            rw [e2]
            by_cases e : m = n
            · rw [if_pos e, if_pos e]; exact dfk k
            · rw [if_neg e, if_neg e]; exact hT m k
          · rcases hc with h | h | h | h
            · exact .inl (h ▸ hFn)
            · exact .inl (h ▸ hF1 dk (.inl rfl))
            · exact row2 c h
            · obtain ⟨x, hx, rfl⟩ := List.mem_map.mp h
              rcases e3 x hx with h | h
              · exact .inr (h ▸ nf0)
              · exact .inl ((hF _).mpr (.inr (.inr (.inr (List.mem_map_of_mem h)))))
        have lns := bn6.len un
        refine ⟨_, rfl, f0, fr ps, rfl, ⟨.inl hf6, keys_fr fun p hp => (kvp2 p hp).keep fun b xs hb => k26 _ _ hb (tr b xs hb)⟩, ?_⟩
        refine ite2 (fun cc => ?_) (fun cc => ?_)
        · have pne : ps ≠ [] := fun e => by rw [e] at cc; cases cc
          refine ⟨_, rfl, _, rfl, p, _, dx, _, _, rfl, hp6, T.cl_Index, T.a_by_number, ixF_n dn dk, _, rfl, dn, _, .num n, rfl, bn6.dn', KAt.int n, by rw [List.length_map]; exact Nat.lt_of_lt_of_le (by omega : ns.length < 2000) (by decide), ?_⟩
          have bn7 := bn6.put (n := n) hf6 (fun p hp => (kvp2 p hp).keep fun b xs hb => k26 _ _ hb (tr b xs hb)) npk pne pU hn f0n f0v
          refine fin (putn ns n f0 ps) _ bn7 (by rw [putn_e ix.n.nn]) (fun m => keysOf_put ix.n.nn m) fun x hx => ?_
          rcases mem_putn hx with h | h
          · exact .inl (by rw [h])
          · exact .inr h.1
        · have pe : ps = [] := by
            cases ps with
            | nil => rfl
            | cons x r => exact absurd rfl cc
          have kne : keysOf ns n ≠ [] := fun e => by
            have : sameK (fk ps) (fk ke) = true := by rw [eke, e, pe]; rfl
            rw [hse, c] at this; cases this
          have hin : (atN (ns.map NE.e) (.num n)).isSome = true := by
            rcases num_in ns n with ⟨x, hx, e⟩ | h
            · rw [← e, (ns_some ix.n.nn hx).1]; rfl
            · exact absurd (ns_none h).2 kne
          refine ⟨_, rfl, p, _, dx, _, _, rfl, hp6, T.cl_Index, T.a_by_number, ixF_n dn dk, _, rfl, dn, _, .num n, rfl, bn6.dn', KAt.int n, hin, ?_⟩
          refine fin (cutn ns n) _ (bn6.cut n) (by rw [cutn_e]) (fun m => by rw [keysOf_cut ix.n.nn m, pe]; rfl) fun x hx => .inr (List.mem_filter.mp hx).1
end
end K50

set_option Elab.async false
set_option linter.all false
set_option maxRecDepth 100000
set_option maxHeartbeats 4000000
namespace K50
open PySem PySem.Spec L2 ND
open PySem.W (AllAlike Sortable dataLe alike)
section
variable {X : Cx} {o i e f : Expr} {pos apos cpos : Pos} {td ty tz : TE} {w : World}
theorem pe_ngetW (hw : X.w = w) (hu : X.A.units + 9 < cLine) (ho : PE X o td) (hi : PE X i ty) (hs : NoSl i) : PE X (.Subscript o i pos) (tNGet w td ty) := by
  subst hw
  exact pe_nget hu ho hi hs
theorem pe_nget2W (hw : X.w = w) (hu : X.A.units + 9 < cLine) (ho : PE X o td) (he : PE X e ty) (hf : PE X f tz) (m : M2 X o "get" apos e f cpos) : PE X (.Call (.Attribute o "get" apos) [e, f] [] cpos) (tNGet2 w td ty tz) := by
  subst hw
  exact pe_nget2 hu ho he hf m
end
/-! ### sorted -/
abbrev leK : Ky → Ky → Bool := dataLe false Ky.d
theorem kvs_of : ∀ {H : Hp} {l : List (V × Ky)}, (∀ z ∈ l, KV H z.2 z.1) → KVs H (l.map (·.2)) (l.map (·.1))
  | _, [], _ => .nil
  | _, z :: l, h => .cons (h z List.mem_cons_self) (kvs_of fun y hy => h y (List.mem_cons_of_mem _ hy))
theorem zip_kv {H : Hp} {ks : List Ky} {us : List V} (h : KVs H ks us) : ∀ z ∈ us.zip ks, KV H z.2 z.1 := fun z hz => by
  obtain ⟨j, hj⟩ := List.mem_iff_getElem?.mp hz
  rw [List.getElem?_zip_eq_some] at hj
  obtain ⟨k', hk', r⟩ := h.get hj.1
  rw [hj.2] at hk'
  cases hk'
  exact r
theorem sort_keys {H : Hp} {ks : List Ky} {us : List V} (h : KVs H ks us) : KVs H (ks.mergeSort leK) (((us.zip (ks.map Ky.d)).mergeSort (dataLe false fun z => z.2)).map fun z => z.1) := by
  have e1 : us.zip (ks.map Ky.d) = (us.zip ks).map (fun z => (z.1, z.2.d)) := by
    rw [List.zip_map_right]; rfl
  have e2 : ((us.zip ks).mergeSort fun a b => leK a.2 b.2).map (fun z => (z.1, z.2.d)) = (us.zip (ks.map Ky.d)).mergeSort (dataLe false fun z => z.2) := by
    rw [e1]
    exact List.map_mergeSort fun _ _ _ _ => rfl
  have e3 : ((us.zip ks).mergeSort fun a b => leK a.2 b.2).map (·.2) = ((us.zip ks).map (·.2)).mergeSort leK := List.map_mergeSort fun _ _ _ _ => rfl
  rw [List.map_snd_zip (by rw [h.len]; exact Nat.le_refl _)] at e3
  rw [← e2, ← e3, List.map_map]
  exact kvs_of fun z hz => zip_kv h z ((List.mergeSort_perm _ _).mem_iff.mp hz)
theorem sort_ints {ns l : List Int} (n : ns.Nodup) (h : Sorted l) (e : ∀ x, x ∈ l ↔ x ∈ ns) : ((((ns.map V.int).zip (ns.map PyData.int)).mergeSort (dataLe false fun z => z.2)).map fun z => z.1) = l.map V.int := by
  have e1 : (ns.map V.int).zip (ns.map PyData.int) = ns.map (fun z => (V.int z, PyData.int z)) := by rw [List.zip_map']
  have e2 : (ns.mergeSort (dataLe false PyData.int)).map (fun z => (V.int z, PyData.int z)) = (ns.map (fun z => (V.int z, PyData.int z))).mergeSort (dataLe false fun z => z.2) := List.map_mergeSort fun _ _ _ _ => rfl
  rw [e1, ← e2, List.map_map]
  have e3 : ns.mergeSort (dataLe false PyData.int) = l := by
    have p := List.mergeSort_perm ns (dataLe false PyData.int)
    have s1 : (ns.mergeSort (dataLe false PyData.int)).Pairwise fun a b => dataLe false PyData.int a b = true := PySem.W.sort_pairwise (PySem.W.sortLe_total _ _ _) ns
    have s2 : (ns.mergeSort (dataLe false PyData.int)).Pairwise fun a b => a ≤ b := s1.imp fun {a b} h => by
      have := PySem.W.dataLe_int (β := Int) id
      have h2 : dataLe false (fun b => PyData.int (id b)) a b = true := h
      rw [this] at h2
      exact of_decide_eq_true h2
    have n2 : (ns.mergeSort (dataLe false PyData.int)).Nodup := p.nodup_iff.mpr n
    refine sorted_one ((s2.and n2).imp fun {a b} h => ?_) h fun x => by rw [p.mem_iff, e]
    have := h.1
    have := h.2
    omega
  rw [e3]; rfl
theorem alike_ints (ns : List Int) : AllAlike (ns.map PyData.int) := fun d hd d' hd' => by
  obtain ⟨x, _, rfl⟩ := List.mem_map.mp hd
  obtain ⟨y, _, rfl⟩ := List.mem_map.mp hd'
  rfl
theorem sortable_ints (ns : List Int) : Sortable (ns.map PyData.int) := .inr fun d hd => by
  obtain ⟨x, _, rfl⟩ := List.mem_map.mp hd
  exact ⟨fun h => (nomatch h), fun _ h => (nomatch h)⟩
theorem depth_ints (ns : List Int) : ∀ d ∈ ns.map PyData.int, d.depth ≤ 40 := fun d hd => by
  obtain ⟨x, _, rfl⟩ := List.mem_map.mp hd
  exact Nat.zero_le _
/-! ### the tellings -/
def lead (z : Str) : Ky → Bool
  | .t (.s x :: _) => decide (x = z)
  | _ => false
theorem look_sorted {w : World} {H : Hp} {U : List Ky} {PN : List Int} {dk : Addr} {es : List KE} (b : BK w H U PN dk es) (k : Ky) : Sorted (look es k) := by
  rcases key_in (es := es) (k := k) with ⟨x, hx, rfl⟩ | h
  · rw [(es_some b.nk hx).2]; exact b.so x hx
  · rw [(es_none h).2]; exact .nil
def spNums (w : World) (K : PySem.W.Frag) : Sp := fun vs H Q _ => ∃ (p : Addr) (v : V) (k : Ky) (U : List Ky) (PN : List Int) (F : Addr → Prop) (T : Int → List Ky), vs = [.ref p, v] ∧ Un U PN ∧ Ix w K H U PN p F T ∧ KV H k v ∧
  ∀ (l : List Int) (q : Addr) (H' : Hp), Sorted l → (∀ m, m ∈ l ↔ k ∈ T m) → (∀ m ∈ l, m ∈ PN) → H q = none → Kp No H H' → H' q = some (.lst (l.map V.int)) → Q (.ref q) H'
def spHow (w : World) (K : PySem.W.Frag) : Sp := fun vs H Q _ => ∃ (p : Addr) (v : V) (k : Ky) (U : List Ky) (PN : List Int) (F : Addr → Prop) (T : Int → List Ky), vs = [.ref p, v] ∧ Un U PN ∧ Ix w K H U PN p F T ∧ KV H k v ∧
  ∀ (l : List Int) (H' : Hp), Sorted l → (∀ m, m ∈ l ↔ k ∈ T m) → Kp No H H' → Q (.int l.length) H'
def spAll (w : World) (K : PySem.W.Frag) : Sp := fun vs H Q _ => ∃ (p : Addr) (z : Str) (U : List Ky) (PN : List Int) (F : Addr → Prop) (T : Int → List Ky), vs = [.ref p, .str z] ∧ PyData.strOk z = true ∧ Un U PN ∧ Ix w K H U PN p F T ∧
  (∀ a ∈ U, ∀ b ∈ U, lead z a = true → lead z b = true → alike a.d b.d = true) ∧
  ∀ (l : List Ky) (us : List V) (q : Addr) (H' : Hp), l.Nodup → (∀ k, k ∈ l ↔ lead z k = true ∧ ∃ n, k ∈ T n) → (∀ k ∈ l, k ∈ U) → KVs H' (l.mergeSort leK) us → H q = none → Kp No H H' → H' q = some (.lst us) → Q (.ref q) H'
def spIn (w : World) (K : PySem.W.Frag) : Sp := fun vs H Q _ => ∃ (p : Addr) (n : Int) (U : List Ky) (PN : List Int) (F : Addr → Prop) (T : Int → List Ky), vs = [.ref p, .int n] ∧ Ix w K H U PN p F T ∧ Q (.bl (!(T n).isEmpty)) H
def spLen (w : World) (K : PySem.W.Frag) : Sp := fun vs H Q _ => ∃ (p : Addr) (U : List Ky) (PN : List Int) (F : Addr → Prop) (T : Int → List Ky), vs = [.ref p] ∧ PN.Nodup ∧ Un U PN ∧ Ix w K H U PN p F T ∧ Q (.int (PN.filter fun n => !(T n).isEmpty).length) H
def spEq (w : World) (K : PySem.W.Frag) : Sp := fun vs H Q _ => ∃ (p : Addr) (U : List Ky) (PN : List Int) (F : Addr → Prop) (T : Int → List Ky), Un U PN ∧ Ix w K H U PN p F T ∧
  ((∃ (p' : Addr) (F' : Addr → Prop) (T' : Int → List Ky), vs = [.ref p, .ref p'] ∧ Ix w K H U PN p' F' T' ∧ Q (.bl (PN.all fun n => sameK (T n) (T' n))) H) ∨
    ∃ d xs, vs = [.ref p, .ref d] ∧ DNr w H d xs ∧ Q (.bl false) H)
theorem keysOf_ne {ns : List NE} (nn : (ns.map (·.n)).Nodup) (ne : ∀ x ∈ ns, x.ks ≠ []) (n : Int) : (atN (ns.map NE.e) (.num n)).isSome = !(keysOf ns n).isEmpty := by
  rcases num_in ns n with ⟨x, hx, rfl⟩ | h
  · rw [(ns_some nn hx).1, (ns_some nn hx).2]
    have := ne x hx
    cases q : x.ks with
    | nil => exact absurd q this
    | cons a r => rfl
  · rw [(ns_none h).1, (ns_none h).2]; rfl
theorem empty_iff {a b : List Ky} (h : ∀ k, k ∈ a ↔ k ∈ b) : a.isEmpty = b.isEmpty := by
  cases a with
  | nil => cases b with
    | nil => rfl
    | cons x b => exact absurd ((h x).mpr List.mem_cons_self) (by simp)
  | cons x a => cases b with
    | nil => exact absurd ((h x).mp List.mem_cons_self) (by simp)
    | cons y b => rfl
section
variable {P : Program} {w : World} {K : PySem.W.Frag} {mg : Str → Option Value} {base : Heap} {D : Nat → FuncData}
theorem row_of {w : World} {H : Hp} {U : List Ky} {PN : List Int} {dk : Addr} {es : List KE} (b : BK w H U PN dk es) (k : Ky) (e0 : Addr) (he : H e0 = some (.lst [])) :
    ∃ r, (((atN (es.map KE.e) k.k).map (·.2)).getD (.ref e0)) = V.ref r ∧ H r = some (.lst ((look es k).map V.int)) ∧ ∀ m ∈ look es k, m ∈ PN := by
  rcases key_in (es := es) (k := k) with ⟨x, hx, rfl⟩ | h
  · rw [(es_some b.nk hx).1, (es_some b.nk hx).2]
    exact ⟨x.r, rfl, b.row x hx, b.inP x hx⟩
  · rw [(es_none h).1, (es_none h).2]
    exact ⟨e0, rfl, he, fun _ h => (nomatch h)⟩
theorem ok_Index_numbers_of (T : Txt K mg D) : FnOk P w K mg base CX0 1 (He.ma K (He.ga K "Index") "numbers_of") (D 4) P_Index_numbers_of (spNums w K) := by
  refine T.F_Index_numbers_of.ok sc_Index_numbers_of (fun vs H Q E h => ?_) (fun cdv A outer s H vs Q E hr h => ?_)
  · obtain ⟨p, v, k, U, PN, F, T', rfl, _⟩ := h
    rfl
  · obtain ⟨p, v, k, U, PN, Ft, T', rfl, un, ⟨dx, dn, dk, ns, es, ix, hF, hT⟩, hv, q⟩ := h
    have nd := sc_Index_numbers_of.nd
    refine ⟨_, PSs.nox ((pss_one (ps_ret (pe_callTy call_list_of (by rfl) T.n_list (by decide +kernel) (pa_cons (pe_nget2 (u9 hr) (pe_fld (pv 0) rfl) (pv 1) (pe_lst pa_nil) ⟨rfl, rfl, rfl, rfl⟩) pa_nil))))), ?_⟩
    dsimp only [cxOf, Cx.nox, Cx.wish]
    refine ⟨_, rfl, p, _, dx, _, _, rfl, ix.p, T.cl_Index, T.a_by_key, ixF_k dn dk, dk, rfl, ⟨_, ix.k.dn.r⟩, _, rfl, Nat.zero_le _, fun e ne => ?_⟩
    have bk := ix.k.keep (Kp.new (F := No) (o := .lst []) ne) id (fun _ _ => id) fun _ _ _ => id
    obtain ⟨r, er, hr, hp⟩ := row_of bk k e upd_same
    refine ⟨_, k.k, bk.dn.r, (hv.keep fun b xs h => up_some h ne).at, ?_⟩
    rw [er]
    refine ⟨r, _, rfl, .inl (SqL.of hr), fun l nl => ?_⟩
    have k1 : Kp No H (upd (upd H e (.lst [])) l (.lst ((look es k).map V.int))) := (Kp.new ne).trans (Kp.new nl)
    exact q (look es k) l _ (look_sorted bk k) (fun m => (ix.two k m).trans (hT m k)) hp ((Kp.new (F := No) (o := .lst []) ne).nil nl id) k1 upd_same
theorem ok_Index_how_many (T : Txt K mg D) : FnOk P w K mg base CX0 1 (He.ma K (He.ga K "Index") "how_many") (D 5) P_Index_how_many (spHow w K) := by
  refine T.F_Index_how_many.ok sc_Index_how_many (fun vs H Q E h => ?_) (fun cdv A outer s H vs Q E hr h => ?_)
  · obtain ⟨p, v, k, U, PN, F, T', rfl, _⟩ := h
    rfl
  · obtain ⟨p, v, k, U, PN, Ft, T', rfl, un, ⟨dx, dn, dk, ns, es, ix, hF, hT⟩, hv, q⟩ := h
    have nd := sc_Index_how_many.nd
    refine ⟨_, PSs.nox ((pss_one (ps_ret (pe_callB call_len (by rfl) T.n_len (by decide +kernel) (pa_cons (pe_nget2 (u9 hr) (pe_fld (pv 0) rfl) (pv 1) (pe_lst pa_nil) ⟨rfl, rfl, rfl, rfl⟩) pa_nil))))), ?_⟩
    dsimp only [cxOf, Cx.nox, Cx.wish]
    refine ⟨_, rfl, p, _, dx, _, _, rfl, ix.p, T.cl_Index, T.a_by_key, ixF_k dn dk, dk, rfl, ⟨_, ix.k.dn.r⟩, _, rfl, Nat.zero_le _, fun e ne => ?_⟩
    have bk := ix.k.keep (Kp.new (F := No) (o := .lst []) ne) id (fun _ _ => id) fun _ _ _ => id
    obtain ⟨r, er, hr, hp⟩ := row_of bk k e upd_same
    refine ⟨_, k.k, bk.dn.r, (hv.keep fun b xs h => up_some h ne).at, ?_⟩
    rw [er]
    refine ⟨_, (look es k).length, rfl, Or.inl ⟨_, SqL.of hr, by rw [List.length_map]⟩, ?_⟩
    exact q (look es k) _ (look_sorted bk k) (fun m => (ix.two k m).trans (hT m k)) (Kp.new ne)
theorem ok_Index_contains (T : Txt K mg D) : FnOk P w K mg base CX0 1 (He.ma K (He.ga K "Index") "__contains__") (D 7) P_Index_contains (spIn w K) := by
  refine T.F_Index_contains.ok sc_Index_contains (fun vs H Q E h => ?_) (fun cdv A outer s H vs Q E hr h => ?_)
  · obtain ⟨p, n, U, PN, F, T', rfl, _⟩ := h
    rfl
  · obtain ⟨p, n, U, PN, Ft, T', rfl, ⟨dx, dn, dk, ns, es, ix, hF, hT⟩, q⟩ := h
    have nd := sc_Index_contains.nd
    refine ⟨_, PSs.nox ((pss_one (ps_ret (pe_cmp (pc_nin (u9 hr) (pv 1) (pe_fld (pv 0) rfl)) rfl)))), ?_⟩
    dsimp only [cxOf, Cx.nox, Cx.wish]
    refine ⟨_, rfl, _, rfl, p, _, dx, _, _, rfl, ix.p, T.cl_Index, T.a_by_number, ixF_n dn dk, dn, _, .num n, rfl, ix.n.dn'.r, KAt.int n, ?_⟩
    rw [keysOf_ne ix.n.nn ix.n.ne, empty_iff (hT n)]
    exact q
theorem ok_Index_len (T : Txt K mg D) : FnOk P w K mg base CX0 1 (He.ma K (He.ga K "Index") "__len__") (D 8) P_Index_len (spLen w K) := by
  refine T.F_Index_len.ok sc_Index_len (fun vs H Q E h => ?_) (fun cdv A outer s H vs Q E hr h => ?_)
  · obtain ⟨p, U, PN, F, T', rfl, _⟩ := h
    rfl
  · obtain ⟨p, U, PN, Ft, T', rfl, pn, un, ⟨dx, dn, dk, ns, es, ix, hF, hT⟩, q⟩ := h
    have nd := sc_Index_len.nd
    refine ⟨_, PSs.nox ((pss_one (ps_ret (pe_callB call_nlen (by rfl) T.n_len (by decide +kernel) (pa_cons (pe_fld (pv 0) rfl) pa_nil))))), ?_⟩
    dsimp only [cxOf, Cx.nox, Cx.wish]
    refine ⟨_, rfl, p, _, dx, _, _, rfl, ix.p, T.cl_Index, T.a_by_number, ixF_n dn dk, dn, _, rfl, ix.n.dn'.r, ?_⟩
    have e1 : ∀ n, n ∈ ns.map (·.n) ↔ n ∈ PN.filter fun n => !(T' n).isEmpty := fun n => by
      rw [List.mem_filter, ← empty_iff (hT n), ← keysOf_ne ix.n.nn ix.n.ne]
      constructor
      · intro h
        obtain ⟨x, hx, rfl⟩ := List.mem_map.mp h
        exact ⟨ix.n.inP x hx, by rw [(ns_some ix.n.nn hx).1]; rfl⟩
      · rintro ⟨_, h⟩
        rcases num_in ns n with ⟨x, hx, rfl⟩ | h'
        · exact List.mem_map_of_mem hx
        · rw [(ns_none h').1] at h; cases h
    have l1 := sub_len ix.n.nn fun x hx => (e1 x).mp hx
    have l2 := sub_len (List.Pairwise.sublist List.filter_sublist pn) fun x hx => (e1 x).mpr hx
    rw [List.length_map] at l1 l2
    have e : (ns.map NE.e).length = (PN.filter fun n => !(T' n).isEmpty).length := by rw [List.length_map]; omega
    rw [e]
    exact q
end
end K50

set_option Elab.async false
set_option linter.all false
set_option maxRecDepth 100000
set_option maxHeartbeats 4000000
namespace K50
open PySem PySem.Spec L2 ND
open PySem.W (AllAlike Sortable dataLe alike)
theorem ev_true0 {w : World} {H : Hp} {a b : List (Ky × V)} : ∀ p ∈ fr a, ∀ q, atN (fr b) p.1 = some q → EvOk w H 0 p.2.2 q.2 ((fun _ _ => true) p.2.2 q.2) := fun p hp q hq => by
  obtain ⟨x, _, rfl⟩ := List.mem_map.mp hp
  obtain ⟨j, hj⟩ := atN_get hq
  obtain ⟨y, _, e⟩ := List.mem_map.mp (List.mem_of_getElem? hj)
  have e2 : q.2 = .bl true := by
    have := congrArg (fun z : EntV => z.2.2) e
    exact this.symm
  rw [e2]
  have kb : KAt H (.num 1) (.bl true) := ⟨.bool true, by simp [NestedKey.depth]⟩
  exact ⟨.num 1, .num 1, kb, kb, by simp⟩
theorem nd_inj {ns : List NE} (n : (ns.map (·.d)).Nodup) {x y : NE} (hx : x ∈ ns) (hy : y ∈ ns) (e : x.d = y.d) : x = y := by
  induction ns with
  | nil => cases hx
  | cons z es ih =>
    rw [List.map_cons, List.nodup_cons] at n
    rcases List.mem_cons.mp hx with a | a <;> rcases List.mem_cons.mp hy with b | b
    · rw [a, b]
    · subst a; exact absurd (List.mem_map.mpr ⟨y, b, e.symm⟩) n.1
    · subst b; exact absurd (List.mem_map.mpr ⟨x, a, e⟩) n.1
    · exact ih n.2 a b
def evN (ns ms : List NE) : V → V → Bool := fun u v => ns.any fun x => ms.any fun y => decide (u = .ref x.d) && (decide (v = .ref y.d) && sameK (fk x.ks) (fk y.ks))
theorem evN_at {ns ms : List NE} (n1 : (ns.map (·.d)).Nodup) (n2 : (ms.map (·.d)).Nodup) {x y : NE} (hx : x ∈ ns) (hy : y ∈ ms) : evN ns ms (.ref x.d) (.ref y.d) = sameK (fk x.ks) (fk y.ks) := by
  unfold evN
  rw [Bool.eq_iff_iff, List.any_eq_true]
  constructor
  · rintro ⟨x', hx', h⟩
    obtain ⟨y', hy', h⟩ := List.any_eq_true.mp h
    rw [Bool.and_eq_true, Bool.and_eq_true, decide_eq_true_iff, decide_eq_true_iff] at h
    obtain ⟨h1, h2, h3⟩ := h
    have e1 := nd_inj n1 hx hx' (V.ref.inj h1)
    have e2 := nd_inj n2 hy hy' (V.ref.inj h2)
    rw [e1, e2]; exact h3
  · intro h
    refine ⟨x, hx, List.any_eq_true.mpr ⟨y, hy, ?_⟩⟩
    rw [Bool.and_eq_true, Bool.and_eq_true, decide_eq_true_iff, decide_eq_true_iff]
    exact ⟨rfl, rfl, h⟩
theorem at_ns {ms : List NE} (nn : (ms.map (·.n)).Nodup) {n : Int} {q : V × V} (h : atN (ms.map NE.e) (.num n) = some q) : ∃ y ∈ ms, y.n = n ∧ q = (.int y.n, .ref y.d) := by
  rcases num_in ms n with ⟨y, hy, rfl⟩ | h'
  · rw [(ns_some nn hy).1] at h
    exact ⟨y, hy, rfl, (Option.some.inj h).symm⟩
  · rw [(ns_none h').1] at h; cases h
theorem sameK_congr {a b c d : List Ky} (h : ∀ k, k ∈ a ↔ k ∈ c) (g : ∀ k, k ∈ b ↔ k ∈ d) : sameK a b = sameK c d := by
  rw [Bool.eq_iff_iff, sameK_iff, sameK_iff]
  constructor
  · intro e k; rw [← h k, ← g k]; exact e k
  · intro e k; rw [h k, g k]; exact e k
theorem eqD_ns {w : World} {H : Hp} {U : List Ky} {PN : List Int} {dn dm : Addr} {ns ms : List NE} (b1 : BN w H U PN dn ns) (b2 : BN w H U PN dm ms) : eqD (evN ns ms) (ns.map NE.e) (ms.map NE.e) = PN.all fun n => sameK (keysOf ns n) (keysOf ms n) := by
  have e1 : ((ns.map NE.e).all fun x => match atN (ms.map NE.e) x.1 with | none => false | some q => evN ns ms x.2.2 q.2) = true ↔ ∀ x ∈ ns, ∃ y ∈ ms, y.n = x.n ∧ sameK (fk x.ks) (fk y.ks) = true := by
    rw [List.all_map, List.all_eq_true]
    refine forall_congr' fun x => forall_congr' fun hx => ?_
    show (match atN (ms.map NE.e) (.num x.n) with | none => false | some q => evN ns ms (.ref x.d) q.2) = true ↔ _
    rcases num_in ms x.n with ⟨y, hy, e⟩ | h'
    · rw [← e, (ns_some b2.nn hy).1]
      show evN ns ms (.ref x.d) (.ref y.d) = true ↔ _
      rw [evN_at b1.nd b2.nd hx hy]
      constructor
      · exact fun h => ⟨y, hy, rfl, h⟩
      · rintro ⟨z, hz, ez, h⟩
        have : fk z.ks = fk y.ks := by rw [← (ns_some b2.nn hz).2, ← (ns_some b2.nn hy).2, ez]
        rw [← this]; exact h
    · rw [(ns_none h').1]
      exact ⟨fun h => (nomatch h), fun ⟨y, hy, e, _⟩ => absurd e (h' y hy)⟩
  have e0 : eqD (evN ns ms) (ns.map NE.e) (ms.map NE.e) = ((ns.map NE.e).length == (ms.map NE.e).length && (ns.map NE.e).all fun x => match atN (ms.map NE.e) x.1 with | none => false | some q => evN ns ms x.2.2 q.2) := rfl
  rw [e0, Bool.eq_iff_iff, Bool.and_eq_true, e1, beq_iff_eq, List.all_eq_true, List.length_map, List.length_map]
  have kne : ∀ {ns : List NE} {dn : Addr}, BN w H U PN dn ns → ∀ n, n ∈ ns.map (·.n) ↔ keysOf ns n ≠ [] := fun {ns dn} b n => by
    constructor
    · intro h
      obtain ⟨x, hx, rfl⟩ := List.mem_map.mp h
      rw [(ns_some b.nn hx).2]
      have := b.ne x hx
      intro e
      exact this (List.map_eq_nil_iff.mp e)
    · intro h
      rcases num_in ns n with ⟨x, hx, rfl⟩ | h'
      · exact List.mem_map_of_mem hx
      · exact absurd (ns_none h').2 h
  have same_nil : ∀ {a b : List Ky}, sameK a b = true → (a = [] ↔ b = []) := fun {a b} h => by
    have := empty_iff (sameK_iff.mp h)
    rw [← List.isEmpty_iff, ← List.isEmpty_iff, this]
  constructor
  · rintro ⟨hl, h⟩ n _
    by_cases c : n ∈ ns.map (·.n)
    · obtain ⟨x, hx, rfl⟩ := List.mem_map.mp c
      obtain ⟨y, hy, ey, hs⟩ := h x hx
      rw [(ns_some b1.nn hx).2, ← ey, (ns_some b2.nn hy).2]
      exact hs
    · have c1 : keysOf ns n = [] := Classical.byContradiction fun z => c ((kne b1 n).mpr z)
      have c2 : keysOf ms n = [] := Classical.byContradiction fun z => by
        have m := (kne b2 n).mpr z
        have sub : ∀ x ∈ n :: ns.map (·.n), x ∈ ms.map (·.n) := fun x hx => by
          rcases List.mem_cons.mp hx with e | e
          · rw [e]; exact m
          · obtain ⟨x', hx', rfl⟩ := List.mem_map.mp e
            obtain ⟨y, hy, ey, _⟩ := h x' hx'
            exact ey ▸ List.mem_map_of_mem hy
        have := sub_len (List.nodup_cons.mpr ⟨c, b1.nn⟩) sub
        rw [List.length_cons, List.length_map, List.length_map] at this
        omega
      rw [c1, c2]; rfl
  · intro h
    have h1 : ∀ n ∈ ns.map (·.n), n ∈ ms.map (·.n) := fun n hn => by
      obtain ⟨x, hx, rfl⟩ := List.mem_map.mp hn
      exact (kne b2 _).mpr fun z => (kne b1 _).mp hn ((same_nil (h _ (b1.inP x hx))).mpr z)
    have h2 : ∀ n ∈ ms.map (·.n), n ∈ ns.map (·.n) := fun n hn => by
      obtain ⟨x, hx, rfl⟩ := List.mem_map.mp hn
      exact (kne b1 _).mpr fun z => (kne b2 _).mp hn ((same_nil (h _ (b2.inP x hx))).mp z)
    have l1 := sub_len b1.nn h1
    have l2 := sub_len b2.nn h2
    rw [List.length_map, List.length_map] at l1 l2
    refine ⟨by omega, fun x hx => ?_⟩
    obtain ⟨y, hy, ey⟩ := List.mem_map.mp (h1 x.n (List.mem_map_of_mem hx))
    refine ⟨y, hy, ey, ?_⟩
    have := h _ (b1.inP x hx)
    rw [(ns_some b1.nn hx).2, ← ey, (ns_some b2.nn hy).2] at this
    exact this
theorem cut_one {l : List At} : (HT.sIx (l.map At.v).length 0 none = 0 ∧ HT.sIx (l.map At.v).length (l.map At.v).length (some 1) = (l.map At.v).length) → l.take 1 = l := by
  rintro ⟨_, h⟩
  have e : HT.sIx (l.map At.v).length (l.map At.v).length (some 1) = min 1 (l.map At.v).length := HT.sIx_nat _ _ 1
  rw [e, List.length_map] at h
  exact List.take_of_length_le (by omega)
theorem lead_iff (z : Str) (l : List At) : lead z (.t l) = decide (l.take 1 = [.s z]) := by
  cases l with
  | nil => rfl
  | cons a l => cases a with
    | s x => simp [lead]
    | i n => simp [lead]
section
variable {P : Program} {w : World} {K : PySem.W.Frag} {mg : Str → Option Value} {base : Heap} {D : Nat → FuncData}
theorem if_t {A B : Prop} (h : A) : if (true : Bool) = true then A else B := by rw [if_pos rfl]; exact h
theorem if_f {A B : Prop} (h : B) : if (false : Bool) = true then A else B := by rw [if_neg Bool.false_ne_true]; exact h
structure ExF (K : PySem.W.Frag) : Prop where
  a : PySem.W.findIn K (.ref (He.ga K "Index")) "__class__" = some (some (.builtin "object.__class__"))
  b : PySem.W.specialIn K (.builtin "object.__class__") "__get__" = some (some (.builtin "getset_descriptor.__get__"))
  c : PySem.W.takesIn K (.builtin "object.__class__") = some true
  d : PySem.W.mroIn K (He.ga K "Index") (.type "object") = some true
  e : PySem.W.kitOne K (.ref (He.ga K "Index")) (.ref (He.ga K "Index")) = some true
  f : PySem.W.kitOne K (.type "dict") (.ref (He.ga K "Index")) = some false
  g : PySem.W.subIn K (.type "dict") (.ref (He.ga K "Index")) = some false
theorem ex_ok (h : ex K = true) : ExF K := by
  unfold ex at h
  simp only [Bool.and_eq_true, decide_eq_true_eq] at h
  exact ⟨h.1, h.2.1, h.2.2.1, h.2.2.2.1, h.2.2.2.2.1, h.2.2.2.2.2.1, h.2.2.2.2.2.2⟩
def spEq2 (w : World) (K : PySem.W.Frag) : Sp := fun vs H Q _ => ∃ (p : Addr) (U : List Ky) (PN : List Int) (F : Addr → Prop) (T : Int → List Ky), Un U PN ∧ Ix w K H U PN p F T ∧
  ((∃ (p' : Addr) (F' : Addr → Prop) (T' : Int → List Ky), vs = [.ref p, .ref p'] ∧ Ix w K H U PN p' F' T' ∧ (∀ c, F c → ¬ F' c) ∧ Q (.bl (PN.all fun n => sameK (T n) (T' n))) H) ∨
    ∃ d xs, vs = [.ref p, .ref d] ∧ DNr w H d xs ∧ Q (.bl false) H)
theorem ok_Index_eq (T : Txt K mg D) : FnOk P w K mg base CX0 1 (He.ma K (He.ga K "Index") "__eq__") (D 9) P_Index_eq (spEq2 w K) := by
  refine T.F_Index_eq.ok sc_Index_eq (fun vs H Q E h => ?_) (fun cdv A outer s H vs Q E hr h => ?_)
  · obtain ⟨p, U, PN, F, T', _, _, ⟨p', F', T'', rfl, _⟩ | ⟨d, xs, rfl, _⟩⟩ := h
    · rfl
    · rfl
  · obtain ⟨p, U, PN, Ft, T', un, ⟨dx, dn, dk, ns, es, ix, hF, hT⟩, h⟩ := h
    have nd := sc_Index_eq.nd
    have xf := ex_ok T.x_Index
    refine ⟨_, PSs.nox ((pss_one (ps_ret (pe_and (pe_callB call_isiN (by rfl) T.n_isinstance (by decide +kernel) (pa_cons (pv 1) (pa_cons (pe_glob (v := .ref (He.ga K "Index")) (by rfl) T.g_Index rfl) pa_nil))) (pe_one (pe_cmpR (op_neq 1 (u20 hr)) (pe_fld (pv 0) rfl) (pe_fld (pv 1) rfl) (nomark _))))))), ?_⟩
    dsimp only [cxOf, Cx.nox, Cx.wish]
    rcases h with ⟨p', F', T'', rfl, ⟨dx2, dn2, dk2, ns2, es2, ix2, hF2, hT2⟩, dis, q⟩ | ⟨d, xs, rfl, hd, q⟩
    · refine ⟨_, rfl, .ref p', .ref (He.ga K "Index"), .ref (He.ga K "Index"), .ref (He.ga K "Index"), true, rfl, .own _, .inl (.base (.ins ix2.p T.cl_Index xf.a xf.b xf.c xf.d)), xf.e, true, rfl, ?_⟩
      refine if_t ?_
      refine ⟨_, rfl, p, _, dx, _, _, rfl, ix.p, T.cl_Index, T.a_by_number, ixF_n dn dk, _, rfl, p', _, dx2, _, _, rfl, ix2.p, T.cl_Index, T.a_by_number, ixF_n dn2 dk2, dn, dn2, _, _, evN ns ns2, rfl, rfl, ix.n.dn'.r, ix2.n.dn'.r, fun e he v hv => ?_, ?_⟩
      · obtain ⟨x, hx, rfl⟩ := List.mem_map.mp he
        obtain ⟨y, hy, ey, rfl⟩ := at_ns ix2.n.nn hv
        show EvOk w H 1 (.ref x.d) (.ref y.d) (evN ns ns2 (.ref x.d) (.ref y.d))
        rw [evN_at ix.n.nd ix2.n.nd hx hy]
        refine .inr ⟨x.d, y.d, _, _, fun _ _ => true, rfl, rfl, fun e => ?_, ⟨.inl (ix.n.v x hx), keys_fr (ix.n.kv x hx)⟩, ⟨.inl (ix2.n.v y hy), keys_fr (ix2.n.kv y hy)⟩, ev_true0, (eqD_fr (ix.n.nk x hx) (ix2.n.nk y hy)).symm⟩
        refine dis x.d ((hF _).mpr (.inr (.inr (.inr (List.mem_map_of_mem hx))))) ((hF2 _).mpr (.inr (.inr (.inr ?_))))
        rw [e]; exact List.mem_map_of_mem hy
      · rw [eqD_ns ix.n ix2.n]
        have e : (PN.all fun n => sameK (keysOf ns n) (keysOf ns2 n)) = PN.all fun n => sameK (T' n) (T'' n) := by
          congr 1
          funext n
          exact sameK_congr (hT n) (hT2 n)
        rw [e]
        exact q
    · refine ⟨_, rfl, .ref d, .ref (He.ga K "Index"), .type "dict", .ref (He.ga K "Index"), false, rfl, .own _, .inr ⟨d, xs, rfl, rfl, hd⟩, xf.f, false, rfl, ?_⟩
      exact if_f q
theorem ok_Index_all_keys (T : Txt K mg D) : FnOk P w K mg base CX0 1 (He.ma K (He.ga K "Index") "all_keys") (D 6) P_Index_all_keys (spAll w K) := by
  refine T.F_Index_all_keys.ok sc_Index_all_keys (fun vs H Q E h => ?_) (fun cdv A outer s H vs Q E hr h => ?_)
  · obtain ⟨p, z, U, PN, F, T', rfl, _⟩ := h
    rfl
  · obtain ⟨p, z, U, PN, Ft, T', rfl, zok, un, ⟨dx, dn, dk, ns, es, ix, hF, hT⟩, hal, q⟩ := h
    have nd := sc_Index_all_keys.nd
    refine ⟨_, PSs.nox ((pss_one (ps_ret (pe_callB (cr_sortD hr.units) (by rfl) T.n_sorted (by decide +kernel) (pa_cons (pe_lock (pe_lc (own := [("key", 2)]) rfl nd (pi_nkeys (pe_fld (pv 0) rfl)) (blkOk_by (own := [("key", 2)]) (N := N_Index_all_keys) (sc := defScope s_Index_all_keys) (by decide +kernel)) (fun _ _ _ _ _ => pg_name (i := 2) nd rfl (Or.inl rfl)) (fun _ _ _ _ _ => pts_one (PW.pt (pw_and (pt_val (pe_callB (r := rIsiN w K) call_isiN (by rfl) T.n_isinstance (by decide +kernel) (pa_cons (pv 2) (pa_cons (pe_ty (n := "tuple") (by rfl) T.n_tuple (by decide +kernel)) pa_nil)))) (pw_and1 (pt_cmpR (r := rEqD K) (op_eqD hr.units) (pe_slice (r := rSlA K) sl_tupA (pv 2) po_none (po_some pe_int)) (pe_tup (pa_cons (pv 1) pa_nil)) (nomark _)))))) (fun _ _ _ _ _ => (pv 2)))) pa_nil))))), ?_⟩
    dsimp only [cxOf, Cx.nox, Cx.wish]
    refine ⟨dk, _, ix.k.d, True.intro, fun od => ?_⟩
    have pk : p ≠ dk := fun e => by have := ix.p; rw [e, ix.k.d] at this; cases this
    have tk1 : ∀ b xs, H b = some (.tup xs) → (upd H dk (.frz od (dictO w dk (es.map KE.e)))) b = some (.tup xs) := fun b xs hb => by rw [upd_ne (tup_ne_d ix.k.d hb)]; exact hb
    refine ⟨_, rfl, p, _, dx, _, _, rfl, (by rw [upd_ne pk]; exact ix.p), T.cl_Index, T.a_by_key, ixF_k dn dk, dk, od, _, rfl, upd_same, fun d nD => ?_⟩
    have dkd : dk ≠ d := ne_of_none upd_same nD
    refine lc_nkeys (fun i H' => ∃ us, Kp (fun c => c = d) (upd H dk (.frz od (dictO w dk (es.map KE.e)))) H' ∧ H' d = some (.lst us) ∧ KVs H (((es.take i).map (·.k)).filter (lead z)) us) ⟨[], Kp.put rfl, upd_same, .nil⟩ ?_ ?_ ?_
    · rintro i H' _ ⟨us, kk, _⟩
      exact kk _ _ upd_same dkd
    · rintro i x H' hx ⟨us, kk, hd, hkv⟩
      rw [List.getElem?_map] at hx
      obtain ⟨y, hy, rfl⟩ : ∃ y, es[i]? = some y ∧ x = KE.e y := by
        cases e : es[i]? with
        | none => rw [e] at hx; cases hx
        | some y => rw [e] at hx; exact ⟨y, rfl, (Option.some.inj hx).symm⟩
      have hym := List.mem_of_getElem? hy
      have tk : ∀ b xs, H b = some (.tup xs) → H' b = some (.tup xs) := fun b xs hb => kk _ _ (tk1 b xs hb) (ne_of_none (tk1 b xs hb) nD)
      have kvy := ix.k.kv y hym
      have lus : us.length < sizeLine := by
        have e1 := hkv.len
        have e2 := List.length_filter_le (lead z) ((es.take i).map (·.k))
        rw [List.length_map, List.length_take] at e2
        have e3 := ix.k.len un
        exact Nat.lt_of_lt_of_le (by omega : us.length < 2000) (by decide)
      have et : (es.take (i + 1)).map (·.k) = (es.take i).map (·.k) ++ [y.k] := by rw [List.take_add_one, hy, List.map_append]; rfl
      have yes : ∀ H2, lead z y.k = true → Kp No H' H2 → ∃ acc, H2 d = some (.lst acc) ∧ acc.length < sizeLine ∧ ∃ us, Kp (fun c => c = d) (upd H dk (.frz od (dictO w dk (es.map KE.e)))) (upd H2 d (.lst (acc ++ [y.v]))) ∧ (upd H2 d (.lst (acc ++ [y.v]))) d = some (.lst us) ∧ KVs H (((es.take (i + 1)).map (·.k)).filter (lead z)) us := fun H2 c k2 => by
        refine ⟨us, k2 _ _ hd id, lus, us ++ [y.v], (kk.trans (No.all k2)).trans (Kp.put rfl), upd_same, ?_⟩
        rw [et, List.filter_append, List.filter_cons, if_pos c, List.filter_nil]
        exact hkv.append (.cons kvy .nil)
      have no : ∀ H2, lead z y.k = false → Kp No H' H2 → ∃ us, Kp (fun c => c = d) (upd H dk (.frz od (dictO w dk (es.map KE.e)))) H2 ∧ H2 d = some (.lst us) ∧ KVs H (((es.take (i + 1)).map (·.k)).filter (lead z)) us := fun H2 c k2 => by
        refine ⟨us, kk.trans (No.all k2), k2 _ _ hd id, ?_⟩
        rw [et, List.filter_append, List.filter_cons, if_neg (by rw [c]; exact Bool.false_ne_true), List.filter_nil, List.append_nil]
        exact hkv
      refine ⟨rfl, ?_⟩
      cases hk : y.k with
      | a x =>
        rw [hk] at kvy
        have ev : y.v = .str x := kvy
        have cf : lead z y.k = false := by rw [hk]; rfl
        refine ⟨_, rfl, _, .ty "tuple", .type "str", .type "tuple", false, rfl, .ty "tuple", ?_, kit_ty (by decide +kernel), false, rfl, ?_⟩
        · show TyN w K H' y.v (.type "str")
          rw [ev]; exact .inl (.base (.str x))
        refine if_f (if_f ?_)
        exact no H' cf Kp.refl
      | t l =>
        rw [hk] at kvy
        obtain ⟨a, ev, ha⟩ := kvy
        have ha' := tk _ _ ha
        refine ⟨_, rfl, _, .ty "tuple", .type "tuple", .type "tuple", true, rfl, .ty "tuple", ?_, kit_ty (by decide +kernel), true, rfl, ?_⟩
        · show TyN w K H' y.v (.type "tuple")
          rw [ev]; exact .inl (.base (.tup ha'))
        refine if_t ?_
        have kok := un.ok _ (ix.k.inU y hym)
        rw [hk] at kok
        have tok : (l.take 1).all At.ok = true := List.all_eq_true.mpr fun x hx => List.all_eq_true.mp kok x (List.mem_of_mem_take hx)
        have sh1 : SeqAt.shaped (.tuple ((l.take 1).map At.d)) = true := Ky.shaped (a := .t (l.take 1)) tok
        have sh2 : SeqAt.shaped (.tuple [.str z]) = true := Ky.shaped (a := .t [.s z]) (by simp [Ky.ok, At.ok, zok])
        have ev2 : PyData.eqv (.tuple ((l.take 1).map At.d)) (.tuple [.str z]) = lead z y.k := by
          rw [hk, lead_iff]
          have := Ky.eqv (.t (l.take 1)) (.t [.s z])
          rw [show (Ky.t (l.take 1)).d = .tuple ((l.take 1).map At.d) from rfl, show (Ky.t [At.s z]).d = .tuple [.str z] from rfl] at this
          rw [this]; simp
        have last : ∀ (H2 : Hp) (b : Addr), Kp No H' H2 → Dp K H2 (.ref b) (.tuple ((l.take 1).map At.d)) → 1 ≤ sizeLine ∧ ∀ t, H2 t = none → ∃ d e, Dp K (upd H2 t (.tup [.str z])) (.ref b) d ∧ Dp K (upd H2 t (.tup [.str z])) (.ref t) e ∧ SeqAt.shaped d = true ∧ SeqAt.shaped e = true ∧ ∃ c, V.bl (PyData.eqv d e) = .bl c ∧ Kp No H' (upd H2 t (.tup [.str z])) ∧ c = lead z y.k := fun H2 b k2 hb =>
          ⟨by decide, fun t nt => ⟨_, _, ND.Dp.keep (fun a o h => up_some h nt) hb, .tup (SqT.of upd_same) (.cons (.str z) .nil), sh1, sh2, _, rfl, k2.trans (Kp.new nt), ev2⟩⟩
        refine ⟨_, rfl, 1, rfl, a, _, ev, SqT.of ha', fun whole => ?_, fun nw b nb => ?_⟩
        · refine ⟨_, rfl, by show 1 ≤ sizeLine; decide, fun t nt => ?_⟩
          obtain ⟨dd, ee, h1, h2, h3, h4, c, h5, h6, h7⟩ := (last H' a Kp.refl (by rw [cut_one whole]; exact .tup (SqT.of ha') (dpAtoms l))).2 t nt
          refine ⟨dd, ee, h1, h2, h3, h4, c, h5, ?_⟩
          refine ite2 (fun cc => ⟨_, rfl, yes _ (h7 ▸ cc) h6⟩) (fun cc => no _ (by rw [← h7]; simpa using cc) h6)
        · have ec : cutV (l.map At.v) none (some 1) = (l.take 1).map At.v := by rw [show (1 : Int) = ((1 : Nat) : Int) from rfl, cut_first, List.map_take]
          refine ⟨_, rfl, by show 1 ≤ sizeLine; decide, fun t nt => ?_⟩
          obtain ⟨dd, ee, h1, h2, h3, h4, c, h5, h6, h7⟩ := (last (upd H' b (.tup (cutV (l.map At.v) none (some 1)))) b (Kp.new nb) (by rw [ec]; exact .tup (SqT.of upd_same) (dpAtoms _))).2 t nt
          refine ⟨dd, ee, h1, h2, h3, h4, c, h5, ?_⟩
          refine ite2 (fun cc => ⟨_, rfl, yes _ (h7 ▸ cc) h6⟩) (fun cc => no _ (by rw [← h7]; simpa using cc) h6)
    · rintro H' ⟨us, kk, hd, hkv⟩
      rw [List.length_map, List.take_length] at hkv
      refine ⟨kk _ _ upd_same dkd, ?_⟩
      have hdn : H d = none := by rw [upd_ne dkd.symm] at nD; exact nD
      have k2 : Kp No H (upd H' dk (dictO w dk (es.map KE.e))) := Kp.lock ix.k.d (kk.drop fun c h => .inr (h ▸ nD))
      have hd2 : (upd H' dk (dictO w dk (es.map KE.e))) d = some (.lst us) := by rw [upd_ne dkd.symm]; exact hd
      have hkv2 := hkv.keep fun b xs h => k2 _ _ h id
      generalize upd H' dk (dictO w dk (es.map KE.e)) = H2 at k2 hd2 hkv2
      have inU : ∀ k ∈ (es.map (·.k)).filter (lead z), k ∈ U ∧ lead z k = true := fun k hk => by
        obtain ⟨h1, h2⟩ := List.mem_filter.mp hk
        obtain ⟨x, hx, rfl⟩ := List.mem_map.mp h1
        exact ⟨ix.k.inU x hx, h2⟩
      refine ⟨d, us, _, rfl, SqL.of hd2, hkv2.dp, fun a ha b hb => ?_, .inl fun a ha => ?_, fun a ha => ?_, fun zs q' hz nq => ?_⟩
      · obtain ⟨x, hx, rfl⟩ := List.mem_map.mp ha
        obtain ⟨y, hy, rfl⟩ := List.mem_map.mp hb
        exact hal x (inU x hx).1 y (inU y hy).1 (inU x hx).2 (inU y hy).2
      · obtain ⟨x, hx, rfl⟩ := List.mem_map.mp ha
        have hl := (inU x hx).2
        cases x with
        | a x => cases hl
        | t l => cases l with
          | nil => cases hl
          | cons c r => exact ⟨c.d, r.map At.d, rfl⟩
      · obtain ⟨x, hx, rfl⟩ := List.mem_map.mp ha
        exact Nat.le_trans (Ky.dep x) (by decide)
      · have sk := sort_keys hkv2
        rw [← hz] at sk
        refine q _ _ q' _ (List.Pairwise.sublist List.filter_sublist ix.k.nk) (fun k => ?_) (fun k hk => (inU k hk).1) (sk.keep fun b xs h => up_some h nq) (k2.nil nq id) (k2.trans (Kp.new nq)) upd_same
        rw [List.mem_filter]
        constructor
        · rintro ⟨h1, h2⟩
          obtain ⟨x, hx, rfl⟩ := List.mem_map.mp h1
          refine ⟨h2, ?_⟩
          cases q : x.l with
          | nil => exact absurd q (ix.k.ne x hx)
          | cons n r => exact ⟨n, (hT n _).mp ((ix.two x.k n).mp (by rw [(es_some ix.k.nk hx).2, q]; exact List.mem_cons_self))⟩
        · rintro ⟨h1, n, h2⟩
          refine ⟨?_, h1⟩
          have := (ix.two k n).mpr ((hT n k).mpr h2)
          rcases key_in (es := es) (k := k) with ⟨x, hx, rfl⟩ | h'
          · exact List.mem_map_of_mem hx
          · rw [(es_none h').2] at this; cases this
end
end K50

set_option Elab.async false
set_option linter.all false
set_option maxRecDepth 100000
set_option maxHeartbeats 4000000
namespace K50
open PySem PySem.Spec L2 ND
open PySem.W (AllAlike Sortable dataLe alike)
/-! ### the law's own table: number -> list of keys -/
structure TN where
  n : Int
  a : Addr
  ks : List Ky
  us : List V
def TN.e (x : TN) : EntV := (.num x.n, .int x.n, .ref x.a)
def tabT (ts : List TN) (n : Int) : List Ky := ((ts.find? fun x => decide (x.n = n)).map (·.ks)).getD []
theorem ts_none {ts : List TN} {n : Int} (h : ∀ x ∈ ts, x.n ≠ n) : atN (ts.map TN.e) (.num n) = none ∧ tabT ts n = [] := by
  constructor
  · refine atN_none fun j p e => ?_
    rw [List.getElem?_map] at e
    cases q : ts[j]? with
    | none => rw [q] at e; cases e
    | some x =>
      rw [q] at e
      have e1 : TN.e x = (.num n, p) := Option.some.inj e
      have e2 : NestedKey.num x.n = NestedKey.num n := congrArg Prod.fst e1
      exact h x (List.mem_of_getElem? q) (by injection e2)
  · unfold tabT
    rw [List.find?_eq_none.mpr fun x hx => by simpa using h x hx]
    rfl
theorem nodup_t {ts : List TN} (n : (ts.map (·.n)).Nodup) : ((ts.map TN.e).map (·.1)).Nodup := by
  rw [List.map_map]
  have : (fun x : EntV => x.1) ∘ TN.e = NestedKey.num ∘ (fun x : TN => x.n) := rfl
  rw [this, ← List.map_map]
  exact List.pairwise_map.mpr (n.imp fun h e => h (by injection e))
theorem find_t {ts : List TN} {x : TN} (n : (ts.map (·.n)).Nodup) (h : x ∈ ts) : (ts.find? fun y => decide (y.n = x.n)) = some x := by
  induction ts with
  | nil => cases h
  | cons y es ih =>
    rw [List.map_cons, List.nodup_cons] at n
    rcases List.mem_cons.mp h with e | e
    · subst e
      rw [List.find?_cons_of_pos (by simp)]
    · have : y.n ≠ x.n := fun z => n.1 (z ▸ List.mem_map_of_mem e)
      rw [List.find?_cons_of_neg (by simpa using this)]
      exact ih n.2 e
theorem ts_some {ts : List TN} {x : TN} (n : (ts.map (·.n)).Nodup) (h : x ∈ ts) : atN (ts.map TN.e) (.num x.n) = some (.int x.n, .ref x.a) ∧ tabT ts x.n = x.ks := by
  constructor
  · obtain ⟨i, hi⟩ := List.mem_iff_getElem?.mp h
    exact atN_some (nodup_t n) (i := i) (by rw [List.getElem?_map, hi]; rfl)
  · unfold tabT
    rw [find_t n h]; rfl
theorem tum_in (ts : List TN) (n : Int) : (∃ x ∈ ts, x.n = n) ∨ ∀ x ∈ ts, x.n ≠ n := by
  by_cases h : ∃ x ∈ ts, x.n = n
  · exact .inl h
  · exact .inr fun x hx e => h ⟨x, hx, e⟩
structure Tb (w : World) (H : Hp) (U : List Ky) (PN : List Int) (t : Addr) (ts : List TN) : Prop where
  d : H t = some (dictO w t (ts.map TN.e))
  row : ∀ x ∈ ts, H x.a = some (.lst x.us)
  kv : ∀ x ∈ ts, KVs H x.ks x.us
  len : ∀ x ∈ ts, x.ks.length ≤ 1000
  inU : ∀ x ∈ ts, ∀ k ∈ x.ks, k ∈ U
  inP : ∀ x ∈ ts, x.n ∈ PN
  nn : (ts.map (·.n)).Nodup
theorem keys_tum {H : Hp} (ts : List TN) : Keys H (ts.map TN.e) := fun x hx => by
  obtain ⟨y, hy, rfl⟩ := List.mem_map.mp hx
  exact KAt.int y.n
theorem Tb.dn {w : World} {H : Hp} {U : List Ky} {PN : List Int} {t : Addr} {ts : List TN} (h : Tb w H U PN t ts) : DN w H t (ts.map TN.e) := ⟨h.d, keys_tum ts⟩
theorem Tb.size {w : World} {H : Hp} {U : List Ky} {PN : List Int} {t : Addr} {ts : List TN} (h : Tb w H U PN t ts) (u : Un U PN) : ts.length ≤ 1000 := by
  have := sub_len (m := PN) h.nn fun k hk => by
    obtain ⟨x, hx, rfl⟩ := List.mem_map.mp hk
    exact h.inP x hx
  rw [List.length_map] at this
  have := u.p
  omega
theorem Tb.keep {w : World} {H H' : Hp} {U : List Ky} {PN : List Int} {t : Addr} {ts : List TN} {F : Addr → Prop} (h : Tb w H U PN t ts) (k : Kp F H H') (n1 : ¬ F t) (n2 : ∀ x ∈ ts, ¬ F x.a) (n3 : ∀ b xs, H b = some (.tup xs) → ¬ F b) : Tb w H' U PN t ts :=
  ⟨k _ _ h.d n1, fun x hx => k _ _ (h.row x hx) (n2 x hx), fun x hx => (h.kv x hx).keep (tupKeep k n3), h.len, h.inU, h.inP, h.nn⟩
theorem Tb.same {w : World} {H H' : Hp} {U : List Ky} {PN : List Int} {t : Addr} {ts : List TN} (h : Tb w H U PN t ts) (k : Kp No H H') : Tb w H' U PN t ts := h.keep k id (fun _ _ => id) fun _ _ _ => id
theorem Tb.sub {w : World} {H : Hp} {U : List Ky} {PN : List Int} {t : Addr} {ts : List TN} (h : Tb w H U PN t ts) (n : Int) : (∀ k ∈ tabT ts n, k ∈ U) ∧ (tabT ts n).length ≤ 1000 := by
  rcases tum_in ts n with ⟨x, hx, rfl⟩ | h'
  · rw [(ts_some h.nn hx).2]; exact ⟨h.inU x hx, h.len x hx⟩
  · rw [(ts_none h').2]; exact ⟨fun _ h => (nomatch h), Nat.zero_le _⟩
/-- the numbers of the table that have the key -/
def has (ts : List TN) (k : Ky) : List Int := (ts.map (·.n)).filter fun n => decide (k ∈ tabT ts n)
theorem has_iff {w : World} {H : Hp} {U : List Ky} {PN : List Int} {t : Addr} {ts : List TN} (h : Tb w H U PN t ts) (k : Ky) (n : Int) : n ∈ has ts k ↔ k ∈ tabT ts n := by
  unfold has
  rw [List.mem_filter, decide_eq_true_iff]
  refine ⟨fun z => z.2, fun z => ⟨?_, z⟩⟩
  rcases tum_in ts n with ⟨x, hx, rfl⟩ | h'
  · exact List.mem_map_of_mem hx
  · rw [(ts_none h').2] at z; cases z
/-- [n for n in table if key in table[n]] -/
theorem lc_tab {w : World} {K : PySem.W.Frag} {σ : L2.St} {H : Hp} {Q : VK} {U : List Ky} {PN : List Int} {t : Addr} {ts : List TN} {k : Ky} {v : V} (un : Un U PN) (tb : Tb w H U PN t ts) (kok : k.ok = true) (hv : KV H k v)
    (h1 : σ[1]? = some (some (.ref t))) (h2 : ∀ u, ((wipe σ [11]).set 11 (some u))[1]? = some (some (.ref t))) (h5 : ∀ u, ((wipe σ [11]).set 11 (some u))[5]? = some (some v)) (h11 : ∀ u, ((wipe σ [11]).set 11 (some u))[11]? = some (some u))
    (hw : ∀ u, wipe ((wipe σ [11]).set 11 (some u)) [11] = wipe σ [11])
    (q : ∀ (d : Addr) (H' : Hp), Kp No H H' → H d = none → H' d = some (.lst ((has ts k).map V.int)) → Q (.ref d) H') :
    tLockE (tLc (iNKeys w (tVar 1)) (gName 11) (tTest (tOp (rInD K) (tVar 5) (tNGet w (tVar 1) (tVar 11)))) (tVar 11) [11]) σ H Q := by
  refine ⟨t, _, tb.d, True.intro, fun od => ?_⟩
  have tk1 : ∀ b xs, H b = some (.tup xs) → (upd H t (.frz od (dictO w t (ts.map TN.e)))) b = some (.tup xs) := fun b xs hb => by rw [upd_ne (tup_ne_d tb.d hb)]; exact hb
  refine ⟨_, h1, t, od, _, rfl, upd_same, fun d nD => ?_⟩
  have td : t ≠ d := ne_of_none upd_same nD
  refine lc_nkeys (fun i H' => Kp (fun c => c = d) (upd H t (.frz od (dictO w t (ts.map TN.e)))) H' ∧ H' d = some (.lst ((((ts.take i).map (·.n)).filter fun n => decide (k ∈ tabT ts n)).map V.int))) ⟨Kp.put rfl, upd_same⟩ ?_ ?_ ?_
  · rintro i H' _ ⟨kk, _⟩
    exact kk _ _ upd_same td
  · rintro i x H' hx ⟨kk, hd⟩
    rw [List.getElem?_map] at hx
    obtain ⟨y, hy, rfl⟩ : ∃ y, ts[i]? = some y ∧ x = TN.e y := by
      cases e : ts[i]? with
      | none => rw [e] at hx; cases hx
      | some y => rw [e] at hx; exact ⟨y, rfl, (Option.some.inj hx).symm⟩
    have hym := List.mem_of_getElem? hy
    have tk : ∀ b xs, H b = some (.tup xs) → H' b = some (.tup xs) := fun b xs hb => kk _ _ (tk1 b xs hb) (ne_of_none (tk1 b xs hb) nD)
    have yt : y.a ≠ t := fun e => by have := tb.row y hym; rw [e, tb.d] at this; cases this
    have hrow : H' y.a = some (.lst y.us) := by
      have e1 : (upd H t (.frz od (dictO w t (ts.map TN.e)))) y.a = some (.lst y.us) := by rw [upd_ne yt]; exact tb.row y hym
      exact kk _ _ e1 (ne_of_none e1 nD)
    have ht' : H' t = some (.frz od (dictO w t (ts.map TN.e))) := kk _ _ upd_same td
    have ll : (((ts.take i).map (·.n)).filter fun n => decide (k ∈ tabT ts n)).length < sizeLine := by
      have e2 := List.length_filter_le (fun n => decide (k ∈ tabT ts n)) ((ts.take i).map (·.n))
      rw [List.length_map, List.length_take] at e2
      have e3 := tb.size un
      exact Nat.lt_of_lt_of_le (by omega : _ < 2000) (by decide)
    have et : (ts.take (i + 1)).map (·.n) = (ts.take i).map (·.n) ++ [y.n] := by rw [List.take_add_one, hy, List.map_append]; rfl
    refine ⟨hw _, ?_⟩
    refine ⟨_, h5 _, _, h2 _, _, h11 _, t, _, .num y.n, _, rfl, ⟨.inr ⟨od, ht'⟩, keys_tum ts⟩, KAt.int y.n, (ts_some tb.nn hym).1, ?_⟩
    refine ⟨k.d, y.ks.map Ky.d, (hv.keep tk).dp, .lst (SqL.of hrow) ((tb.kv y hym).keep tk).dp, Ky.shaped kok, shaped_list fun k hk => un.ok k (tb.inU y hym k hk), _, rfl, ?_⟩
    rw [any_keys]
    have ey : (k ∈ y.ks) = (k ∈ tabT ts y.n) := by rw [(ts_some tb.nn hym).2]
    refine ite2 (fun c => ?_) (fun c => ?_)
    · have c : k ∈ tabT ts y.n := ey ▸ of_decide_eq_true c
      refine ⟨_, h11 _, _, hd, by rw [List.length_map]; exact ll, kk.trans (Kp.put rfl), ?_⟩
      rw [upd_same, et, List.filter_append, List.filter_cons, if_pos (decide_eq_true c), List.filter_nil, List.map_append]; rfl
    · have c : ¬ k ∈ tabT ts y.n := fun z => c (decide_eq_true (ey ▸ z))
      refine ⟨kk, ?_⟩
      rw [et, List.filter_append, List.filter_cons, if_neg (by simpa using c), List.filter_nil, List.append_nil]
      exact hd
  · rintro H' ⟨kk, hd⟩
    rw [List.length_map, List.take_length] at hd
    refine ⟨kk _ _ upd_same td, ?_⟩
    refine q d _ (Kp.lock tb.d (kk.drop fun c h => .inr (h ▸ nD))) (by rw [upd_ne td.symm] at nD; exact nD) (by rw [upd_ne td.symm]; exact hd)
theorem every_shape {x y z : Str} {k : Ky} (h : k ∈ every x y z) : (∃ c, k = .a c) ∨ ∃ c r, k = .t (.s c :: r) ∧ (c = x ∨ c = y) := by
  simp only [every, List.mem_cons, List.mem_nil_iff, or_false] at h
  rcases h with rfl | rfl | rfl | rfl | rfl | rfl | rfl | rfl
  · exact .inl ⟨_, rfl⟩
  · exact .inr ⟨_, _, rfl, .inl rfl⟩
  · exact .inr ⟨_, _, rfl, .inl rfl⟩
  · exact .inr ⟨_, _, rfl, .inl rfl⟩
  · exact .inr ⟨_, _, rfl, .inr rfl⟩
  · exact .inr ⟨_, _, rfl, .inr rfl⟩
  · exact .inl ⟨_, rfl⟩
  · exact .inl ⟨_, rfl⟩
theorem every_alike {x y z : Str} (g : Good x y z) (l : Str) : ∀ a ∈ every x y z, ∀ b ∈ every x y z, lead l a = true → lead l b = true → alike a.d b.d = true := by
  intro a ha b hb h1 h2
  have xy := g.xy
  simp only [every, List.mem_cons, List.mem_nil_iff, or_false] at ha hb
  rcases ha with rfl | rfl | rfl | rfl | rfl | rfl | rfl | rfl <;> rcases hb with rfl | rfl | rfl | rfl | rfl | rfl | rfl | rfl <;>
    simp only [lead, decide_eq_true_iff, Bool.false_eq_true] at h1 h2 <;>
    first
      | (exfalso; exact xy (h1.trans h2.symm))
      | (exfalso; exact xy (h2.trans h1.symm))
      | simp [Ky.d, At.d, alike, PySem.W.alikeAll]
theorem Ix.at_p {w : World} {K : PySem.W.Frag} {H : Hp} {U : List Ky} {PN : List Int} {p : Addr} {F : Addr → Prop} {T : Int → List Ky} (h : Ix w K H U PN p F T) : ∃ dx dn dk, H p = some (.ins (He.ga K "Index") dx (ixF dn dk)) := by
  obtain ⟨dx, dn, dk, ns, es, i, _⟩ := h
  exact ⟨dx, dn, dk, i.p⟩
theorem trow_of {w : World} {H : Hp} {U : List Ky} {PN : List Int} {t : Addr} {ts : List TN} (b : Tb w H U PN t ts) (n : Int) (e0 : Addr) (he : H e0 = some (.lst [])) :
    ∃ r us, (((atN (ts.map TN.e) (.num n)).map (·.2)).getD (.ref e0)) = V.ref r ∧ H r = some (.lst us) ∧ KVs H (tabT ts n) us := by
  rcases tum_in ts n with ⟨x, hx, rfl⟩ | h
  · rw [(ts_some b.nn hx).1, (ts_some b.nn hx).2]
    exact ⟨x.a, x.us, rfl, b.row x hx, b.kv x hx⟩
  · rw [(ts_none h).1, (ts_none h).2]
    exact ⟨e0, [], rfl, he, .nil⟩
def spIs (w : World) (K : PySem.W.Frag) : Sp := fun vs H Q _ => ∃ (p t pl nm : Addr) (x y z : Str) (PN : List Int) (F : Addr → Prop) (ts : List TN), vs = [.ref p, .ref t, .ref pl, .ref nm] ∧ Good x y z ∧ Un (every x y z) PN ∧ Sorted PN ∧
  Ix w K H (every x y z) PN p F (tabT ts) ∧ Tb w H (every x y z) PN t ts ∧ H pl = some (.lst (PN.map V.int)) ∧ H nm = some (.lst [.str x, .str y, .str z]) ∧ ∀ H', Kp No H H' → Q (.bl true) H'
section
variable {P : Program} {w : World} {K : PySem.W.Frag} {mg : Str → Option Value} {base : Heap} {D : Nat → FuncData}
theorem ok_law_is (T : Txt K mg D) : FnOk P w K mg base CX0 3 (He.ga K "_law_is") (D 19) P_law_is (spIs w K) := by
  refine T.F_law_is.ok sc_law_is (fun vs H Q E h => ?_) (fun cdv A outer s H vs Q E hr h => ?_)
  · obtain ⟨p, t, pl, nm, x, y, z, PN, F, ts, rfl, _⟩ := h
    rfl
  · obtain ⟨p, t, pl, nm, x, y, z, PN, Ft, ts, rfl, g, un, sp, ix, tb, hpl, hnm, q⟩ := h
    have nd := sc_law_is.nd
    refine ⟨_, PSs.nox ((pss_cons (ps_set (i := 4) nd rfl (Or.inl rfl) (pe_call (ok_law_every T) (hr.mono (by decide)) (by rfl) T.g_law_every T.kp_law_every (b_law_every T) .nil pass0 (pa_cons (pv 3) pa_nil)))
    (pss_cons (ps_for PassesOwn.never rfl (pi_list (pe_op op_cat (pv 4) (pe_lst (pa_cons (pe_tup (pa_cons (pe_ix ix_list (pv 3) pe_int (fun _ _ => rfl)) pa_nil)) (pa_cons (pe_ix ix_list (pv 3) pe_int (fun _ _ => rfl)) pa_nil))))) (pg_name (i := 5) nd rfl (Or.inr rfl))
    (pss_cons (ps_set (i := 6) nd rfl (Or.inl rfl) (pe_callB (cr_sortD hr.units) (by rfl) T.n_sorted (by decide +kernel) (pa_cons (pe_lock (pe_lc (own := [("_law_number", 11)]) rfl nd (pi_nkeys (pv 1)) (blkOk_by (own := [("_law_number", 11)]) (N := N_law_is) (sc := defScope s_law_is) (by decide +kernel)) (fun _ _ _ _ _ => pg_name (i := 11) nd rfl (Or.inl rfl)) (fun _ _ _ _ _ => pts_one (pt_cmpR (r := rInD K) (op_inD (u65 hr)) (pv 5) (pe_ngetW (w := w) rfl (u9 hr) (pv 1) (pv 11) (fun _ _ => rfl)) rfl)) (fun _ _ _ _ _ => (pv 11)))) pa_nil)))
    (pss_cons (ps_set (i := 7) nd rfl (Or.inl rfl) (pe_meth (pv 0) T.cl_Index T.m_Index_numbers_of (ok_Index_numbers_of T) (hr.mono (by decide)) (b_Index_numbers_of T) .nil pass0 (pa_cons (pv 5) pa_nil)))
    (pss_cons (ps_if (PW.pt (pw_or (pt_not (pt_val (pe_callB call_isiN (by rfl) T.n_isinstance (by decide +kernel) (pa_cons (pv 7) (pa_cons (pe_ty (n := "list") (by rfl) T.n_list (by decide +kernel)) pa_nil))))) (pw_or (pt_cmpR (op_neD hr.units) (pv 7) (pv 6) (nomark _)) (pw_or1 (pt_cmpR op_ne (pe_meth (pv 0) T.cl_Index T.m_Index_how_many (ok_Index_how_many T) (hr.mono (by decide)) (b_Index_how_many T) .nil pass0 (pa_cons (pv 5) pa_nil)) (pe_callB call_len (by rfl) T.n_len (by decide +kernel) (pa_cons (pv 6) pa_nil)) (nomark _)))))) (pss_one (ps_ret pe_bl)) pss_nil)
    (pss_one (ps_expr (pe_bm F.plainAttrs_list F.slot_list_append F.type_list_append mt_append (pv 7) (pa_cons pe_int pa_nil))))))))
    (pss_cons (ps_for PassesOwn.never rfl (pi_list (pe_slice sl_list (pv 3) po_none (po_some pe_int))) (pg_name (i := 8) nd rfl (Or.inl rfl))
    (pss_cons (ps_set (i := 9) nd rfl (Or.inl rfl) (pe_lst pa_nil))
    (pss_cons (ps_for PassesOwn.never rfl (pi_list (pv 4)) (pg_name (i := 5) nd rfl (Or.inr rfl))
    (pss_one (ps_if (PW.pt (pw_and (pt_val (pe_callB call_isiN (by rfl) T.n_isinstance (by decide +kernel) (pa_cons (pv 5) (pa_cons (pe_ty (n := "tuple") (by rfl) T.n_tuple (by decide +kernel)) pa_nil)))) (pw_and (pt_cmpR op_eq (pe_ix ix_tup (pv 5) pe_int (fun _ _ => rfl)) (pv 8) (nomark _)) (pw_and1 (pt_cmpR (op_neD hr.units) (pe_lock (pe_lc (own := [("_law_number", 11)]) rfl nd (pi_nkeys (pv 1)) (blkOk_by (own := [("_law_number", 11)]) (N := N_law_is) (sc := defScope s_law_is) (by decide +kernel)) (fun _ _ _ _ _ => pg_name (i := 11) nd rfl (Or.inl rfl)) (fun _ _ _ _ _ => pts_one (pt_cmpR (r := rInD K) (op_inD (u65 hr)) (pv 5) (pe_ngetW (w := w) rfl (u9 hr) (pv 1) (pv 11) (fun _ _ => rfl)) rfl)) (fun _ _ _ _ _ => (pv 11)))) (pe_lst pa_nil) (nomark _)))))) (pss_one (ps_expr (pe_bm F.plainAttrs_list F.slot_list_append F.type_list_append mt_append (pv 9) (pa_cons (pv 5) pa_nil)))) pss_nil)))
    (pss_one (ps_if (PW.pt (pw_or (pt_cmpR (op_neD hr.units) (pe_meth (pv 0) T.cl_Index T.m_Index_all_keys (ok_Index_all_keys T) (hr.mono (by decide)) (b_Index_all_keys T) .nil pass0 (pa_cons (pv 8) pa_nil)) (pe_callB (cr_sortD hr.units) (by rfl) T.n_sorted (by decide +kernel) (pa_cons (pv 9) pa_nil)) (nomark _)) (pw_or1 (pt_not (pt_val (pe_callB call_isiN (by rfl) T.n_isinstance (by decide +kernel) (pa_cons (pe_meth (pv 0) T.cl_Index T.m_Index_all_keys (ok_Index_all_keys T) (hr.mono (by decide)) (b_Index_all_keys T) .nil pass0 (pa_cons (pv 8) pa_nil)) (pa_cons (pe_ty (n := "list") (by rfl) T.n_list (by decide +kernel)) pa_nil)))))))) (pss_one (ps_ret pe_bl)) pss_nil)))))
    (pss_cons (ps_setLc (i := 10) (own := [("_law_number", 11)]) rfl nd rfl rfl (sw_true rfl rfl rfl (by decide +kernel)) (pi_list (pv 2)) (blkOk_by (own := [("_law_number", 11)]) (N := N_law_is) (sc := defScope s_law_is) (by decide +kernel)) (fun _ _ _ _ _ => pg_name (i := 11) nd rfl (Or.inl rfl)) (fun _ _ _ _ _ => pts_one (pt_cmpR (r := rNeD K) (op_neD hr.units) (pe_nget2W (w := w) rfl (u9 hr) (pv 1) (pv 11) (pe_lst pa_nil) ⟨rfl, rfl, rfl, rfl⟩) (pe_lst pa_nil) (nomark _))) (fun _ _ _ _ _ => (pv 11)))
    (pss_cons (ps_for PassesOwn.never rfl (pi_list (pv 2)) (pg_name (i := 11) nd rfl (Or.inl rfl))
    (pss_one (ps_if (pt_not (pt_val (pe_call (ok_law_bool T) (hr.mono (by decide)) (by rfl) T.g_law_bool T.kp_law_bool (b_law_bool T) .nil pass0 (pa_cons (pe_cmpR (op_own_in (ok_Index_contains T) (hr.mono (by decide)) T.sp_Index_contains (b_Index_contains T) pass0) (pv 11) (pv 0) rfl) (pa_cons (pe_cmpR (op_inD (u65 hr)) (pv 11) (pv 10) rfl) pa_nil))))) (pss_one (ps_ret pe_bl)) pss_nil)))
    (pss_one (ps_ret (pe_cmpR op_eq (pe_callB (call_own_len (ok_Index_len T) (hr.mono (by decide)) T.sp_Index_len (b_Index_len T) pass0) (by rfl) T.n_len (by decide +kernel) (pa_cons (pv 0) pa_nil)) (pe_callB call_len (by rfl) T.n_len (by decide +kernel) (pa_cons (pv 10) pa_nil)) (nomark _)))))))))), ?_⟩
    dsimp only [cxOf, Cx.nox, Cx.wish]
    refine ⟨_, rfl, nm, x, y, z, rfl, hnm, fun us ep H1 kv1 nep k1 hep => ?_⟩
    have i0 : ∀ u v a : V, atI [u, v, a] 2 = some a := fun _ _ _ => rfl
    have hnm1 := k1 _ _ hnm id
    refine ⟨_, rfl, _, rfl, nm, _, _, _, rfl, rfl, SqL.of hnm1, i0 _ _ _, by show 1 ≤ sizeLine; decide, fun t1 nt1 => ⟨_, rfl, nm, _, _, _, rfl, rfl, SqL.of (up_some hnm1 nt1), i0 _ _ _, by show 2 ≤ sizeLine; decide, fun l1 nl1 => ?_⟩⟩
    have k2 : Kp No H1 (upd (upd H1 t1 (.tup [.str z])) l1 (.lst [.ref t1, .str z])) := (Kp.new nt1).trans (Kp.new nl1)
    have ht2 : (upd (upd H1 t1 (.tup [.str z])) l1 (.lst [.ref t1, .str z])) t1 = some (.tup [.str z]) := up_some upd_same nl1
    have hl2 : (upd (upd H1 t1 (.tup [.str z])) l1 (.lst [.ref t1, .str z])) l1 = some (.lst [.ref t1, .str z]) := upd_same
    have hep2 := k2 _ _ hep id
    have kv2 := kv1.keep fun b xs h => k2 _ _ h id
    have k02 := k1.trans k2
    generalize upd (upd H1 t1 (.tup [.str z])) l1 (.lst [.ref t1, .str z]) = H2 at k2 ht2 hl2 hep2 kv2 k02
    refine ⟨ep, l1, _, _, rfl, rfl, hep2, hl2, ?_, fun cl ncl => ?_⟩
    · rw [← kv2.len]; show 10 ≤ sizeLine; decide
    have k3 : Kp No H2 (upd H2 cl (.lst (us ++ [.ref t1, .str z]))) := Kp.new ncl
    have hcl : (upd H2 cl (.lst (us ++ [.ref t1, .str z]))) cl = some (.lst (us ++ [.ref t1, .str z])) := upd_same
    have k03 := k02.trans k3
    have kv10 : KVs (upd H2 cl (.lst (us ++ [.ref t1, .str z]))) (every x y z ++ [.t [.s z], .a z]) (us ++ [.ref t1, .str z]) := (kv2.keep fun b xs h => k3 _ _ h id).append (.cons ⟨t1, rfl, k3 _ _ ht2 id⟩ (.cons rfl .nil))
    have kv3 := kv2.keep fun b xs h => k3 _ _ h id
    have hep3 := k3 _ _ hep2 id
    generalize upd H2 cl (.lst (us ++ [.ref t1, .str z])) = H3 at hcl k03 kv10 kv3 hep3
    have ok10 : ∀ k ∈ every x y z ++ [.t [.s z], .a z], k.ok = true := fun k hk => by
      rcases List.mem_append.mp hk with h | h
      · exact every_ok g k h
      · have c := g.nz.ok
        rcases List.mem_cons.mp h with rfl | h
        · simp [Ky.ok, At.ok, c]
        · rw [List.mem_singleton.mp h]; simp [Ky.ok, c]
    have hasn : ∀ k, (has ts k).Nodup := fun k => List.Pairwise.sublist List.filter_sublist tb.nn
    refine ⟨cl, rfl, ⟨_, SqL.of hcl⟩, for_list (xs := us ++ [.ref t1, .str z]) (fun i σ H' => ∃ a5 a6 a7, σ = [some (.ref p), some (.ref t), some (.ref pl), some (.ref nm), some (.ref ep), a5, a6, a7, none, none, none, none] ∧ Kp No H3 H') ⟨none, none, none, rfl, Kp.refl⟩ (fun i σ H' _ ⟨_, _, _, _, kk⟩ => SqL.of (kk _ _ hcl id)) ?_ ?_⟩
    · rintro i v σ H' hi ⟨a5, a6, a7, rfl, kk⟩
      obtain ⟨k, hk, hkv⟩ := kv10.get hi
      have kok := ok10 k (List.mem_of_getElem? hk)
      have hkv' := hkv.keep fun b xs h => kk _ _ h id
      have k0' := k03.trans kk
      rw [gName, tSeq, tAsg, tCB, tCons]
      refine lc_tab (k := k) (v := v) un (tb.same k0') kok hkv' rfl (fun _ => rfl) (fun _ => rfl) (fun _ => rfl) (fun _ => rfl) fun d H4 k4 nd4 hd4 => ?_
      refine ⟨d, _, _, rfl, SqL.of hd4, dpInts _, alike_ints _, sortable_ints _, depth_ints _, fun zs dq hz ndq => ?_⟩
      have k5 : Kp No H4 (upd H4 dq (.lst (zs.map fun z => z.1))) := Kp.new ndq
      have hdq : (upd H4 dq (.lst (zs.map fun z => z.1))) dq = some (.lst (zs.map fun z => z.1)) := upd_same
      have k35 := (kk.trans k4).trans k5
      generalize upd H4 dq (.lst (zs.map fun z => z.1)) = H5 at k5 hdq k35
      obtain ⟨dx, dn, dk, hp⟩ := ix.at_p
      have hp5 := (k03.trans k35) _ _ hp id
      refine ⟨_, rfl, p, dx, ixF dn dk, rfl, hp5, ixF_no dn dk (by decide +kernel) (by decide +kernel), _, rfl, p, v, k, _, PN, Ft, _, rfl, un, ix.same (k03.trans k35), hkv.keep fun b xs h => k35 _ _ h id, fun l q2 H6 sl ml ipl nq2 k6 hq2 => ?_⟩
      have el : (zs.map fun z => z.1) = l.map V.int := by
        rw [hz]
        exact sort_ints (hasn k) sl fun m => by rw [ml, has_iff tb]
      have hdq6 := k6 _ _ hdq id
      rw [el] at hdq6
      have hp6 := k6 _ _ hp5 id
      have ll : l.length ≤ 1000 := Nat.le_trans (sl.len ipl) un.p
      refine ⟨_, rfl, .ref q2, .ty "list", .type "list", .type "list", true, rfl, .ty "list", .inl (.base (.lst hq2)), kit_ty (by decide +kernel), true, rfl, if_f ?_⟩
      refine ⟨_, rfl, _, rfl, _, _, .lst (SqL.of hq2) (dpInts _), .lst (SqL.of hdq6) (dpInts _), shaped_ints _, shaped_ints _, false, by rw [eqv_ints, decide_eq_true rfl]; rfl, if_f ?_⟩
      refine ⟨_, rfl, p, dx, ixF dn dk, rfl, hp6, ixF_no dn dk (by decide +kernel) (by decide +kernel), _, rfl, p, v, k, _, PN, Ft, _, rfl, un, ix.same ((k03.trans k35).trans k6), hkv.keep fun b xs h => k6 _ _ (k35 _ _ h id) id, fun l2 H7 s2 m2 k7 => ?_⟩
      have e2 : l2 = l := sorted_one s2 sl fun m => by rw [m2, ml]
      subst e2
      refine ⟨_, rfl, _, l2.length, rfl, Or.inl ⟨_, SqL.of (k7 _ _ hdq6 id), by rw [List.length_map]⟩, rfl, false, by simp, if_f ?_⟩
      have hq7 := k7 _ _ hq2 id
      refine ⟨_, rfl, .inl ⟨rfl, _, SqL.of hq7⟩, q2, _, .int 0, rfl, rfl, hq7, by rw [List.length_map]; exact Nat.lt_of_lt_of_le (by omega : l2.length < 2000) (by decide), ?_⟩
      refine ⟨_, _, _, rfl, ?_⟩
      have kx : Kp (fun c => c = q2) H3 (upd H7 q2 (.lst (l2.map V.int ++ [.int 0]))) := (No.all (k35.trans (k6.trans k7))).trans (Kp.put rfl)
      exact kx.drop fun c h => .inr (by rw [h]; exact k35.nil nq2 id)
    · rintro σ H4 ⟨a5, a6, a7, rfl, k34⟩
      have k04 := k03.trans k34
      have hnm4 := k04 _ _ hnm id
      -- by the leads
      refine ⟨_, rfl, 3, rfl, nm, _, rfl, SqL.of hnm4, fun nl nnl => ?_⟩
      have k5 : Kp No H4 (upd H4 nl (.lst (cutV [.str x, .str y, .str z] none (some 3)))) := Kp.new nnl
      have hnl : (upd H4 nl (.lst (cutV [.str x, .str y, .str z] none (some 3)))) nl = some (.lst [.str x, .str y, .str z]) := by
        rw [upd_same, show (3 : Int) = ((3 : Nat) : Int) from rfl, cut_first]; rfl
      have k35 := k34.trans k5
      generalize upd H4 nl (.lst (cutV [.str x, .str y, .str z] none (some 3))) = H5 at k5 hnl k35
      have k05 := k03.trans k35
      refine ⟨nl, rfl, ⟨_, SqL.of hnl⟩, for_list (xs := [.str x, .str y, .str z]) (fun i σ H' => ∃ a5 a6 a7 a8 a9, σ = [some (.ref p), some (.ref t), some (.ref pl), some (.ref nm), some (.ref ep), a5, a6, a7, a8, a9, none, none] ∧ Kp No H5 H') ⟨_, _, _, _, _, rfl, Kp.refl⟩ (fun i σ H' _ ⟨_, _, _, _, _, _, kk⟩ => SqL.of (kk _ _ hnl id)) ?_ ?_⟩
      · rintro i v σ H' hi ⟨a5, a6, a7, a8, a9, rfl, kk⟩
        obtain ⟨ld, rfl, lok⟩ : ∃ ld : Str, v = .str ld ∧ PyData.strOk ld = true := by
          have hv := List.mem_of_getElem? hi
          simp only [List.mem_cons, List.mem_nil_iff, or_false] at hv
          rcases hv with h | h | h
          · exact ⟨x, h, g.nx.ok⟩
          · exact ⟨y, h, g.ny.ok⟩
          · exact ⟨z, h, g.nz.ok⟩
        refine ⟨Nat.zero_le _, fun u0 nu0 => ?_⟩
        have k6 : Kp No H' (upd H' u0 (.lst [])) := Kp.new nu0
        have hu0 : (upd H' u0 (.lst [])) u0 = some (.lst []) := upd_same
        have k56 := kk.trans k6
        have nu5 : H5 u0 = none := kk.nil nu0 id
        generalize upd H' u0 (.lst []) = H6 at k6 hu0 k56
        have k06 := k05.trans k56
        have k36 := k35.trans k56
        have hep6 := k36 _ _ hep3 id
        have kv6 := kv3.keep fun b xs h => k36 _ _ h id
        have epu : ep ≠ u0 := fun e => by
          have := k35 _ _ hep3 id
          rw [e, nu5] at this; cases this
        let occ : Ky → Bool := fun k => lead ld k && !(has ts k).isEmpty
        refine ⟨_, rfl, ep, rfl, ⟨_, SqL.of hep6⟩, for_list (xs := us) (fun j σ H' => ∃ a5 a6 a7 vs, σ = [some (.ref p), some (.ref t), some (.ref pl), some (.ref nm), some (.ref ep), a5, a6, a7, some (.str ld), some (.ref u0), none, none] ∧ Kp (fun c => c = u0) H6 H' ∧ H' u0 = some (.lst vs) ∧ KVs H6 (((every x y z).take j).filter occ) vs)
          ⟨_, _, _, [], rfl, Kp.refl, hu0, .nil⟩ (fun j σ H' _ ⟨_, _, _, _, _, kk, _⟩ => SqL.of (kk _ _ hep6 epu)) ?_ ?_⟩
        · rintro j v σ H7 hj ⟨a5, a6, a7, vs, rfl, k7, hu7, kvs⟩
          obtain ⟨k, hk, hkv⟩ := kv6.get hj
          have kmem := List.mem_of_getElem? hk
          have kok := every_ok g k kmem
          have tu : ∀ b xs, H6 b = some (.tup xs) → ¬ b = u0 := fun b xs h e => by rw [e, hu0] at h; cases h
          have tk : ∀ b xs, H6 b = some (.tup xs) → H7 b = some (.tup xs) := fun b xs h => k7 _ _ h (tu b xs h)
          have et : (every x y z).take (j + 1) = (every x y z).take j ++ [k] := by rw [List.take_add_one, hk]; rfl
          have kvno : occ k = false → KVs H6 (((every x y z).take (j + 1)).filter occ) vs := fun c => by
            rw [et, List.filter_append, List.filter_cons, if_neg (by rw [c]; exact Bool.false_ne_true), List.filter_nil, List.append_nil]
            exact kvs
          have kvyes : occ k = true → KVs H6 (((every x y z).take (j + 1)).filter occ) (vs ++ [v]) := fun c => by
            rw [et, List.filter_append, List.filter_cons, if_pos c, List.filter_nil]
            exact kvs.append (.cons hkv .nil)
          have lvs : vs.length < sizeLine := by
            have e1 := kvs.len
            have e2 := List.length_filter_le occ ((every x y z).take j)
            rw [List.length_take] at e2
            have e3 : (every x y z).length = 8 := rfl
            exact Nat.lt_of_lt_of_le (by omega : vs.length < 2000) (by decide)
          have tb7 : Tb w H7 (every x y z) PN t ts := (tb.same k06).keep k7 (fun e => by have := (tb.same k06).d; rw [e, hu0] at this; cases this) (fun x hx e => by
            have := tb.row x hx
            have h5 := k05 _ _ this id
            rw [e, nu5] at h5; cases h5) tu
          rcases every_shape kmem with ⟨c, rfl⟩ | ⟨c, r, rfl, _⟩
          · have ev : v = .str c := hkv
            refine ⟨_, rfl, v, .ty "tuple", .type "str", .type "tuple", false, rfl, .ty "tuple", ?_, kit_ty (by decide +kernel), false, rfl, if_f (if_f ?_)⟩
            · rw [ev]; exact .inl (.base (.str c))
            · exact ⟨_, _, _, vs, rfl, k7, hu7, kvno rfl⟩
          · obtain ⟨a, ev, ha⟩ := hkv
            have ha7 := tk _ _ ha
            refine ⟨_, rfl, v, .ty "tuple", .type "tuple", .type "tuple", true, rfl, .ty "tuple", ?_, kit_ty (by decide +kernel), true, rfl, if_t ?_⟩
            · rw [ev]; exact .inl (.base (.tup ha7))
            refine ⟨_, rfl, a, _, 0, .str c, ev, rfl, SqT.of ha7, atI_nat (j := 0) rfl, _, rfl, rfl, decide (c = ld), by simp, ?_⟩
            refine ite2 (fun cc => ?_) (fun cc => ?_)
            · have cc : c = ld := of_decide_eq_true cc
              have cl : lead ld (.t (.s c :: r)) = true := decide_eq_true cc
              rw [tTest, tOp]
              refine lc_tab (k := .t (.s c :: r)) (v := v) un tb7 kok ⟨a, ev, ha7⟩ rfl (fun _ => rfl) (fun _ => rfl) (fun _ => rfl) (fun _ => rfl) fun d H8 k8 nd8 hd8 => ?_
              refine ⟨Nat.zero_le _, fun e ne => ?_⟩
              have k9 : Kp No H8 (upd H8 e (.lst [])) := Kp.new ne
              refine ⟨_, _, .lst (SqL.of (k9 _ _ hd8 id)) (dpInts _), .lst (SqL.of upd_same) .nil, shaped_ints _, by decide, !(has ts (.t (.s c :: r))).isEmpty, ?_, ?_⟩
              · rw [show ([] : List PyData) = ([] : List Int).map PyData.int from rfl, eqv_ints]
                cases has ts (.t (.s c :: r)) <;> simp
              have k79 := k8.trans k9
              have hu9 := k79 _ _ hu7 id
              refine ite2 (fun c2 => ?_) (fun c2 => ?_)
              · have oc : occ (.t (.s c :: r)) = true := by
                  show (lead ld _ && _) = true
                  rw [cl, c2]; rfl
                refine ⟨_, rfl, .inl ⟨rfl, _, SqL.of hu9⟩, _, rfl, u0, vs, v, rfl, rfl, hu9, lvs, ?_⟩
                exact ⟨_, _, _, vs ++ [v], rfl, (k7.trans (No.all k79)).trans (Kp.put rfl), upd_same, kvyes oc⟩
              · have oc : occ (.t (.s c :: r)) = false := by
                  show (lead ld _ && _) = false
                  rw [cl]; simpa using c2
                exact ⟨_, _, _, vs, rfl, k7.trans (No.all k79), hu9, kvno oc⟩
            · have oc : occ (.t (.s c :: r)) = false := by
                show (decide (c = ld) && _) = false
                rw [Bool.not_eq_true] at cc
                rw [cc]; rfl
              refine if_f ?_
              exact ⟨_, _, _, vs, rfl, k7, hu7, kvno oc⟩
        · rintro σ H7 ⟨a5, a6, a7, vs, rfl, k7, hu7, kvs⟩
          have ka : Kp No H5 H7 := (k56.trans Kp.refl).trans (F := No) (Kp.refl) |> fun h => (((No.all (F := fun c => c = u0) h).trans k7).drop fun c h => .inr (h ▸ nu5))
          have k07 := k05.trans ka
          have e8 : (every x y z).take us.length = every x y z := by rw [← kv6.len, List.take_length]
          rw [e8] at kvs
          have tu : ∀ b xs, H6 b = some (.tup xs) → ¬ b = u0 := fun b xs h e => by rw [e, hu0] at h; cases h
          have kvs7 := kvs.keep fun b xs h => k7 _ _ h (tu b xs h)
          have uf : ∀ k ∈ (every x y z).filter occ, k ∈ every x y z ∧ lead ld k = true := fun k hk => by
            obtain ⟨h1, h2⟩ := List.mem_filter.mp hk
            exact ⟨h1, (Bool.and_eq_true_iff.mp h2).1⟩
          obtain ⟨dx, dn, dk, hp⟩ := ix.at_p
          have hp7 := k07 _ _ hp id
          refine ⟨_, rfl, p, dx, ixF dn dk, rfl, hp7, ixF_no dn dk (by decide +kernel) (by decide +kernel), _, rfl, p, ld, _, PN, Ft, _, rfl, lok, un, ix.same k07, every_alike g ld, fun l ws q1 H8 ln lm lU kvl nq1 k8 hq1 => ?_⟩
          have hu8 := k8 _ _ hu7 id
          have kvs8 := kvs7.keep fun b xs h => k8 _ _ h id
          refine ⟨_, rfl, u0, vs, _, rfl, SqL.of hu8, kvs8.dp, fun a ha b hb => ?_, .inl fun a ha => ?_, fun a ha => ?_, fun zs q2 hz nq2 => ?_⟩
          · obtain ⟨k1, h1, rfl⟩ := List.mem_map.mp ha
            obtain ⟨k2, h2, rfl⟩ := List.mem_map.mp hb
            exact every_alike g ld k1 (uf k1 h1).1 k2 (uf k2 h2).1 (uf k1 h1).2 (uf k2 h2).2
          · obtain ⟨x, hx, rfl⟩ := List.mem_map.mp ha
            have hl := (uf x hx).2
            cases x with
            | a x => cases hl
            | t l => cases l with
              | nil => cases hl
              | cons c r => exact ⟨c.d, r.map At.d, rfl⟩
          · obtain ⟨x, hx, rfl⟩ := List.mem_map.mp ha
            exact Nat.le_trans (Ky.dep x) (by decide)
          have skl := sort_keys kvs8
          rw [← hz] at skl
          have es : l.mergeSort leK = ((every x y z).filter occ).mergeSort leK := by
            refine sort_one Ky.d ((List.perm_ext_iff_of_nodup ln (List.Pairwise.sublist List.filter_sublist (every_nodup g))).mpr fun k => ?_) (fun a ha b hb => ?_) (fun a ha b hb h => ?_)
            · rw [lm, List.mem_filter]
              constructor
              · rintro ⟨h1, n, h2⟩
                refine ⟨lU k ((lm k).mpr ⟨h1, n, h2⟩), ?_⟩
                show (lead ld k && !(has ts k).isEmpty) = true
                rw [h1]
                have := (has_iff tb k n).mpr h2
                cases q : has ts k with
                | nil => rw [q] at this; cases this
                | cons a r => rfl
              · rintro ⟨h1, h2⟩
                obtain ⟨h3, h4⟩ := Bool.and_eq_true_iff.mp h2
                refine ⟨h3, ?_⟩
                cases q : has ts k with
                | nil => rw [q] at h4; cases h4
                | cons n r => exact ⟨n, (has_iff tb k n).mp (by rw [q]; exact List.mem_cons_self)⟩
            · exact every_alike g ld a (lU a ha) b (lU b hb) ((lm a).mp ha).1 ((lm b).mp hb).1
            · rw [Ky.eqv] at h
              exact of_decide_eq_true h
          have k9 : Kp No H8 (upd H8 q2 (.lst (zs.map fun z => z.1))) := Kp.new nq2
          have okl : ∀ k ∈ l.mergeSort leK, k.ok = true := fun k hk => every_ok g k (lU k ((List.mergeSort_perm l leK).mem_iff.mp hk))
          rw [← es] at skl
          refine ⟨_, _, .lst (SqL.of (k9 _ _ hq1 id)) (kvl.keep fun b xs h => k9 _ _ h id).dp, .lst (SqL.of upd_same) (skl.keep fun b xs h => k9 _ _ h id).dp, shaped_list okl, shaped_list okl, false, by rw [eqv_keys, decide_eq_true rfl]; rfl, if_f ?_⟩
          have k09 := (k07.trans k8).trans k9
          refine ⟨_, rfl, p, dx, ixF dn dk, rfl, k9 _ _ (k8 _ _ hp7 id) id, ixF_no dn dk (by decide +kernel) (by decide +kernel), _, rfl, p, ld, _, PN, Ft, _, rfl, lok, un, ix.same k09, every_alike g ld, fun l' ws' q3 H10 _ _ _ _ _ k10 hq3 => ?_⟩
          refine ⟨.ref q3, .ty "list", .type "list", .type "list", true, rfl, .ty "list", .inl (.base (.lst hq3)), kit_ty (by decide +kernel), true, rfl, if_f ?_⟩
          exact ⟨_, _, _, _, _, rfl, ((ka.trans k8).trans k9).trans k10⟩
      · rintro σ H6 ⟨a5, a6, a7, a8, a9, rfl, k56⟩
        have k06 := k05.trans k56
        have hpl6 := k06 _ _ hpl id
        have tb6 := tb.same k06
        -- the numbers that are there
        refine ⟨_, rfl, pl, rfl, ⟨_, SqL.of hpl6⟩, fun d nd6 => ?_⟩
        have pld : pl ≠ d := ne_of_none hpl6 nd6
        refine lc_list (xs := PN.map V.int) (fun i H' => Kp (fun c => c = d) H6 H' ∧ H' d = some (.lst (((PN.take i).filter fun n => !(tabT ts n).isEmpty).map V.int))) ⟨Kp.put rfl, upd_same⟩ (fun i H' _ h => SqL.of (h.1 _ _ hpl6 pld)) ?_ ?_
        · rintro i v H' hi ⟨kk, hd⟩
          obtain ⟨n, hn, rfl⟩ : ∃ n, PN[i]? = some n ∧ v = .int n := by
            rw [List.getElem?_map] at hi
            cases e : PN[i]? with
            | none => rw [e] at hi; cases hi
            | some n => rw [e] at hi; exact ⟨n, rfl, (Option.some.inj hi).symm⟩
          have dt : ∀ b o, H6 b = some o → ¬ b = d := fun b o h => ne_of_none h nd6
          have tb' : Tb w H' (every x y z) PN t ts := tb6.keep kk (dt _ _ tb6.d) (fun x hx => dt _ _ (tb6.row x hx)) fun b xs h => dt _ _ h
          refine ⟨rfl, _, rfl, t, rfl, ⟨_, tb'.dn.r⟩, _, rfl, Nat.zero_le _, fun e ne => ?_⟩
          have k7 : Kp No H' (upd H' e (.lst [])) := Kp.new ne
          obtain ⟨r, us', er, hr, kvr⟩ := trow_of (tb'.same k7) n e upd_same
          refine ⟨_, .num n, (tb'.same k7).dn.r, KAt.int n, ?_⟩
          rw [er]
          refine ⟨Nat.zero_le _, fun e2 ne2 => ?_⟩
          have k8 : Kp No (upd H' e (.lst [])) (upd (upd H' e (.lst [])) e2 (.lst [])) := Kp.new ne2
          have sub := tb.sub n
          refine ⟨_, _, .lst (SqL.of (k8 _ _ hr id)) (kvr.keep fun b xs h => k8 _ _ h id).dp, .lst (SqL.of upd_same) .nil, shaped_list fun k hk => every_ok g k (sub.1 k hk), by decide, !(tabT ts n).isEmpty, ?_, ?_⟩
          · rw [show ([] : List PyData) = ([] : List Ky).map Ky.d from rfl, eqv_keys]
            cases tabT ts n <;> simp
          have et : PN.take (i + 1) = PN.take i ++ [n] := by rw [List.take_add_one, hn]; rfl
          have hd' := k8 _ _ (k7 _ _ hd id) id
          have lf : ((PN.take i).filter fun n => !(tabT ts n).isEmpty).length < sizeLine := by
            have e2 := List.length_filter_le (fun n => !(tabT ts n).isEmpty) (PN.take i)
            rw [List.length_take] at e2
            have := un.p
            exact Nat.lt_of_lt_of_le (by omega : _ < 2000) (by decide)
          refine ite2 (fun c => ?_) (fun c => ?_)
          · refine ⟨_, rfl, _, hd', by rw [List.length_map]; exact lf, (kk.trans (No.all (k7.trans k8))).trans (Kp.put rfl), ?_⟩
            rw [upd_same, et, List.filter_append, List.filter_cons, if_pos c, List.filter_nil, List.map_append]; rfl
          · refine ⟨kk.trans (No.all (k7.trans k8)), ?_⟩
            rw [et, List.filter_append, List.filter_cons, if_neg c, List.filter_nil, List.append_nil]
            exact hd'
        · rintro H7 ⟨kk, hd⟩
          rw [List.length_map, List.take_length] at hd
          have k67 : Kp No H6 H7 := kk.drop fun c h => .inr (h ▸ nd6)
          have k07 := k06.trans k67
          have hpl7 := k07 _ _ hpl id
          obtain ⟨dx, dn, dk, hp⟩ := ix.at_p
          refine ⟨_, rfl, pl, rfl, ⟨_, SqL.of hpl7⟩, for_list (xs := PN.map V.int) (fun i σ H' => H' = H7 ∧ ∃ a11, σ = [some (.ref p), some (.ref t), some (.ref pl), some (.ref nm), some (.ref ep), a5, a6, a7, a8, a9, some (.ref d), a11]) ⟨rfl, _, rfl⟩ (fun i σ H' _ h => h.1 ▸ SqL.of hpl7) ?_ ?_⟩
          · rintro i v σ H' hi ⟨rfl, a11, rfl⟩
            obtain ⟨n, hn, rfl⟩ : ∃ n, PN[i]? = some n ∧ v = .int n := by
              rw [List.getElem?_map] at hi
              cases e : PN[i]? with
              | none => rw [e] at hi; cases hi
              | some n => rw [e] at hi; exact ⟨n, rfl, (Option.some.inj hi).symm⟩
            refine ⟨_, rfl, _, rfl, p, dx, ixF dn dk, rfl, k07 _ _ hp id, p, n, _, PN, Ft, _, rfl, ix.same k07, _, rfl, _, rfl, _, rfl, .int n, _, .int n, .lst (SqL.of hd) (dpInts _), rfl, shaped_ints _, ?_⟩
            refine ⟨_, _, rfl, true, ?_, if_f ⟨rfl, _, rfl⟩⟩
            rw [any_ints]
            have e : decide (n ∈ PN.filter fun n => !(tabT ts n).isEmpty) = !(tabT ts n).isEmpty := by
              have hm := List.mem_of_getElem? hn
              rw [Bool.eq_iff_iff, decide_eq_true_iff, List.mem_filter]
              exact ⟨fun h => h.2, fun h => ⟨hm, h⟩⟩
            rw [e]; simp
          · rintro σ H' ⟨rfl, a11, rfl⟩
            have lf : (PN.filter fun n => !(tabT ts n).isEmpty).length ≤ 1000 := Nat.le_trans (List.length_filter_le _ _) un.p
            refine ⟨_, rfl, p, dx, ixF dn dk, rfl, k07 _ _ hp id, p, _, PN, Ft, _, rfl, sp.imp fun h => by omega, un, ix.same k07, _, rfl, ⟨by omega, by omega⟩, _, rfl, _, (PN.filter fun n => !(tabT ts n).isEmpty).length, rfl, Or.inl ⟨_, SqL.of hd, by rw [List.length_map]⟩, rfl, ?_⟩
            have e : decide (V.int ((PN.filter fun n => !(tabT ts n).isEmpty).length : Int) = V.int ((PN.filter fun n => !(tabT ts n).isEmpty).length : Int)) = true := decide_eq_true rfl
            rw [e]
            exact q _ k07
end
end K50

set_option Elab.async false
set_option linter.all false
set_option maxRecDepth 100000
set_option maxHeartbeats 4000000
namespace K50
open PySem PySem.Spec L2 ND
open PySem.W (AllAlike Sortable dataLe alike)
/-! ### the law's own things -/
structure S (w : World) (H : Hp) (x y z : Str) (PN : List Int) (bg nm pl t : Addr) (ts : List TN) : Prop where
  bag : BagAt H bg
  hn : H nm = some (.lst [.str x, .str y, .str z])
  hl : H pl = some (.lst (PN.map V.int))
  tb : Tb w H (every x y z) PN t ts
  nb : nm ≠ bg
  pb : pl ≠ bg
  rb : ∀ e ∈ ts, e.a ≠ bg
def Pr (bg nm pl t : Addr) (ts : List TN) : Addr → Prop := fun c => c = bg ∨ c = nm ∨ c = pl ∨ c = t ∨ ∃ e ∈ ts, c = e.a
section
variable {w : World} {K : PySem.W.Frag} {H H' : Hp} {x y z : Str} {PN : List Int} {bg nm pl t : Addr} {ts : List TN}
theorem S.keep {G : Addr → Prop} (s : S w H x y z PN bg nm pl t ts) (k : Kp G H H') (n : ∀ c, Pr bg nm pl t ts c → ¬ G c) (nt : ∀ b xs, H b = some (.tup xs) → ¬ G b) : S w H' x y z PN bg nm pl t ts :=
  ⟨s.bag.keep k (n _ (.inl rfl)), k _ _ s.hn (n _ (.inr (.inl rfl))), k _ _ s.hl (n _ (.inr (.inr (.inl rfl)))), s.tb.keep k (n _ (.inr (.inr (.inr (.inl rfl))))) (fun e he => n _ (.inr (.inr (.inr (.inr ⟨e, he, rfl⟩))))) nt, s.nb, s.pb, s.rb⟩
theorem S.same (s : S w H x y z PN bg nm pl t ts) (k : Kp No H H') : S w H' x y z PN bg nm pl t ts := s.keep k (fun _ _ => id) fun _ _ _ => id
theorem S.tbg (s : S w H x y z PN bg nm pl t ts) : t ≠ bg := fun e => by
  obtain ⟨o, h, a, b, rfl, _⟩ := s.bag
  rw [← e, s.tb.d] at h; cases h
theorem S.bagk (s : S w H x y z PN bg nm pl t ts) (k : Kp (fun c => c = bg) H H') (b : BagAt H' bg) : S w H' x y z PN bg nm pl t ts :=
  ⟨b, k _ _ s.hn s.nb, k _ _ s.hl s.pb, s.tb.keep k s.tbg s.rb fun _ _ h => s.bag.tup h, s.nb, s.pb, s.rb⟩
theorem S.got (s : S w H x y z PN bg nm pl t ts) {c : Addr} (h : Pr bg nm pl t ts c) : H c ≠ none := by
  rcases h with rfl | rfl | rfl | rfl | ⟨e, he, rfl⟩
  · obtain ⟨o, h, _⟩ := s.bag
    rw [h]; exact fun q => nomatch q
  · rw [s.hn]; exact fun q => nomatch q
  · rw [s.hl]; exact fun q => nomatch q
  · rw [s.tb.d]; exact fun q => nomatch q
  · rw [s.tb.row e he]; exact fun q => nomatch q
theorem S.ins (s : S w H x y z PN bg nm pl t ts) {p C dx : Addr} {fs : List (Str × V)} (h : H p = some (.ins C dx fs)) : ¬ Pr bg nm pl t ts p := by
  rintro (rfl | rfl | rfl | rfl | ⟨e, he, rfl⟩)
  · obtain ⟨o, h', a, b, rfl, _⟩ := s.bag
    rw [h] at h'; cases h'
  · rw [s.hn] at h; cases h
  · rw [s.hl] at h; cases h
  · rw [s.tb.d] at h; cases h
  · rw [s.tb.row e he] at h; cases h
/-- an index stands when the bag goes on -/
theorem Ix.bagk {U : List Ky} {p : Addr} {F : Addr → Prop} {T : Int → List Ky} (ix : Ix w K H U PN p F T) (b : BagAt H bg) (n : ¬ F bg) (k : Kp (fun c => c = bg) H H') : Ix w K H' U PN p F T := by
  obtain ⟨dx, dn, dk, hp⟩ := ix.at_p
  refine ix.keep k (fun e => ?_) (fun c f e => n (e ▸ f)) fun _ _ h => b.tup h
  obtain ⟨o, h, a, c, rfl, _⟩ := b
  rw [← e, hp] at h; cases h
/-- .. when the table is written -/
theorem Ix.tabk {U : List Ky} {p : Addr} {F : Addr → Prop} {T : Int → List Ky} (ix : Ix w K H U PN p F T) {xs : List EntV} (b : H t = some (dictO w t xs)) (n : ¬ F t) (k : Kp (fun c => c = t) H H') : Ix w K H' U PN p F T := by
  obtain ⟨dx, dn, dk, hp⟩ := ix.at_p
  refine ix.keep k (fun e => ?_) (fun c f e => n (e ▸ f)) fun _ _ h => tup_ne_d b h
  rw [e, b] at hp; cases hp
def putT (ts : List TN) (n : Int) (a : Addr) (ks : List Ky) (us : List V) : List TN := if ∃ x ∈ ts, x.n = n then ts.map (fun y => if y.n = n then ⟨n, a, ks, us⟩ else y) else ts ++ [⟨n, a, ks, us⟩]
theorem putT_e {n : Int} {a : Addr} {ks : List Ky} {us : List V} (nn : (ts.map (·.n)).Nodup) : (putT ts n a ks us).map TN.e = storeN (ts.map TN.e) (.num n) (.int n) (.ref a) := by
  unfold putT
  rcases tum_in ts n with h | h
  · obtain ⟨x, hx, e⟩ := id h
    rw [if_pos h]
    subst e
    rw [storeN_old (ts_some nn hx).1, List.map_map, List.map_map]
    apply List.map_congr_left
    intro y _
    show TN.e (if y.n = x.n then _ else y) = repN (.num x.n) (.ref a) (.num y.n, .int y.n, .ref y.a)
    unfold repN
    by_cases e : y.n = x.n
    · rw [if_pos e, if_pos (by rw [e])]
      show (NestedKey.num x.n, V.int x.n, V.ref a) = (NestedKey.num y.n, V.int y.n, V.ref a)
      rw [e]
    · rw [if_neg e, if_neg (fun z => e (by injection z))]; rfl
  · rw [if_neg (fun ⟨x, hx, e⟩ => h x hx e), storeN_new (ts_none h).1, List.map_append]; rfl
theorem mem_putT {n : Int} {a : Addr} {ks : List Ky} {us : List V} {y : TN} (h : y ∈ putT ts n a ks us) : y = ⟨n, a, ks, us⟩ ∨ (y ∈ ts ∧ y.n ≠ n) := by
  unfold putT at h
  split at h
  · obtain ⟨x, hx, rfl⟩ := List.mem_map.mp h
    by_cases e : x.n = n
    · rw [if_pos e]; exact .inl rfl
    · rw [if_neg e]; exact .inr ⟨hx, e⟩
  · rename_i c
    rcases List.mem_append.mp h with a | a
    · exact .inr ⟨a, fun e => c ⟨y, a, e⟩⟩
    · exact .inl (List.mem_singleton.mp a)
theorem putT_n {n : Int} {a : Addr} {ks : List Ky} {us : List V} (nn : (ts.map (·.n)).Nodup) : ((putT ts n a ks us).map (·.n)).Nodup := by
  unfold putT
  split
  · have : (ts.map fun y => if y.n = n then (⟨n, a, ks, us⟩ : TN) else y).map (·.n) = ts.map (·.n) := by
      rw [List.map_map]
      apply List.map_congr_left
      intro y _
      show (if y.n = n then (⟨n, a, ks, us⟩ : TN) else y).n = y.n
      split
      · rename_i e; exact e.symm
      · rfl
    rw [this]; exact nn
  · rename_i c
    rw [List.map_append, List.nodup_append]
    refine ⟨nn, by simp, fun a ha b hb e => ?_⟩
    obtain ⟨x, hx, rfl⟩ := List.mem_map.mp ha
    have : b = n := by simpa using hb
    exact c ⟨x, hx, e.trans this⟩
theorem mem_putT_self {n : Int} {a : Addr} {ks : List Ky} {us : List V} : (⟨n, a, ks, us⟩ : TN) ∈ putT ts n a ks us := by
  unfold putT
  split
  · rename_i c
    obtain ⟨x, hx, e⟩ := c
    exact List.mem_map.mpr ⟨x, hx, if_pos e⟩
  · exact List.mem_append_right _ List.mem_cons_self
theorem mem_putT_old {n : Int} {a : Addr} {ks : List Ky} {us : List V} {y : TN} (h : y ∈ ts) (e : y.n ≠ n) : y ∈ putT ts n a ks us := by
  unfold putT
  split
  · exact List.mem_map.mpr ⟨y, h, if_neg e⟩
  · exact List.mem_append_left _ h
theorem tabT_put {n : Int} {a : Addr} {ks : List Ky} {us : List V} (nn : (ts.map (·.n)).Nodup) (m : Int) : tabT (putT ts n a ks us) m = if m = n then ks else tabT ts m := by
  by_cases e : m = n
  · subst e
    rw [if_pos rfl]
    exact (ts_some (x := ⟨m, a, ks, us⟩) (putT_n nn) mem_putT_self).2
  · rw [if_neg e]
    rcases tum_in ts m with ⟨x, hx, rfl⟩ | h
    · rw [(ts_some nn hx).2, (ts_some (putT_n nn) (mem_putT_old hx e)).2]
    · rw [(ts_none h).2]
      refine (ts_none fun y hy z => ?_).2
      rcases mem_putT hy with q | q
      · rw [q] at z; exact e z.symm
      · exact h y q.1 z
/-- the table written -/
theorem S.put (s : S w H x y z PN bg nm pl t ts) {n : Int} {a : Addr} {ks : List Ky} {us : List V} (ha : H a = Option.some (.lst us)) (kv : KVs H ks us) (l : ks.length ≤ 1000) (iu : ∀ k ∈ ks, k ∈ every x y z) (ip : n ∈ PN) (ab : a ≠ bg) :
    S w (upd H t (dictO w t (storeN (ts.map TN.e) (.num n) (.int n) (.ref a)))) x y z PN bg nm pl t (putT ts n a ks us) := by
  have lt : ∀ {c : Addr} {l : List V}, H c = Option.some (.lst l) → c ≠ t := fun h => dk_ne s.tb.d h
  have tk : ∀ b xs, H b = Option.some (.tup xs) → (upd H t (dictO w t (storeN (ts.map TN.e) (.num n) (.int n) (.ref a)))) b = Option.some (.tup xs) := fun b xs e => by rw [upd_ne (tup_ne_d s.tb.d e)]; exact e
  have bb : BagAt (upd H t (dictO w t (storeN (ts.map TN.e) (.num n) (.int n) (.ref a)))) bg := by
    obtain ⟨o, h, i⟩ := s.bag
    exact ⟨o, by rw [upd_ne s.tbg.symm]; exact h, i⟩
  refine ⟨bb, by rw [upd_ne (lt s.hn)]; exact s.hn, by rw [upd_ne (lt s.hl)]; exact s.hl, ⟨by rw [upd_same, putT_e s.tb.nn], fun e he => ?_, fun e he => ?_, fun e he => ?_, fun e he => ?_, fun e he => ?_, putT_n s.tb.nn⟩, s.nb, s.pb, fun e he => ?_⟩ <;> rcases mem_putT he with rfl | ⟨m, _⟩
  · rw [upd_ne (lt ha)]; exact ha
  · rw [upd_ne (lt (s.tb.row e m))]; exact s.tb.row e m
  · exact kv.keep tk
  · exact (s.tb.kv e m).keep tk
  · exact l
  · exact s.tb.len e m
  · exact iu
  · exact s.tb.inU e m
  · exact ip
  · exact s.tb.inP e m
  · exact ab
  · exact s.rb e m
theorem KVs.rev {ks : List Ky} {us : List V} (h : KVs H ks us) : KVs H ks.reverse us.reverse := by
  induction h with
  | nil => exact .nil
  | cons a _ ih => rw [List.reverse_cons, List.reverse_cons]; exact ih.append (.cons a .nil)
end
theorem Kp.ext {F : Addr → Prop} {H0 H H' : Hp} (a : Kp No H0 H) (b : Kp F H H') (h : ∀ c, F c → H0 c = none) : Kp No H0 H' := ((No.all a).trans b).drop fun c f => .inr (h c f)
/-- tuple(keys) if lap % 2 == 1 else list(keys) -/
theorem given_ok {K : PySem.W.Frag} {σ : L2.St} {H : Hp} {Q : VK} {L : Int} {kp : Addr} {us : List V} (h8 : σ[8]? = some (some (.int L))) (h10 : σ[10]? = some (some (.ref kp))) (hk : H kp = some (.lst us))
    (q : ∀ (ga : Addr) (H' : Hp), Kp No H H' → H ga = none → (L % 2 = 1 ∧ H' ga = some (.tup us)) ∨ (L % 2 ≠ 1 ∧ H' ga = some (.lst us)) → Q (.ref ga) H') :
    tIf (tTest (tOp rEq (tOp (rI (fun _ j => 0 < j) fun i j => .int (i % j)) (tVar 8) (tC (.int 2))) (tC (.int 1))))
      (tCB (fun xs H Q => ∃ p ys, xs = [.ref p] ∧ ((SqL K H p ys ∧ ∀ l, H l = none → Q (.ref l) (upd H l (.tup ys))) ∨ (SqT K H p ys ∧ Q (.ref p) H))) (tCons (tVar 10) tNil))
      (tCB (fun xs H Q => ∃ p ys, xs = [.ref p] ∧ (SqL K H p ys ∨ SqT K H p ys) ∧ ∀ l, H l = none → Q (.ref l) (upd H l (.lst ys))) (tCons (tVar 10) tNil)) σ H Q := by
  refine ⟨_, h8, _, _, rfl, rfl, (by show (0 : Int) < _; decide), rfl, decide (L % 2 = 1), by simp, ?_⟩
  refine ite2 (fun c => ?_) (fun c => ?_)
  · exact ⟨_, h10, kp, us, rfl, .inl ⟨SqL.of hk, fun ga nga => q ga _ (Kp.new nga) nga (.inl ⟨of_decide_eq_true c, upd_same⟩)⟩⟩
  · exact ⟨_, h10, kp, us, rfl, .inl (SqL.of hk), fun ga nga => q ga _ (Kp.new nga) nga (.inr ⟨fun e => c (decide_eq_true e), upd_same⟩)⟩
/-- if lap % 2 == 0: given.append(names[2]) -/
theorem append_ok {K : PySem.W.Frag} {σ : L2.St} {H : Hp} {D : Ends} {L : Int} {ga nm : Addr} {us : List V} {x y z : Str} (h8 : σ[8]? = some (some (.int L))) (h11 : σ[11]? = some (some (.ref ga))) (h3 : σ[3]? = some (some (.ref nm))) (hn : H nm = some (.lst [.str x, .str y, .str z])) (hl : us.length ≤ 1000)
    (hg : (L % 2 = 1 ∧ H ga = some (.tup us)) ∨ (L % 2 ≠ 1 ∧ H ga = some (.lst us))) (q : ∀ H', Kp (fun c => c = ga ∧ H ga = some (.lst us)) H H' → D.nx σ H') :
    tIfS (tTest (tOp rEq (tOp (rI (fun _ j => 0 < j) fun i j => .int (i % j)) (tVar 8) (tC (.int 2))) (tC (.int 0)))) (tDrop (tBM K "list" rAppend (tVar 11) (tCons (tOp (rIxL K) (tVar 3) (tC (.int 2))) tNil))) tNext D σ H := by
  refine ⟨_, h8, _, _, rfl, rfl, (by show (0 : Int) < _; decide), rfl, decide (L % 2 = 0), by simp, ?_⟩
  refine ite2 (fun c => ?_) (fun c => ?_)
  · have c := of_decide_eq_true c
    rcases hg with ⟨c2, _⟩ | ⟨_, hg⟩
    · omega
    · exact ⟨_, h11, .inl ⟨rfl, _, SqL.of hg⟩, _, h3, nm, _, _, _, rfl, rfl, SqL.of hn, rfl, ga, us, _, rfl, rfl, hg, Nat.lt_of_lt_of_le (by omega : us.length < 2000) (by decide), q _ (Kp.put ⟨rfl, hg⟩)⟩
  · exact q _ Kp.refl
/-- [names[0]] if not _law_same(table.get(number, []), [names[0]]) else [] -/
theorem other_ok {w : World} {K : PySem.W.Frag} {σ : L2.St} {H : Hp} {Q : VK} {n : Int} {x y z : Str} {PN : List Int} {bg nm pl t : Addr} {ts : List TN} (g : Good x y z) (un : Un (every x y z) PN) (s : S w H x y z PN bg nm pl t ts) (h9 : σ[9]? = some (some (.int n))) (h7 : σ[7]? = some (some (.ref t))) (h3 : σ[3]? = some (some (.ref nm)))
    (q : ∀ (ks : List Ky) (us : List V) (op : Addr) (H' : Hp), Kp No H H' → H op = none → H' op = some (.lst us) → KVs H' ks us → (∀ k ∈ ks, k ∈ every x y z) → ks.length ≤ 1 → sameK (tabT ts n) ks = false → Q (.ref op) H') :
    tIf (tNot (tB (tCall spSame [] E0 (tCons (tNGet2 w (tVar 7) (tVar 9) (tLst tNil)) (tCons (tLst (tCons (tOp (rIxL K) (tVar 3) (tC (.int 0))) tNil)) tNil))))) (tLst (tCons (tOp (rIxL K) (tVar 3) (tC (.int 0))) tNil)) (tLst tNil) σ H Q := by
  refine ⟨_, h7, t, rfl, ⟨_, s.tb.dn.r⟩, _, h9, Nat.zero_le _, fun e ne => ?_⟩
  have k1 : Kp No H (upd H e (.lst [])) := Kp.new ne
  obtain ⟨r, us', er, hr, kvr⟩ := trow_of (s.tb.same k1) n e upd_same
  have sub := s.tb.sub n
  refine ⟨_, .num n, (s.tb.same k1).dn.r, KAt.int n, ?_⟩
  rw [er]
  have hn1 := k1 _ _ s.hn id
  refine ⟨_, h3, nm, _, _, _, rfl, rfl, SqL.of hn1, rfl, by show 1 ≤ sizeLine; decide, fun l1 nl1 => ?_⟩
  have k2 : Kp No (upd H e (.lst [])) (upd (upd H e (.lst [])) l1 (.lst [.str x])) := Kp.new nl1
  have hx : Ky.a x ∈ every x y z := List.mem_cons_self
  refine ⟨r, l1, tabT ts n, [.a x], us', [.str x], rfl, k2 _ _ hr id, upd_same, kvr.keep fun b xs h => k2 _ _ h id, .cons rfl .nil, fun k hk => every_ok g k (sub.1 k hk), fun k hk => by rw [List.mem_singleton.mp hk]; exact every_ok g _ hx, sub.2, by show 1 ≤ 1000; decide, fun H3 k3 => ⟨_, rfl, ?_⟩⟩
  have k13 := (k1.trans k2).trans k3
  have hn3 := k13 _ _ s.hn id
  refine ite2 (fun c => ?_) (fun c => ?_)
  · have c : sameK (tabT ts n) [.a x] = false := by simpa using c
    refine ⟨_, h3, nm, _, _, _, rfl, rfl, SqL.of hn3, rfl, by show 1 ≤ sizeLine; decide, fun op nop => ?_⟩
    exact q [.a x] [.str x] op _ (k13.trans (Kp.new nop)) (k13.nil nop id) upd_same (.cons rfl .nil) (fun k hk => by rw [List.mem_singleton.mp hk]; exact hx) (by show 1 ≤ 1; decide) c
  · have c : sameK (tabT ts n) [.a x] = true := by simpa using c
    refine ⟨Nat.zero_le _, fun op nop => ?_⟩
    refine q [] [] op _ (k13.trans (Kp.new nop)) (k13.nil nop id) upd_same .nil (fun _ h => (nomatch h)) (by show 0 ≤ 1; decide) ?_
    cases h : sameK (tabT ts n) [] with
    | false => rfl
    | true =>
      have h1 := (sameK_iff.mp c (.a x)).mpr List.mem_cons_self
      exact nomatch (sameK_iff.mp h (.a x)).mp h1
def spLaw (K : PySem.W.Frag) : Sp := fun vs H Q _ => ∃ (a : Addr) (ns : List Int), vs = [.ref a] ∧ SqL K H a (ns.map V.int) ∧ ns.length ≤ 63 ∧ ∀ H', Q (.bl true) H'
section
variable {P : Program} {w : World} {K : PySem.W.Frag} {mg : Str → Option Value} {base : Heap} {D : Nat → FuncData}
theorem ok_law (T : Txt K mg D) : FnOk P w K mg base CX0 4 (He.ga K "law") (D 20) P_law (spLaw K) := by
  refine T.F_law.ok sc_law (fun vs H Q E h => ?_) (fun cdv A outer s H vs Q E hr h => ?_)
  · obtain ⟨a, ns, rfl, _⟩ := h
    rfl
  · obtain ⟨a, ns, rfl, hS, hlen, q⟩ := h
    have nd := sc_law.nd
    refine ⟨_, PSs.nox ((pss_cons (ps_for PassesOwn.never rfl (pi_range1 rfl T.n_range (pa_cons (pe_callB (call_max2 rfl) (by rfl) T.n_max (by decide +kernel) (pa_cons pe_int (pa_cons (pe_callB (call_min2 rfl) (by rfl) T.n_min (by decide +kernel) (pa_cons pe_int (pa_cons (pe_callB call_len (by rfl) T.n_len (by decide +kernel) (pa_cons (pv 0) pa_nil)) pa_nil))) pa_nil))) pa_nil)) (pg_name (i := 1) nd rfl (Or.inl rfl))
    (pss_cons (ps_set (i := 2) nd rfl (Or.inl rfl) (pe_call (ok_law_bag T) (hr.mono (by decide)) (by rfl) T.g_law_bag T.kp_law_bag (b_law_bag T) .nil pass0 (pa_cons (pv 0) (pa_cons (pv 1) pa_nil))))
    (pss_cons (ps_asg (pe_tup (pa_cons (pe_call (ok_law_names T) (hr.mono (by decide)) (by rfl) T.g_law_names T.kp_law_names (b_law_names T) .nil pass0 (pa_cons (pv 2) (pa_cons pe_int pa_nil))) (pa_cons (pe_call (ok_law_of T) (hr.mono (by decide)) (by rfl) T.g_law_of T.kp_law_of (b_law_of T) .nil pass0 (pa_cons (pv 2) (pa_cons (pe_lst (pa_cons pe_int (pa_cons (pe_op op_sub (pe_op op_pow pe_int pe_int) pe_int) (pa_cons (pe_op op_pow pe_int pe_int) pa_nil)))) pa_nil))) pa_nil))) (pg_tup rfl (pgs_cons (pg_name (i := 3) nd rfl (Or.inl rfl)) (pgs_cons (pg_name (i := 4) nd rfl (Or.inr rfl)) pgs_nil))))
    (pss_cons (ps_par3 (i := 5) (j := 6) (l := 7) rfl nd rfl rfl rfl (by decide) (by decide) (by decide) rfl rfl rfl (pa_cons (pe_lc (own := [("_law_k", 15)]) rfl nd (pi_range1 rfl T.n_range (pa_cons pe_int pa_nil)) (blkOk_by (own := [("_law_k", 15)]) (N := N_law) (sc := defScope s_law) (by decide +kernel)) (fun _ _ _ _ _ => pg_name (i := 15) nd rfl (Or.inl rfl)) (fun _ _ _ _ _ => pts_nil) (fun _ _ _ _ _ => (pe_op op_add (pv 4) (pv 15)))) (pa_cons (pe_make0 T.mk_Index (ok_Index_init T) (hr.mono (by decide)) (by rfl) T.g_Index (b_Index_init T) .nil pass0) (pa_cons pe_nnew pa_nil))) (by rfl))
    (pss_cons (ps_for PassesOwn.never rfl (pi_range1 rfl T.n_range (pa_cons (pe_call (ok_law_take T) (hr.mono (by decide)) (by rfl) T.g_law_take T.kp_law_take (b_law_take T) .nil pass0 (pa_cons (pv 2) (pa_cons pe_int pa_nil))) pa_nil)) (pg_name (i := 8) nd rfl (Or.inl rfl))
    (pss_cons (ps_par (i := 9) (j := 10) rfl nd rfl rfl (by decide) rfl rfl (pa_cons (pe_call (ok_law_of T) (hr.mono (by decide)) (by rfl) T.g_law_of T.kp_law_of (b_law_of T) .nil pass0 (pa_cons (pv 2) (pa_cons (pv 5) pa_nil))) (pa_cons (pe_call (ok_law_keys T) (hr.mono (by decide)) (by rfl) T.g_law_keys T.kp_law_keys (b_law_keys T) .nil pass0 (pa_cons (pv 2) (pa_cons (pv 3) pa_nil))) pa_nil)) (by rfl))
    (pss_cons (ps_set (i := 11) nd rfl (Or.inl rfl) (pe_ifExp (pt_cmpR op_eq (pe_op op_mod (pv 8) pe_int) pe_int (nomark _)) (pe_callTy call_tuple_of (by rfl) T.n_tuple (by decide +kernel) (pa_cons (pv 10) pa_nil)) (pe_callTy call_list_of (by rfl) T.n_list (by decide +kernel) (pa_cons (pv 10) pa_nil))))
    (pss_cons (ps_set (i := 12) nd rfl (Or.inl rfl) (pe_not (pe_call (ok_law_same T) (hr.mono (by decide)) (by rfl) T.g_law_same T.kp_law_same (b_law_same T) .nil pass0 (pa_cons (pv 10) (pa_cons (pe_nget2 (u9 hr) (pv 7) (pv 9) (pe_lst pa_nil) ⟨rfl, rfl, rfl, rfl⟩) pa_nil)))))
    (pss_cons (ps_if (pt_not (pt_val (pe_call (ok_law_bool T) (hr.mono (by decide)) (by rfl) T.g_law_bool T.kp_law_bool (b_law_bool T) .nil pass0 (pa_cons (pe_meth (pv 6) T.cl_Index T.m_Index_lay (ok_Index_lay T) (hr.mono (by decide)) (b_Index_lay T) .nil pass0 (pa_cons (pv 9) (pa_cons (pv 11) pa_nil))) (pa_cons (pv 12) pa_nil))))) (pss_one (ps_ret pe_bl)) pss_nil)
    (pss_cons (ps_if (pt_cmpR op_eq (pe_op op_mod (pv 8) pe_int) pe_int (nomark _)) (pss_one (ps_expr (pe_bm F.plainAttrs_list F.slot_list_append F.type_list_append mt_append (pv 11) (pa_cons (pe_ix ix_list (pv 3) pe_int (fun _ _ => rfl)) pa_nil)))) pss_nil)
    (pss_cons (ps_nput (u9 hr) (pv 7) (pv 9) (pv 10) rfl)
    (pss_one (ps_if (PW.pt (pw_and (pt_cmpR op_eq (pe_op op_mod (pv 8) pe_int) pe_int (nomark _)) (pw_and1 (pt_not (pt_val (pe_call (ok_law_is T) (hr.mono (by decide)) (by rfl) T.g_law_is T.kp_law_is (b_law_is T) .nil pass0 (pa_cons (pv 6) (pa_cons (pv 7) (pa_cons (pv 5) (pa_cons (pv 3) pa_nil)))))))))) (pss_one (ps_ret pe_bl)) pss_nil)))))))))
    (pss_cons (ps_set (i := 13) nd rfl (Or.inl rfl) (pe_make0 T.mk_Index (ok_Index_init T) (hr.mono (by decide)) (by rfl) T.g_Index (b_Index_init T) .nil pass0))
    (pss_cons (ps_for PassesOwn.never rfl (pi_list (pe_revL (pv 5))) (pg_name (i := 9) nd rfl (Or.inl rfl))
    (pss_one (ps_expr (pe_meth (pv 13) T.cl_Index T.m_Index_lay (ok_Index_lay T) (hr.mono (by decide)) (b_Index_lay T) .nil pass0 (pa_cons (pv 9) (pa_cons (pe_revL (pe_nget2 (u9 hr) (pv 7) (pv 9) (pe_lst pa_nil) ⟨rfl, rfl, rfl, rfl⟩)) pa_nil))))))
    (pss_cons (ps_if (PW.pt (pw_or (pt_not (pt_val (pe_call (ok_law_is T) (hr.mono (by decide)) (by rfl) T.g_law_is T.kp_law_is (b_law_is T) .nil pass0 (pa_cons (pv 6) (pa_cons (pv 7) (pa_cons (pv 5) (pa_cons (pv 3) pa_nil))))))) (pw_or (pt_not (pt_val (pe_call (ok_law_is T) (hr.mono (by decide)) (by rfl) T.g_law_is T.kp_law_is (b_law_is T) .nil pass0 (pa_cons (pv 13) (pa_cons (pv 7) (pa_cons (pv 5) (pa_cons (pv 3) pa_nil))))))) (pw_or1 (pt_not (pt_cmpR (op_own_eq (ok_Index_eq T) (hr.mono (by decide)) T.sp_Index_eq (b_Index_eq T) pass0) (pv 6) (pv 13) (nomark _))))))) (pss_one (ps_ret pe_bl)) pss_nil)
    (pss_cons (ps_set (i := 9) nd rfl (Or.inl rfl) (pe_call (ok_law_of T) (hr.mono (by decide)) (by rfl) T.g_law_of T.kp_law_of (b_law_of T) .nil pass0 (pa_cons (pv 2) (pa_cons (pv 5) pa_nil))))
    (pss_cons (ps_set (i := 14) nd rfl (Or.inl rfl) (pe_ifExp (pt_not (pt_val (pe_call (ok_law_same T) (hr.mono (by decide)) (by rfl) T.g_law_same T.kp_law_same (b_law_same T) .nil pass0 (pa_cons (pe_nget2 (u9 hr) (pv 7) (pv 9) (pe_lst pa_nil) ⟨rfl, rfl, rfl, rfl⟩) (pa_cons (pe_lst (pa_cons (pe_ix ix_list (pv 3) pe_int (fun _ _ => rfl)) pa_nil)) pa_nil))))) (pe_lst (pa_cons (pe_ix ix_list (pv 3) pe_int (fun _ _ => rfl)) pa_nil)) (pe_lst pa_nil)))
    (pss_cons (ps_expr (pe_meth (pv 13) T.cl_Index T.m_Index_lay (ok_Index_lay T) (hr.mono (by decide)) (b_Index_lay T) .nil pass0 (pa_cons (pv 9) (pa_cons (pv 14) pa_nil))))
    (pss_cons (ps_if (PW.pt (pw_or (pt_cmpR (op_own_eq (ok_Index_eq T) (hr.mono (by decide)) T.sp_Index_eq (b_Index_eq T) pass0) (pv 6) (pv 13) (nomark _)) (pw_or (pt_not (pt_val (pe_call (ok_law_is T) (hr.mono (by decide)) (by rfl) T.g_law_is T.kp_law_is (b_law_is T) .nil pass0 (pa_cons (pv 6) (pa_cons (pv 7) (pa_cons (pv 5) (pa_cons (pv 3) pa_nil))))))) (pw_or1 (pt_cmpR (op_own_eq (ok_Index_eq T) (hr.mono (by decide)) T.sp_Index_eq (b_Index_eq T) pass0) (pv 6) (pv 7) (nomark _)))))) (pss_one (ps_ret pe_bl)) pss_nil)
    (pss_cons (ps_nput (u9 hr) (pv 7) (pv 9) (pv 14) rfl)
    (pss_one (ps_if (PW.pt (pw_or (pt_not (pt_val (pe_call (ok_law_is T) (hr.mono (by decide)) (by rfl) T.g_law_is T.kp_law_is (b_law_is T) .nil pass0 (pa_cons (pv 13) (pa_cons (pv 7) (pa_cons (pv 5) (pa_cons (pv 3) pa_nil))))))) (pw_or1 (pt_not (pt_val (pe_call (ok_law_bool T) (hr.mono (by decide)) (by rfl) T.g_law_bool T.kp_law_bool (b_law_bool T) .nil pass0 (pa_cons (pe_meth (pv 13) T.cl_Index T.m_Index_lay (ok_Index_lay T) (hr.mono (by decide)) (b_Index_lay T) .nil pass0 (pa_cons (pv 9) (pa_cons (pv 14) pa_nil))) (pa_cons pe_bl pa_nil)))))))) (pss_one (ps_ret pe_bl)) pss_nil)))))))))))))))
    (pss_one (ps_ret (pe_and (pe_cmpR (op_own_eq (ok_Index_eq T) (hr.mono (by decide)) T.sp_Index_eq (b_Index_eq T) pass0) (pe_make0 T.mk_Index (ok_Index_init T) (hr.mono (by decide)) (by rfl) T.g_Index (b_Index_init T) .nil pass0) (pe_make0 T.mk_Index (ok_Index_init T) (hr.mono (by decide)) (by rfl) T.g_Index (b_Index_init T) .nil pass0) (nomark _)) (pe_and (pe_cmpR op_eq (pe_callB (call_own_len (ok_Index_len T) (hr.mono (by decide)) T.sp_Index_len (b_Index_len T) pass0) (by rfl) T.n_len (by decide +kernel) (pa_cons (pe_make0 T.mk_Index (ok_Index_init T) (hr.mono (by decide)) (by rfl) T.g_Index (b_Index_init T) .nil pass0) pa_nil)) pe_int (nomark _)) (pe_one (pe_cmpR op_isBl (pe_meth (pe_make0 T.mk_Index (ok_Index_init T) (hr.mono (by decide)) (by rfl) T.g_Index (b_Index_init T) .nil pass0) T.cl_Index T.m_Index_lay (ok_Index_lay T) (hr.mono (by decide)) (b_Index_lay T) .nil pass0 (pa_cons pe_int (pa_cons (pe_lst pa_nil) pa_nil))) pe_bl (nomark _))))))))), ?_⟩
    dsimp only [cxOf, Cx.nox, Cx.wish]
    obtain ⟨n3, e3, l3⟩ : ∃ n : Nat, (if (if ((ns.map V.int).length : Int) < 3 then ((ns.map V.int).length : Int) else 3) > 1 then (if ((ns.map V.int).length : Int) < 3 then ((ns.map V.int).length : Int) else 3) else 1) = (n : Int) ∧ n ≤ 3 := by
      by_cases c : ((ns.map V.int).length : Int) < 3
      · rw [if_pos c]
        by_cases c2 : ((ns.map V.int).length : Int) > 1
        · exact ⟨(ns.map V.int).length, by rw [if_pos c2], by omega⟩
        · exact ⟨1, by rw [if_neg c2]; rfl, by decide⟩
      · rw [if_neg c]
        exact ⟨3, rfl, by decide⟩
    refine ⟨_, rfl, _, (ns.map V.int).length, rfl, Or.inl ⟨_, hS, rfl⟩, _, _, rfl, _, _, rfl, (n3 : Int), congrArg (fun z => [V.int z]) e3, by omega, by omega, ?_⟩
    refine for_range (n := n3) (fun i σ H' => (∃ b1 b2 b3 b4 b5 b6 b7 b8 b9 b10 b11 b12 b13 b14 b15, σ = [some (.ref a), b1, b2, b3, b4, b5, b6, b7, b8, b9, b10, b11, b12, b13, b14, b15]) ∧ Kp No H H') ⟨⟨_, _, _, _, _, _, _, _, _, _, _, _, _, _, _, rfl⟩, Kp.refl⟩ ?_ ?_
    · rintro i σ H0 hi ⟨⟨b1, b2, b3, b4, b5, b6, b7, b8, b9, b10, b11, b12, b13, b14, b15, rfl⟩, k0⟩
      -- the bag, the names, the first number
      refine ⟨_, rfl, _, rfl, a, ns, i, by simp, k0.same.seq hS, hlen, by omega, fun H1 bg k1 nbg hbg => ?_⟩
      refine ⟨_, rfl, bg, rfl, hbg, fun x y z nm H2 g nnm k2 hbg2 hnm => ?_⟩
      have nb : nm ≠ bg := hbg.ne nnm
      refine ⟨_, rfl, _, _, rfl, rfl, ⟨by decide, by decide, by decide⟩, _, _, rfl, rfl, _, _, rfl, rfl, ⟨by decide, by decide, by decide⟩, by show 3 ≤ sizeLine; decide, fun p3 n3' => ?_⟩
      refine ⟨bg, p3, _, rfl, hbg2.keep (Kp.new (F := No) n3') id, hbg2.ne n3', upd_same, fun h => (nomatch h), by show 3 < 1000000; decide, fun v o hv bo => ?_⟩
      obtain ⟨first, rfl⟩ : ∃ f : Int, v = .int f := by
        simp only [List.mem_cons, List.mem_nil_iff, or_false] at hv
        rcases hv with h | h | h
        · exact ⟨_, h⟩
        · exact ⟨_, h⟩
        · exact ⟨_, h⟩
      refine ⟨by show 2 ≤ sizeLine; decide, fun tp ntp => ?_⟩
      refine ⟨tp, _, rfl, SqT.of upd_same, rfl, _, _, rfl, _, _, rfl, rfl, ?_⟩
      have kA : Kp (fun c => c = bg) H1 (upd (upd (upd H2 p3 (.lst [.int 1, .int (10 ^ (30 : Int).toNat - 5), .int (10 ^ (9 : Int).toNat)])) bg o) tp (.tup [.ref nm, .int first])) := ((k2.trans (Kp.new n3')).trans (Kp.put rfl)).trans (Kp.new ntp)
      have hbg3 : BagAt (upd (upd (upd H2 p3 (.lst [.int 1, .int (10 ^ (30 : Int).toNat - 5), .int (10 ^ (9 : Int).toNat)])) bg o) tp (.tup [.ref nm, .int first])) bg := ⟨o, up_some upd_same ntp, bo⟩
      have hnm3 : (upd (upd (upd H2 p3 (.lst [.int 1, .int (10 ^ (30 : Int).toNat - 5), .int (10 ^ (9 : Int).toNat)])) bg o) tp (.tup [.ref nm, .int first])) nm = some (.lst [.str x, .str y, .str z]) := up_some (by rw [upd_ne nb]; exact up_some hnm n3') ntp
      generalize upd (upd (upd H2 p3 (.lst [.int 1, .int (10 ^ (30 : Int).toNat - 5), .int (10 ^ (9 : Int).toNat)])) bg o) tp (.tup [.ref nm, .int first]) = H3 at kA hbg3 hnm3
      -- the pool
      have PNs : Sorted ((List.range 6).map fun j : Nat => first + (j : Int)) := by
        refine List.pairwise_map.mpr (List.pairwise_lt_range.imp fun h => ?_)
        omega
      have un : Un (every x y z) ((List.range 6).map fun j : Nat => first + (j : Int)) := ⟨every_ok g, by show 8 ≤ 1000; decide, by rw [List.length_map, List.length_range]; decide⟩
      refine ⟨6, rfl, by decide, by decide, fun pl npl => ?_⟩
      refine lc_range (n := 6) (fun i H' => i ≤ 6 ∧ Kp (fun c => c = pl) H3 H' ∧ H' pl = some (.lst (((List.range i).map fun j : Nat => first + (j : Int)).map V.int))) ⟨by decide, Kp.put rfl, upd_same⟩ ?_ ?_
      · rintro i H' hi6 ⟨_, kk, hpl⟩
        refine ⟨rfl, ?_⟩
        refine ⟨_, rfl, _, rfl, _, _, rfl, rfl, _, hpl, by rw [List.length_map, List.length_map, List.length_range]; exact Nat.lt_of_lt_of_le (by omega : i < 1000) (by decide), by omega, kk.trans (Kp.put rfl), ?_⟩
        rw [upd_same, List.range_succ, List.map_append, List.map_append]
        show some (HO.lst (_ ++ [V.int (first + (0 + (i : Int)))])) = some (HO.lst (_ ++ [V.int (first + (i : Int))]))
        rw [Int.zero_add]
      rintro H4 ⟨_, k34, hpl⟩
      have pne : (List.range 6).map (fun j : Nat => first + (j : Int)) ≠ [] := fun e => (nomatch (congrArg List.length e))
      generalize (List.range 6).map (fun j : Nat => first + (j : Int)) = PN at PNs un hpl pne
      have k34' : Kp No H3 H4 := k34.drop fun c h => .inr (h ▸ npl)
      have pb : pl ≠ bg := hbg3.ne npl
      -- the first index
      intro nx dx nnx ndx nex
      have sA : Kp No H4 (upd (upd H4 dx (.own nx)) nx (.ins (He.ga K "Index") dx [])) := (Kp.new ndx).trans (Kp.new (by rw [upd_ne nex.symm]; exact nnx))
      refine ⟨nx, dx, rfl, upd_same, fun H5 F hix hF k5 => ⟨rfl, ?_⟩⟩
      have k45 : Kp No H4 H5 := ((No.all (F := fun c => c = nx) sA).trans k5).drop fun c h => .inr (h ▸ nnx)
      have hF4 : ∀ c, F c → H4 c = none := fun c h => sA.nil (hF c h) id
      -- the table
      intro t nt5
      have k56 : Kp No H5 (upd H5 t (dictO w t [])) := Kp.new nt5
      have ht6 : (upd H5 t (dictO w t [])) t = some (dictO w t (([] : List TN).map TN.e)) := upd_same
      have ix0 := (hix (every x y z) PN).same k56
      have ftn : ¬ F t := (hix (every x y z) PN).has nt5
      generalize upd H5 t (dictO w t []) = H6 at k56 ht6 ix0
      have k36 := k34'.trans (k45.trans k56)
      have s0 : S w H6 x y z PN bg nm pl t [] := ⟨hbg3.keep k36 id, k36 _ _ hnm3 id, (k45.trans k56) _ _ hpl id, ⟨ht6, fun _ h => (nomatch h), fun _ h => (nomatch h), fun _ h => (nomatch h), fun _ h => (nomatch h), fun _ h => (nomatch h), List.nodup_nil⟩, nb, pb, fun _ h => (nomatch h)⟩
      have f0 : ∀ c, F c → ¬ Pr bg nm pl t [] c := fun c hc h => by
        have h4 := hF4 c hc
        rcases h with rfl | rfl | rfl | rfl | ⟨e, he, rfl⟩
        · obtain ⟨o', e, _⟩ := hbg3.keep k34' id
          rw [h4] at e; cases e
        · have := k34' _ _ hnm3 id
          rw [h4] at this; cases this
        · rw [hpl] at h4; cases h4
        · exact ftn hc
        · cases he
      have kB : Kp (fun c => c = bg) H1 H6 := kA.trans (No.all k36)
      -- own to this turn
      have new0 : ∀ c, (c = bg ∨ c = t ∨ F c) → H0 c = none := fun c h => by
        rcases h with rfl | rfl | h
        · exact nbg
        · exact k1.nil (kA.nil (k34'.nil (k45.nil nt5 id) id) fun e => s0.tbg e) id
        · refine k1.nil (kA.nil (k34'.nil (hF4 c h) id) fun e => f0 c h (.inl e)) id
      clear hix hF hF4
      refine ⟨_, _, _, rfl, ?_⟩
      -- the laps
      refine ⟨_, rfl, bg, _, rfl, s0.bag, by decide, by decide, fun r o' r0 r1 bo' => ?_⟩
      have kC := kB.trans (Kp.put (o := o') rfl)
      have s1 := s0.bagk (Kp.put (o := o') rfl) ⟨o', upd_same, bo'⟩
      have ix1 := ix0.bagk s0.bag (fun h => f0 _ h (.inl rfl)) (Kp.put (o := o') rfl)
      generalize upd H6 bg o' = H7 at kC s1 ix1
      refine ⟨r, rfl, by omega, by omega, ?_⟩
      refine for_range (n := r.toNat) (fun j σ H' => ∃ (c8 c9 c10 c11 c12 : Option V) (F : Addr → Prop) (ts : List TN), σ = [some (.ref a), some (.int (0 + (i : Int))), some (.ref bg), some (.ref nm), some (.int first), some (.ref pl), some (.ref nx), some (.ref t), c8, c9, c10, c11, c12, b13, b14, b15] ∧
        S w H' x y z PN bg nm pl t ts ∧ Ix w K H' (every x y z) PN nx F (tabT ts) ∧ (∀ c, F c → ¬ Pr bg nm pl t ts c) ∧ (∀ c, F c → H0 c = none) ∧ Kp No H0 H') ?_ ?_ ?_
      · refine ⟨_, _, _, _, _, F, [], rfl, s1, ix1.congr fun _ _ => Iff.rfl, f0, fun c h => new0 c (.inr (.inr h)), ?_⟩
        exact ((No.all k1).trans kC).drop fun c h => .inr (new0 c (.inl h))
      · rintro j σ Ha hj ⟨c8, c9, c10, c11, c12, F, ts, rfl, s, ix, fF, nF, kk⟩
        have hbg0 : H0 bg = none := new0 bg (.inl rfl)
        have ht0 : H0 t = none := new0 t (.inr (.inl rfl))
        have lPN : (PN.map V.int).length < 1000000 := by rw [List.length_map]; have := un.p; omega
        have nPN : PN.map V.int ≠ [] := fun e => pne (List.map_eq_nil_iff.mp e)
        refine ⟨_, rfl, _, rfl, bg, pl, _, rfl, s.bag, s.pb, s.hl, nPN, lPN, fun v o hv bo => ?_⟩
        obtain ⟨n, hn, rfl⟩ := List.mem_map.mp hv
        have fbg : ¬ F bg := fun h => fF _ h (.inl rfl)
        have kb1 : Kp (fun c => c = bg) Ha (upd Ha bg o) := Kp.put rfl
        have s2 := s.bagk kb1 ⟨o, upd_same, bo⟩
        have ix2 := ix.bagk s.bag fbg kb1
        have kk2 := kk.ext kb1 fun c h => h ▸ hbg0
        generalize upd Ha bg o = Hb at s2 ix2 kk2
        refine ⟨_, rfl, _, rfl, bg, nm, x, y, z, rfl, s2.bag, s2.nb, s2.hn, fun ks us kp Hc kv ke kl nkp k3 hb3 hkp => ?_⟩
        have s3 := s2.bagk k3 hb3
        have ix3 := ix2.bagk s2.bag fbg k3
        have kk3 := kk2.ext k3 fun c h => h ▸ hbg0
        have kpb : kp ≠ bg := s2.bag.ne nkp
        have fkp : ¬ F kp := ix2.has nkp
        have lus : us.length ≤ 1000 := by rw [← kv.len]; omega
        refine ⟨_, _, rfl, ?_⟩
        -- given
        dsimp only
        rw [tSeq, tAsg]
        refine given_ok (L := 0 + (j : Int)) (kp := kp) (us := us) rfl rfl hkp fun ga Hd k4 nga hga => ?_
        have s4 := s3.same k4
        have ix4 := ix3.same k4
        have kk4 := kk3.trans k4
        have kv4 := kv.keep fun b xs h => k4 _ _ h id
        have hkp4 := k4 _ _ hkp id
        have fga : ¬ F ga := ix3.has nga
        have pga : ¬ Pr bg nm pl t ts ga := fun h => s3.got h nga
        have gak : ga ≠ kp := fun e => by rw [e, hkp] at nga; cases nga
        have nga0 : H0 ga = none := kk3.nil nga id
        -- is it new
        refine ⟨_, rfl, _, rfl, t, rfl, ⟨_, s4.tb.dn.r⟩, _, rfl, Nat.zero_le _, fun e ne => ?_⟩
        have k5 : Kp No Hd (upd Hd e (.lst [])) := Kp.new ne
        obtain ⟨r', us', er, hr', kvr⟩ := trow_of (s4.tb.same k5) n e upd_same
        have sub := s4.tb.sub n
        refine ⟨_, .num n, (s4.tb.same k5).dn.r, KAt.int n, ?_⟩
        rw [er]
        refine ⟨kp, r', ks, tabT ts n, us, us', rfl, k5 _ _ hkp4 id, hr', kv4.keep fun b xs h => k5 _ _ h id, kvr, fun k hk => every_ok g k (ke k hk), fun k hk => every_ok g k (sub.1 k hk), by omega, sub.2, fun Hee k6 => ⟨_, rfl, ?_⟩⟩
        have k46 := k5.trans k6
        have s6 := s4.same k46
        have ix6 := ix4.same k46
        have kk6 := kk4.trans k46
        have kv6 := kv4.keep fun b xs h => k46 _ _ h id
        have hkp6 := k46 _ _ hkp4 id
        have hga6 : (Hee ga = some (.lst us) ∨ Hee ga = some (.tup us)) := by
          rcases hga with ⟨_, h⟩ | ⟨_, h⟩
          · exact .inr (k46 _ _ h id)
          · exact .inl (k46 _ _ h id)
        have hga7 : ((0 + (j : Int)) % 2 = 1 ∧ Hee ga = some (.tup us)) ∨ ((0 + (j : Int)) % 2 ≠ 1 ∧ Hee ga = some (.lst us)) := by
          rcases hga with ⟨c, h⟩ | ⟨c, h⟩
          · exact .inl ⟨c, k46 _ _ h id⟩
          · exact .inr ⟨c, k46 _ _ h id⟩
        clear hga k4 k5 k6 k46 s4 ix4 kk4 kv4 hkp4 hr' kvr
        obtain ⟨dxx, dnn, dkk, hp⟩ := ix6.at_p
        refine ⟨_, rfl, nx, dxx, ixF dnn dkk, rfl, hp, ixF_no dnn dkk (by decide +kernel) (by decide +kernel), _, rfl, _, rfl, nx, ga, n, _, PN, F, _, ks, us, rfl, un, ix6, hga6, kv6, by omega, ke, hn, fun Hf F7 ix7 f7 k7 => ?_⟩
        refine ⟨_, rfl, _, _, rfl, true, by simp, if_f ?_⟩
        have s7 := s6.keep k7 (fun c h f => fF c f h) fun _ _ h => ix6.tup h
        have kk7 := kk6.ext k7 nF
        have hkp7 := k7 _ _ hkp6 fkp
        have kv7 := kv6.keep fun b xs h => k7 _ _ h (ix6.tup h)
        have f7p : ∀ c, F7 c → ¬ Pr bg nm pl t ts c := fun c h p => (f7 c h).elim (fun f => fF c f p) fun z => s6.got p z
        have f7k : ¬ F7 kp := fun h => (f7 kp h).elim fkp fun z => by rw [hkp6] at z; cases z
        have f7g : ¬ F7 ga := fun h => (f7 ga h).elim fga fun z => by rcases hga6 with h | h <;> rw [h] at z <;> cases z
        have n7 : ∀ c, F7 c → H0 c = none := fun c h => (f7 c h).elim (nF c) fun z => kk6.nil z id
        have hga8 : ((0 + (j : Int)) % 2 = 1 ∧ Hf ga = some (.tup us)) ∨ ((0 + (j : Int)) % 2 ≠ 1 ∧ Hf ga = some (.lst us)) := by
          rcases hga7 with ⟨c, h⟩ | ⟨c, h⟩
          · exact .inl ⟨c, k7 _ _ h fga⟩
          · exact .inr ⟨c, k7 _ _ h fga⟩
        dsimp only [tNext]
        rw [tSeq]
        refine append_ok (ga := ga) (nm := nm) (us := us) rfl rfl rfl s7.hn lus hga8 fun Hg k8 => ?_
        have s8 := s7.keep k8 (fun c p e => pga (e.1 ▸ p)) fun b xs h e => by rw [e.1, e.2] at h; cases h
        have hp7 : Hf nx = some (.ins (He.ga K "Index") dxx (ixF dnn dkk)) := k7 _ _ hp (ix6.ins hp)
        have ix8 := ix7.keep k8 (fun e => by rw [e.1, e.2] at hp7; cases hp7) (fun c f e => f7g (e.1 ▸ f)) fun b xs h e => by rw [e.1, e.2] at h; cases h
        have kk8 := kk7.ext k8 fun c e => e.1 ▸ nga0
        have hkp8 := k8 _ _ hkp7 fun e => gak e.1.symm
        have kv8 := kv7.keep fun b xs h => k8 _ _ h fun e => by rw [e.1, e.2] at h; cases h
        have lts := s8.tb.size un
        refine ⟨_, rfl, _, rfl, _, rfl, t, _, .num n, rfl, s8.tb.dn, KAt.int n, by rw [List.length_map]; exact Nat.lt_of_lt_of_le (by omega : ts.length < 2000) (by decide), ?_⟩
        have s9 := s8.put hkp8 kv8 (by omega) ke hn kpb
        have k89 : Kp (fun c => c = t) Hg (upd Hg t (dictO w t (storeN (ts.map TN.e) (.num n) (.int n) (.ref kp)))) := Kp.put rfl
        have ix9 := (ix8.tabk s8.tb.d (fun f => f7p _ f (.inr (.inr (.inr (.inl rfl))))) k89).congr (T' := tabT (putT ts n kp ks us)) fun m k => by rw [tabT_put s8.tb.nn]
        have kk9 := kk8.ext k89 fun c e => e ▸ ht0
        have d9 : ∀ c, F7 c → ¬ Pr bg nm pl t (putT ts n kp ks us) c := fun c f p => by
          rcases p with p | p | p | p | ⟨e, he, p⟩
          · exact f7p c f (.inl p)
          · exact f7p c f (.inr (.inl p))
          · exact f7p c f (.inr (.inr (.inl p)))
          · exact f7p c f (.inr (.inr (.inr (.inl p))))
          · rcases mem_putT he with rfl | ⟨m, _⟩
            · have p' : c = kp := p
              exact f7k (p' ▸ f)
            · exact f7p c f (.inr (.inr (.inr (.inr ⟨e, m, p⟩))))
        refine ⟨_, rfl, _, _, rfl, rfl, (by show (0 : Int) < _; decide), rfl, _, rfl, ite2 (fun c => ?_) (fun c => ?_)⟩
        · refine ⟨_, rfl, _, rfl, _, rfl, _, rfl, nx, t, pl, nm, x, y, z, PN, F7, _, rfl, g, un, PNs, ix9, s9.tb, s9.hl, s9.hn, fun Hz kz => ⟨true, rfl, if_f ?_⟩⟩
          exact ⟨_, _, _, _, _, F7, _, rfl, s9.same kz, ix9.same kz, d9, n7, kk9.trans kz⟩
        · refine if_f ?_
          exact ⟨_, _, _, _, _, F7, _, rfl, s9, ix9, d9, n7, kk9⟩
      · rintro σ H8 ⟨c8, c9, c10, c11, c12, F, ts, rfl, s8, ix8, f8, n8, k8⟩
        -- the second index
        have hbg0 : H0 bg = none := new0 bg (.inl rfl)
        have ht0 : H0 t = none := new0 t (.inr (.inl rfl))
        have lPN : (PN.map V.int).length < 1000000 := by rw [List.length_map]; have := un.p; omega
        have nPN : PN.map V.int ≠ [] := fun e => pne (List.map_eq_nil_iff.mp e)
        intro fx dx2 nfx ndx2 nex2
        have sB : Kp No H8 (upd (upd H8 dx2 (.own fx)) fx (.ins (He.ga K "Index") dx2 [])) := (Kp.new ndx2).trans (Kp.new (by rw [upd_ne nex2.symm]; exact nfx))
        refine ⟨fx, dx2, rfl, upd_same, fun H9 F2 hix2 hF2 k9 => ⟨rfl, ?_⟩⟩
        have k89 : Kp No H8 H9 := ((No.all (F := fun c => c = fx) sB).trans k9).drop fun c h => .inr (h ▸ nfx)
        have s9 := s8.same k89
        have ix9 := ix8.same k89
        have jx9 := hix2 (every x y z) PN
        have f28 : ∀ c, F2 c → H8 c = none := fun c h => sB.nil (hF2 c h) id
        have kk9 := k8.trans k89
        refine ⟨_, rfl, pl, _, rfl, SqL.of s9.hl, fun rp nrp => ?_⟩
        have kA : Kp No H9 (upd H9 rp (.lst (PN.map V.int).reverse)) := Kp.new nrp
        have hrp : (upd H9 rp (.lst (PN.map V.int).reverse)) rp = some (.lst (PN.map V.int).reverse) := upd_same
        have frp : ¬ F2 rp := jx9.has nrp
        have sA := s9.same kA
        have ixA := ix9.same kA
        have jxA := jx9.same kA
        have kkA := kk9.trans kA
        generalize upd H9 rp (.lst (PN.map V.int).reverse) = HA at hrp sA ixA jxA kkA
        have inP : ∀ m, m ∉ PN → tabT ts m = [] := fun m hm => by
          rcases tum_in ts m with ⟨e, he, rfl⟩ | h
          · exact absurd (s8.tb.inP e he) hm
          · exact (ts_none h).2
        refine ⟨rp, rfl, ⟨_, SqL.of hrp⟩, for_list (xs := (PN.map V.int).reverse) (fun j σ H' => ∃ (a9 : Option V) (F2 : Addr → Prop), σ = [some (.ref a), some (.int (0 + (i : Int))), some (.ref bg), some (.ref nm), some (.int first), some (.ref pl), some (.ref nx), some (.ref t), c8, a9, c10, c11, c12, some (.ref fx), b14, b15] ∧
          S w H' x y z PN bg nm pl t ts ∧ Ix w K H' (every x y z) PN nx F (tabT ts) ∧ Ix w K H' (every x y z) PN fx F2 (fun m => if m ∈ PN.reverse.take j then tabT ts m else []) ∧ (∀ c, F2 c → ¬ Pr bg nm pl t ts c) ∧ (∀ c, F c → ¬ F2 c) ∧ (∀ c, F2 c → H0 c = none) ∧ ¬ F2 rp ∧ H' rp = some (.lst (PN.map V.int).reverse) ∧ Kp No H0 H') ?_ ?_ ?_ ?_⟩
        · exact ⟨_, F2, rfl, sA, ixA, jxA.congr fun m k => by simp, fun c f p => s8.got p (f28 c f), fun c f h => ix8.has (f28 c h) f, fun c h => k8.nil (f28 c h) id, frp, hrp, kkA⟩
        · rintro j σ H' _ ⟨_, _, _, _, _, _, _, _, _, _, h, _⟩
          exact SqL.of h
        · rintro j v σ Ha hj ⟨a9, F2, rfl, s, ix, jx, d2, d12, n2, frp, hrp, kk⟩
          rw [← List.map_reverse, List.getElem?_map] at hj
          obtain ⟨n, hn, rfl⟩ : ∃ n, PN.reverse[j]? = some n ∧ v = .int n := by
            cases e : PN.reverse[j]? with
            | none => rw [e] at hj; cases hj
            | some n => rw [e] at hj; exact ⟨n, rfl, (Option.some.inj hj).symm⟩
          have nP : n ∈ PN := List.mem_reverse.mp (List.mem_of_getElem? hn)
          obtain ⟨dxf, dnf, dkf, hpf⟩ := jx.at_p
          obtain ⟨dxn, dnn, dkn, hpn⟩ := ix.at_p
          refine ⟨_, rfl, fx, dxf, ixF dnf dkf, rfl, hpf, ixF_no dnf dkf (by decide +kernel) (by decide +kernel), _, rfl, _, rfl, t, rfl, ⟨_, s.tb.dn.r⟩, _, rfl, Nat.zero_le _, fun e ne => ?_⟩
          have k1 : Kp No Ha (upd Ha e (.lst [])) := Kp.new ne
          obtain ⟨r', us', er, hr', kvr⟩ := trow_of (s.tb.same k1) n e upd_same
          have sub := s.tb.sub n
          refine ⟨_, .num n, (s.tb.same k1).dn.r, KAt.int n, ?_⟩
          rw [er]
          refine ⟨r', us', rfl, SqL.of hr', fun vp nvp => ?_⟩
          have k2 : Kp No (upd Ha e (.lst [])) (upd (upd Ha e (.lst [])) vp (.lst us'.reverse)) := Kp.new nvp
          have k12 := k1.trans k2
          have hvp : (upd (upd Ha e (.lst [])) vp (.lst us'.reverse)) vp = some (.lst us'.reverse) := upd_same
          have kvr2 := kvr.keep fun b xs h => k2 _ _ h id
          generalize upd (upd Ha e (.lst [])) vp (.lst us'.reverse) = Hb at k12 hvp kvr2
          refine ⟨fx, vp, n, _, PN, F2, _, (tabT ts n).reverse, us'.reverse, rfl, un, jx.same k12, .inl hvp, kvr2.rev, by rw [List.length_reverse]; exact sub.2, fun k hk => sub.1 k (List.mem_reverse.mp hk), nP, fun Hc F3 jx3 f3 k3 => ?_⟩
          have s2 := s.same k12
          have ix2 := ix.same k12
          have jx2 := jx.same k12
          refine ⟨_, F3, rfl, s2.keep k3 (fun c p f => d2 c f p) fun _ _ h => jx2.tup h, ix2.keep k3 (jx2.ins (k12 _ _ hpn id)) d12 fun _ _ h => jx2.tup h, jx3.congr fun m k => ?_, fun c f p => (f3 c f).elim (fun f => d2 c f p) (s2.got p), fun c f h => (f3 c h).elim (d12 c f) fun z => ix2.has z f, fun c h => (f3 c h).elim (n2 c) fun z => (kk.trans k12).nil z id, fun h => (f3 rp h).elim frp fun z => (by rw [k12 _ _ hrp id] at z; cases z), k3 _ _ (k12 _ _ hrp id) frp, (kk.trans k12).ext k3 n2⟩
          rw [List.take_add_one, hn]
          by_cases em : m = n
          · subst em
            simp
          · have : m ∈ PN.reverse.take j ++ (some n).toList ↔ m ∈ PN.reverse.take j := by simp [em]
            simp only [if_neg em, this]
        · rintro σ Ha ⟨a9, F2, rfl, s, ix, jx, d2, d12, n2, _, _, kk⟩
          have jx := jx.congr (T' := tabT ts) fun m k => by
            rw [List.length_reverse, List.length_map, ← List.length_reverse, List.take_length]
            by_cases c : m ∈ PN
            · rw [if_pos (List.mem_reverse.mpr c)]
            · rw [if_neg fun h => c (List.mem_reverse.mp h), inP m c]
          clear hF2 hix2 jxA ixA sA jx9 ix9 s9 kA hrp frp f28 sB k9 k89 nfx ndx2 nex2 nrp kkA kk9
          -- all is told by both
          refine ⟨_, rfl, _, rfl, _, rfl, _, rfl, nx, t, pl, nm, x, y, z, PN, F, _, rfl, g, un, PNs, ix, s.tb, s.hl, s.hn, fun Hb kb => ⟨true, rfl, if_f ?_⟩⟩
          have s := s.same kb
          have ix := ix.same kb
          have jx := jx.same kb
          have kk := kk.trans kb
          refine ⟨_, rfl, _, rfl, _, rfl, _, rfl, fx, t, pl, nm, x, y, z, PN, F2, _, rfl, g, un, PNs, jx, s.tb, s.hl, s.hn, fun Hc kc => ⟨true, rfl, if_f ?_⟩⟩
          have s := s.same kc
          have ix := ix.same kc
          have jx := jx.same kc
          have kk := kk.trans kc
          obtain ⟨dxf, dnf, dkf, hpf⟩ := jx.at_p
          obtain ⟨dxn, dnn, dkn, hpn⟩ := ix.at_p
          have eall : (PN.all fun n => sameK (tabT ts n) (tabT ts n)) = true := List.all_eq_true.mpr fun n _ => sameK_iff.mpr fun _ => Iff.rfl
          refine ⟨_, rfl, _, rfl, nx, dxn, _, rfl, hpn, .same hpf, nx, _, PN, F, _, un, ix, .inl ⟨fx, F2, _, rfl, jx, d12, true, by rw [eall], true, rfl, if_f ?_⟩⟩
          -- one number changed in the second
          refine ⟨_, rfl, _, rfl, bg, pl, _, rfl, s.bag, s.pb, s.hl, nPN, lPN, fun v o hv bo => ?_⟩
          obtain ⟨n, hn, rfl⟩ := List.mem_map.mp hv
          have fbg : ¬ F bg := fun h => f8 _ h (.inl rfl)
          have fbg2 : ¬ F2 bg := fun h => d2 _ h (.inl rfl)
          have kb1 : Kp (fun c => c = bg) Hc (upd Hc bg o) := Kp.put rfl
          have ix := ix.bagk s.bag fbg kb1
          have jx := jx.bagk s.bag fbg2 kb1
          have s := s.bagk kb1 ⟨o, upd_same, bo⟩
          have kk := kk.ext kb1 fun c h => h ▸ hbg0
          generalize upd Hc bg o = Hd at s ix jx kk
          dsimp only [tNext]
          rw [gName, tSeq, tAsg]
          refine other_ok (n := n) g un s rfl rfl rfl fun ks us op Hee ke nop hop kv kU kl ksm => ?_
          have fop : ¬ F2 op := jx.has nop
          have fop1 : ¬ F op := ix.has nop
          have opb : op ≠ bg := s.bag.ne nop
          have s := s.same ke
          have ix := ix.same ke
          have jx := jx.same ke
          have kk := kk.trans ke
          obtain ⟨dxf, dnf, dkf, hpf⟩ := jx.at_p
          obtain ⟨dxn, dnn, dkn, hpn⟩ := ix.at_p
          have kok : ∀ k ∈ ks, k ∈ every x y z := kU
          refine ⟨_, rfl, fx, dxf, ixF dnf dkf, rfl, hpf, ixF_no dnf dkf (by decide +kernel) (by decide +kernel), _, rfl, _, rfl, fx, op, n, _, PN, F2, _, ks, us, rfl, un, jx, .inl hop, kv, by omega, kU, hn, fun Hf F3 jx3 f3 k3 => ?_⟩
          have d3 : ∀ c, F3 c → ¬ Pr bg nm pl t ts c := fun c f p => (f3 c f).elim (fun f => d2 c f p) (s.got p)
          have d13 : ∀ c, F c → ¬ F3 c := fun c f h => (f3 c h).elim (d12 c f) fun z => ix.has z f
          have n3 : ∀ c, F3 c → H0 c = none := fun c h => (f3 c h).elim (n2 c) fun z => kk.nil z id
          have fop3 : ¬ F3 op := fun h => (f3 op h).elim fop fun z => (by rw [hop] at z; cases z)
          have s3 := s.keep k3 (fun c p f => d2 c f p) fun _ _ h => jx.tup h
          have ix3 := ix.keep k3 (jx.ins hpn) d12 fun _ _ h => jx.tup h
          have kk3 := kk.ext k3 n2
          have hop3 := k3 _ _ hop fop
          have kv3 := kv.keep fun b xs h => k3 _ _ h (jx.tup h)
          have hpn3 := k3 _ _ hpn (jx.ins hpn)
          have hpf3 := k3 _ _ hpf (jx.ins hpf)
          -- now unlike
          have eno : (PN.all fun m => sameK (tabT ts m) (if m = n then ks else tabT ts m)) = false := by
            cases h : (PN.all fun m => sameK (tabT ts m) (if m = n then ks else tabT ts m)) with
            | false => rfl
            | true =>
              have := List.all_eq_true.mp h n hn
              rw [if_pos rfl, ksm] at this
              cases this
          refine ⟨_, rfl, _, rfl, nx, dxn, _, rfl, hpn3, .same hpf3, nx, _, PN, F, _, un, ix3, .inl ⟨fx, F3, _, rfl, jx3, d13, false, by rw [eno], false, rfl, if_f ?_⟩⟩
          refine ⟨_, rfl, _, rfl, _, rfl, _, rfl, nx, t, pl, nm, x, y, z, PN, F, _, rfl, g, un, PNs, ix3, s3.tb, s3.hl, s3.hn, fun Hg kg => ⟨true, rfl, if_f ?_⟩⟩
          have ix4 := ix3.same kg
          have s4 := s3.same kg
          have jx4 := jx3.same kg
          have hpn4 := kg _ _ hpn3 id
          have hpf4 := kg _ _ hpf3 id
          have hop4 := kg _ _ hop3 id
          have kv4 := kv3.keep fun b xs h => kg _ _ h id
          have kk4 := kk3.trans kg
          refine ⟨_, rfl, _, rfl, nx, dxn, _, rfl, hpn4, .dict s4.tb.dn.r (ex_ok T.x_Index).g, nx, _, PN, F, _, un, ix4, .inr ⟨t, _, rfl, s4.tb.dn.r, false, rfl, false, rfl, if_f ?_⟩⟩
          -- the table too
          have lts := s4.tb.size un
          refine ⟨_, rfl, _, rfl, _, rfl, t, _, .num n, rfl, s4.tb.dn, KAt.int n, by rw [List.length_map]; exact Nat.lt_of_lt_of_le (by omega : ts.length < 2000) (by decide), ?_⟩
          have s5 := s4.put hop4 kv4 (by omega) kU hn opb
          have k45 : Kp (fun c => c = t) Hg (upd Hg t (dictO w t (storeN (ts.map TN.e) (.num n) (.int n) (.ref op)))) := Kp.put rfl
          have jx5 := (jx4.tabk s4.tb.d (fun f => d3 _ f (.inr (.inr (.inr (.inl rfl))))) k45).congr (T' := tabT (putT ts n op ks us)) fun m k => by rw [tabT_put s4.tb.nn]
          have kk5 := kk4.ext k45 fun c e => e ▸ ht0
          have opt : op ≠ t := dk_ne s4.tb.d hop4
          have hop5 : (upd Hg t (dictO w t (storeN (ts.map TN.e) (.num n) (.int n) (.ref op)))) op = some (.lst us) := by rw [upd_ne opt]; exact hop4
          have kv5 := kv4.keep (H' := upd Hg t (dictO w t (storeN (ts.map TN.e) (.num n) (.int n) (.ref op)))) fun b xs h => by rw [upd_ne (tup_ne_d s4.tb.d h)]; exact h
          have hpf5 : (upd Hg t (dictO w t (storeN (ts.map TN.e) (.num n) (.int n) (.ref op)))) fx = some (.ins (He.ga K "Index") dxf (ixF dnf dkf)) := by
            rw [upd_ne fun e => by rw [e, s4.tb.d] at hpf4; cases hpf4]; exact hpf4
          generalize upd Hg t (dictO w t (storeN (ts.map TN.e) (.num n) (.int n) (.ref op))) = Hh at s5 jx5 kk5 hop5 kv5 hpf5
          refine ⟨_, rfl, _, rfl, _, rfl, _, rfl, fx, t, pl, nm, x, y, z, PN, F3, _, rfl, g, un, PNs, jx5, s5.tb, s5.hl, s5.hn, fun Hi ki => ⟨true, rfl, if_f ?_⟩⟩
          refine ⟨_, rfl, fx, dxf, ixF dnf dkf, rfl, ki _ _ hpf5 id, ixF_no dnf dkf (by decide +kernel) (by decide +kernel), _, rfl, _, rfl, fx, op, n, _, PN, F3, _, ks, us, rfl, un, jx5.same ki, .inl (ki _ _ hop5 id), kv5.keep fun b xs h => ki _ _ h id, by omega, kU, hn, fun Hj F6 _ _ kj => ?_⟩
          have esame : sameK ks (tabT (putT ts n op ks us) n) = true := by
            rw [tabT_put s4.tb.nn, if_pos rfl]
            exact sameK_iff.mpr fun _ => Iff.rfl
          rw [esame]
          refine ⟨_, _, rfl, true, rfl, if_f ?_⟩
          exact ⟨⟨_, _, _, _, _, _, _, _, _, _, _, _, _, _, _, rfl⟩, k0.trans ((kk5.trans ki).ext kj n3)⟩
    · rintro σ H1 ⟨⟨b1, b2, b3, b4, b5, b6, b7, b8, b9, b10, b11, b12, b13, b14, b15, rfl⟩, k0⟩
      have un0 : Un [] [] := ⟨fun _ h => (nomatch h), by decide, by decide⟩
      have un1 : Un [] [1] := ⟨fun _ h => (nomatch h), by decide, by decide⟩
      -- two empty ones
      intro p1 d1 n1 m1 e1
      refine ⟨p1, d1, rfl, upd_same, fun Hb F1 hix1 hF1 kb => ⟨rfl, ?_⟩⟩
      intro p2 d2 n2 m2 e2
      have kB : Kp No Hb (upd (upd Hb d2 (.own p2)) p2 (.ins (He.ga K "Index") d2 [])) := (Kp.new m2).trans (Kp.new (by rw [upd_ne e2.symm]; exact n2))
      refine ⟨p2, d2, rfl, upd_same, fun Hc F2 hix2 hF2 kc => ⟨rfl, ?_⟩⟩
      have kbc : Kp No Hb Hc := ((No.all (F := fun c => c = p2) kB).trans kc).drop fun c h => .inr (h ▸ n2)
      have ix1 := (hix1 [] []).same kbc
      have ix2 := hix2 [] []
      obtain ⟨x1, y1, z1, hp1⟩ := ix1.at_p
      obtain ⟨x2, y2, z2, hp2⟩ := ix2.at_p
      refine ⟨p1, x1, _, rfl, hp1, .same hp2, p1, [], [], F1, _, un0, ix1, .inl ⟨p2, F2, _, rfl, ix2, fun c f1 f2 => (hix1 [] []).has (kB.nil (hF2 c f2) id) f1, true, rfl, true, rfl, if_t ?_⟩⟩
      intro p3 d3 n3 m3 e3
      refine ⟨p3, d3, rfl, upd_same, fun Hd F3 hix3 hF3 kd => ⟨rfl, ?_⟩⟩
      have ix3 := hix3 [] []
      obtain ⟨x3, y3, z3, hp3⟩ := ix3.at_p
      refine ⟨p3, x3, _, rfl, hp3, p3, [], [], F3, _, rfl, List.nodup_nil, un0, ix3, 0, rfl, ⟨by decide, by decide⟩, rfl, true, rfl, if_t ?_⟩
      intro p4 d4 n4 m4 e4
      refine ⟨p4, d4, rfl, upd_same, fun Hee F4 hix4 hF4 ke => ⟨rfl, ?_⟩⟩
      have ix4 := hix4 [] [1]
      obtain ⟨x4, y4, z4, hp4⟩ := ix4.at_p
      refine ⟨p4, x4, _, rfl, hp4, ixF_no y4 z4 (by decide +kernel) (by decide +kernel), Nat.zero_le _, fun l nl => ?_⟩
      refine ⟨p4, l, 1, [], [1], F4, _, [], [], rfl, un1, ix4.same (Kp.new nl), .inl upd_same, .nil, by decide, fun _ h => (nomatch h), List.mem_cons_self, fun Hf F5 _ _ kf => ?_⟩
      exact ⟨_, _, rfl, rfl, q _⟩
end
end K50

set_option Elab.async false
set_option linter.all false
set_option maxRecDepth 100000
set_option maxHeartbeats 0
namespace K50
open PySem PySem.Spec PyProof.Rows L2 ND
theorem txt {K : PySem.W.Frag} {hp : Heap} {mg : Str → Option Value} (X : K.In hp) (G : hp.Ns mainGlobals mg) (c : He.SaysD fa fn K) (x : ex K = true) : ∃ D, Txt K mg D := by
  have h0 : ∀ i : Nat, ∃ fd : FuncData, ∀ d : He.DefD, fn[i]? = some d → FunD K d.name d.qual d.params d.body d.scope (d.dvs K) (d.kws K) (He.fAd K d.at_) fd := fun i => by
    cases e : fn[i]? with
    | none => exact ⟨⟨"", "", default, default, default, 0, [], .none, .none, .none, .none, none, .none, .none, 0⟩, fun d q => nomatch q⟩
    | some d =>
      obtain ⟨fd, h⟩ := c.def_ i e
      exact ⟨fd, fun d' q => by cases q; exact h⟩
  let D : Nat → FuncData := fun i => Classical.choose (h0 i)
  have h : ∀ (i : Nat) (d : He.DefD), fn[i]? = some d → FunD K d.name d.qual d.params d.body d.scope (d.dvs K) (d.kws K) (He.fAd K d.at_) (D i) := fun i => Classical.choose_spec (h0 i)
  exact ⟨D, {
  F_place_for := h 0 _ rfl,
  g_place_for := He.glo_ok X G (c.fact 0 (f := .glo "place_for") rfl),
  F_Index_init := h 1 _ rfl,
  F_Index_lay := h 2 _ rfl,
  F_Index_take_out := h 3 _ rfl,
  F_Index_numbers_of := h 4 _ rfl,
  F_Index_how_many := h 5 _ rfl,
  F_Index_all_keys := h 6 _ rfl,
  F_Index_contains := h 7 _ rfl,
  F_Index_len := h 8 _ rfl,
  F_Index_eq := h 9 _ rfl,
  F_law_bag := h 10 _ rfl,
  g_law_bag := He.glo_ok X G (c.fact 1 (f := .glo "_law_bag") rfl),
  F_law_take := h 11 _ rfl,
  g_law_take := He.glo_ok X G (c.fact 2 (f := .glo "_law_take") rfl),
  F_law_of := h 12 _ rfl,
  g_law_of := He.glo_ok X G (c.fact 3 (f := .glo "_law_of") rfl),
  F_law_some := h 13 _ rfl,
  g_law_some := He.glo_ok X G (c.fact 4 (f := .glo "_law_some") rfl),
  F_law_names := h 14 _ rfl,
  g_law_names := He.glo_ok X G (c.fact 5 (f := .glo "_law_names") rfl),
  F_law_bool := h 15 _ rfl,
  g_law_bool := He.glo_ok X G (c.fact 6 (f := .glo "_law_bool") rfl),
  F_law_every := h 16 _ rfl,
  g_law_every := He.glo_ok X G (c.fact 7 (f := .glo "_law_every") rfl),
  F_law_keys := h 17 _ rfl,
  g_law_keys := He.glo_ok X G (c.fact 8 (f := .glo "_law_keys") rfl),
  F_law_same := h 18 _ rfl,
  g_law_same := He.glo_ok X G (c.fact 9 (f := .glo "_law_same") rfl),
  F_law_is := h 19 _ rfl,
  g_law_is := He.glo_ok X G (c.fact 10 (f := .glo "_law_is") rfl),
  F_law := h 20 _ rfl,
  g_law := He.glo_ok X G (c.fact 11 (f := .glo "law") rfl),
  n_len := He.free_ok X G (c.fact 13 (f := .free "len") rfl),
  n_range := He.free_ok X G (c.fact 14 (f := .free "range") rfl),
  n_sorted := He.free_ok X G (c.fact 15 (f := .free "sorted") rfl),
  n_isinstance := He.free_ok X G (c.fact 16 (f := .free "isinstance") rfl),
  n_list := He.free_ok X G (c.fact 17 (f := .free "list") rfl),
  n_tuple := He.free_ok X G (c.fact 18 (f := .free "tuple") rfl),
  n_abs := He.free_ok X G (c.fact 19 (f := .free "abs") rfl),
  n_int := He.free_ok X G (c.fact 20 (f := .free "int") rfl),
  n_enumerate := He.free_ok X G (c.fact 21 (f := .free "enumerate") rfl),
  n_min := He.free_ok X G (c.fact 22 (f := .free "min") rfl),
  n_max := He.free_ok X G (c.fact 23 (f := .free "max") rfl),
  n_bool := He.free_ok X G (c.fact 24 (f := .free "bool") rfl),
  g_Index := He.glo_ok X G (c.fact 12 (f := .glo "Index") rfl),
  cl_Index := He.cls_ok (c.fact 25 (f := .cls "Index") rfl),
  a_by_number := He.noat_ok (c.fact 26 (f := .noat "Index" "by_number") rfl),
  a_by_key := He.noat_ok (c.fact 27 (f := .noat "Index" "by_key") rfl),
  mk_Index := He.mkr_ok (c.fact 28 (f := .mkr "Index") rfl),
  m_Index_lay := He.meth_ok (c.fact 29 (f := .meth "Index" "lay") rfl),
  m_Index_take_out := He.meth_ok (c.fact 30 (f := .meth "Index" "take_out") rfl),
  m_Index_numbers_of := He.meth_ok (c.fact 31 (f := .meth "Index" "numbers_of") rfl),
  m_Index_how_many := He.meth_ok (c.fact 32 (f := .meth "Index" "how_many") rfl),
  m_Index_all_keys := He.meth_ok (c.fact 33 (f := .meth "Index" "all_keys") rfl),
  sp_Index_contains := ⟨(He.meth_ok (c.fact 34 (f := .meth "Index" "__contains__") rfl)).at_, (He.meth_ok (c.fact 34 (f := .meth "Index" "__contains__") rfl)).fn⟩,
  sp_Index_len := ⟨(He.meth_ok (c.fact 35 (f := .meth "Index" "__len__") rfl)).at_, (He.meth_ok (c.fact 35 (f := .meth "Index" "__len__") rfl)).fn⟩,
  sp_Index_eq := ⟨(He.meth_ok (c.fact 36 (f := .meth "Index" "__eq__") rfl)).at_, (He.meth_ok (c.fact 36 (f := .meth "Index" "__eq__") rfl)).fn⟩,
  x_Index := x }⟩
end K50
open PySem PySem.W PySem.Calls PyProof.Rows
theorem PySem.Challenge.cw_filedalike_k50_whole_index_holds : PySem.Challenge.rw_filedalike_k50_whole_index.Holds := by
  w_on; o_law
  refine HandSHeadRun.head_any (r := OpenLaw.row PySem.Challenge.rw_filedalike_k50_whole_index) (q := view (OpenLaw.row PySem.Challenge.rw_filedalike_k50_whole_index).prog [14]) (H := K50.hk) (ob := K50.ob) (M := 2000) (loose := K50.names) (d := HandSHeadRun.topDef (OpenLaw.row PySem.Challenge.rw_filedalike_k50_whole_index).prog 14) (kwd := []) K50.ob_eq
    (by kernel_rfl) (fun s => by kernel_rfl) K50.run (by kernel_rfl) (by kernel_rfl) (by kernel_rfl) (by rfl) (by first | assumption | decide +kernel) (by decide +kernel) ⟨rfl, rfl, rfl, rfl, rfl, by decide +kernel⟩ ?hw ?hc
  case hw => w_witness2
  case hc =>
    refine L2.walk_ofE (l := PySem.Challenge.rw_filedalike_k50_whole_index) (n := 63) (k := 4) (x := "_law_script") (CX := L2.CX0) rfl (by decide) (by kernel_rfl) ⟨rfl, by decide, by decide⟩ ?F (fun _ _ _ _ z => z)
    intro w mg fa h Y G hmg0
    obtain ⟨K, KX, c, x⟩ := Y
    have hmg : mg ("law" : PySem.Str) = some (.ref fa) := by
      have e : (HandSHeadRun.topDef (OpenLaw.row PySem.Challenge.rw_filedalike_k50_whole_index).prog 14).name = ("law" : PySem.Str) := by kernel_rfl
      rw [← e]
      exact hmg0
    obtain ⟨D, T⟩ := K50.txt KX G c x
    have e := hmg.symm.trans T.g_law
    cases e
    exact ⟨K, D 20, K50.spLaw K, KX, fun s v => L2.FunD.bindsA (ps := ["_law_script"]) T.F_law (fun _ _ _ _ _ _ us hl => match us, hl with | [_], _ => rfl) s [v] rfl, fun H a ns hl _ hS => ⟨a, ns, rfl, hS, hl, fun _ => rfl⟩, fun base _ _ => K50.ok_law T⟩
