import PyProof.Rows.All
import Wide.All
import OpenK.AllK
import Wide.FinOn
import KE.KeyNested
import PyProof.DictMoreH
import HandS.ForMost
import HandS.List
import KE.SortData
import HandS.SetKeys
import HandS.SetFor
import PyProof.SetRoads
import HandS.Flow
import HandS.Deep
import PyProof.NeKinds
import HandS.TupMul
import HandS.TupAny
import HandS.Text
import HandS.IsInst
import HandS.Style
import HandS.More
import HandS.StrMore
import KE.KDictCopyH
import KE.KDictSum
import HandS.TupLen
import PyProof.Rows.TupDisplay
import HandS.Dict
import KE.KDictPairs
import PyProof.DictKinds
import KE.KItemsList
import HandS.Keys
import KE.GoesNew
import KE.GoesMore
import HandS.Zip
import HandS.Iter
import KE.KDictWalk
import HandS.Comp
import HandS.Ends
import HandS.Words
import HandS.Defaults
import HandS.Head2
import HandS.HeadEnd
import HandS.HeadHook2
import HandS.Head3
import KE.OsSortAny
import PyProof.StrLawsRepr
import PySem.Challenge.RW_sortedturns_k01_signs_names_and_lots
set_option linter.all false
set_option Elab.async false
set_option maxHeartbeats 1000000
set_option pp.deepTerms false
set_option pp.deepTerms.threshold 9
/-! dicts of any keys: numbers, truths, texts, None, tuples of such, mixed -/
namespace MP
open PySem PySem.Spec SeqAt
/-- an entry: what the key is, its value, what is kept -/
abbrev NE := NestedKey × Value × Value
def entN (w : World) (x : NE) : DictEntry := ⟨x.1.hash w, x.2.1, x.2.2⟩
def KeyIn (h : Heap) (k : NestedKey) (u : Value) : Prop := NestedIs h k u ∧ k.depth ≤ 8
structure DictN (w : World) (h : Heap) (d : Addr) (xs : List NE) : Prop where
  ex : ∃ o es ep, h.get? d = some o ∧ o.ExactDict ∧ o.data = .dict es ep ∧ es.toList = xs.map (entN w)
  is : ∀ x ∈ xs, KeyIn h x.1 x.2.1
  nd : (xs.map (·.1)).Nodup
def atN (xs : List NE) (k : NestedKey) : Option Value := (xs.find? fun x => decide (x.1 = k)).map (·.2.2)
def putN (xs : List NE) (k : NestedKey) (u v : Value) : List NE := if k ∈ xs.map (·.1) then xs.map fun x => if x.1 = k then (x.1, x.2.1, v) else x else xs ++ [(k, u, v)]
def delN (xs : List NE) (k : NestedKey) : List NE := xs.filter fun x => decide (x.1 ≠ k)
theorem ix_one {xs : List NE} (hn : (xs.map (·.1)).Nodup) {i j : Nat} {x y : NE} (hi : xs[i]? = some x) (hj : xs[j]? = some y) (e : x.1 = y.1) : i = j := by
  have h1 : (xs.map (·.1))[i]? = some x.1 := by rw [List.getElem?_map, hi]; rfl
  have h2 : (xs.map (·.1))[j]? = some x.1 := by rw [List.getElem?_map, hj, e]; rfl
  obtain ⟨l1, e1⟩ := List.getElem?_eq_some_iff.mp h1
  obtain ⟨l2, e2⟩ := List.getElem?_eq_some_iff.mp h2
  exact (List.getElem_inj hn).mp (e1.trans e2.symm)
theorem atN_none {xs : List NE} {k : NestedKey} (h : ∀ (j : Nat) (x : NE), xs[j]? = some x → x.1 ≠ k) : atN xs k = none ∧ k ∉ xs.map (·.1) := by
  have h' : ∀ x ∈ xs, x.1 ≠ k := fun x hx => by
    obtain ⟨j, hj, rfl⟩ := List.getElem_of_mem hx
    exact h j _ (List.getElem?_eq_getElem hj)
  refine ⟨?_, fun hm => ?_⟩
  · unfold atN
    rw [List.find?_eq_none.mpr fun x hx => by simpa using h' x hx]
    rfl
  · obtain ⟨x, hx, e⟩ := List.mem_map.mp hm
    exact h' x hx e
theorem atN_some : ∀ {xs : List NE} {k : NestedKey} {j : Nat} {x : NE}, (xs.map (·.1)).Nodup → xs[j]? = some x → x.1 = k → atN xs k = some x.2.2
  | [], _, _, _, _, h, _ => by simp at h
  | y :: ys, k, j, x, hn, h, e => by
    unfold atN
    rw [List.map_cons, List.nodup_cons] at hn
    cases j with
    | zero => simp at h; subst h; simp [e]
    | succ j =>
      have hj : ys[j]? = some x := by simpa using h
      have ne : y.1 ≠ k := fun q => hn.1 (List.mem_map.mpr ⟨x, List.mem_of_getElem? hj, e.trans q.symm⟩)
      rw [List.find?_cons_of_neg (by simpa using ne)]
      exact atN_some hn.2 hj e
section
variable {prog : Program} {w : World} {A : Around} {E : Value → Shared → Prop} {s : Shared}
/-- the places still to be looked at, what was hit -/
structure Seek (xs : List NE) (k : NestedKey) (rest : List Nat) (hit : Option Nat) : Prop where
  nd : rest.Nodup
  lt : ∀ i ∈ rest, i < xs.length
  none : hit = none → ∀ j x, xs[j]? = some x → x.1 = k → j ∈ rest
  some : ∀ j, hit = some j → j ∉ rest ∧ ∃ x, xs[j]? = some x ∧ x.1 = k
theorem Seek.hop {xs : List NE} {k : NestedKey} {i : Nat} {rest : List Nat} {hit : Option Nat} (q : Seek xs k (i :: rest) hit) (h : ∀ x, xs[i]? = Option.some x → x.1 ≠ k) : Seek xs k rest hit where
  nd := (List.nodup_cons.mp q.nd).2
  lt := fun j hj => q.lt j (List.mem_cons_of_mem _ hj)
  none := fun e j x hj hx => by
    rcases List.mem_cons.mp (q.none e j x hj hx) with z | z
    · subst z; exact absurd hx (h x hj)
    · exact z
  some := fun j e => ⟨fun hm => (q.some j e).1 (List.mem_cons_of_mem _ hm), (q.some j e).2⟩
theorem Seek.found {xs : List NE} {k : NestedKey} {i : Nat} {rest : List Nat} {x : NE} (q : Seek xs k (i :: rest) Option.none) (hi : xs[i]? = Option.some x) (hx : x.1 = k) : Seek xs k rest (Option.some i) where
  nd := (List.nodup_cons.mp q.nd).2
  lt := fun j hj => q.lt j (List.mem_cons_of_mem _ hj)
  none := fun e => nomatch e
  some := fun j e => by cases e; exact ⟨(List.nodup_cons.mp q.nd).1, x, hi, hx⟩
theorem Seek.start {w : World} {xs : List NE} {k : NestedKey} {es : Array DictEntry} (he : es.toList = xs.map (entN w)) : Seek xs k (placesWithHash es.size (fun i => es[i]?.map (·.hash)) (k.hash w)) Option.none := by
  have hsz : es.size = xs.length := by rw [← Array.length_toList, he, List.length_map]
  have hat : ∀ j, es[j]? = xs[j]?.map (entN w) := fun j => by rw [← Array.getElem?_toList, he, List.getElem?_map]
  unfold placesWithHash
  refine ⟨List.Nodup.sublist List.filter_sublist List.nodup_range, fun i hi => ?_, fun _ j x hj hx => ?_, fun j e => nomatch e⟩
  · have := List.mem_range.mp (List.mem_filter.mp hi).1
    omega
  · refine List.mem_filter.mpr ⟨List.mem_range.mpr ?_, ?_⟩
    · rw [hsz]; exact (List.getElem?_eq_some_iff.mp hj).1
    · show (es[j]?.map (·.hash) == Option.some (NestedKey.hash w k)) = true
      rw [hat, hj]; simp [entN, hx]
theorem keyEq {k k' : NestedKey} {u u' : Value} {Q : Bool → Shared → Prop} (hu : A.units + 9 < cLine) (h : KeyIn s.heap k u) (h' : KeyIn s.heap k' u') (q : Q (decide (k = k')) s) : wpAny (model prog w) A (eqBool u u') Q E s :=
  eqAt_key k k' A s _ _ h.1 h'.1 (by have := h.2; have := h'.2; omega) _ _ _ _ (by rw [← NestedKey.decide_eq]; exact q)
theorem str_key {h : Heap} {k : NestedKey} {x : Str} {t : Tok} (q : NestedIs h k (.str x t)) : k = .text x := by cases q; rfl
theorem tells_quiet {u : Value} {k : NestedKey} {st : List Value} {Q : Bool → Shared → Prop} (hk : KeyIn s.heap k u) (hs : ∀ v ∈ st, ∃ k', KeyIn s.heap k' v) (q : Q false s) : wpAny (model prog w) A (tableMayTell u st) Q E s := by
  unfold tableMayTell
  cases hst : st.isEmpty with
  | true => exact wpAny_pure q
  | false =>
    rw [if_neg Bool.false_ne_true]
    refine wpAny_bind (quiet_key k u 8 s hk.1 hk.2 _ _ _ ?_)
    rw [if_neg (by decide)]
    refine wpAny_bind (wpAny_forIn_list _ (fun rest r s' => s' = s ∧ r = (none, ()) ∧ ∀ v ∈ rest, ∃ k', KeyIn s.heap k' v) _ ?_ ?_ _ _ ⟨rfl, rfl, hs⟩)
    · rintro x rest r s' ⟨e, e', hr⟩
      subst e; subst e'
      obtain ⟨k', hk'⟩ := hr x List.mem_cons_self
      refine wpAny_bind (quiet_key k' x 8 s' hk'.1 hk'.2 _ _ _ ?_)
      rw [if_neg (by decide)]
      exact wpAny_pure ⟨rfl, rfl, fun v hv => hr v (List.mem_cons_of_mem _ hv)⟩
    · rintro r s' ⟨e, e', _⟩
      subst e; subst e'
      exact wpAny_pure q
theorem find_walks {d : Addr} {o : Obj} {es : Array DictEntry} {ep : Nat} {xs : List NE} {k : NestedKey} {u : Value} {pl : List Nat} {Q : Option Nat → Shared → Prop} (hu : A.units + 9 < cLine) (hk : KeyIn s.heap k u) (ho : s.heap.get? d = some o) (hd : o.data = .dict es ep) (he : es.toList = xs.map (entN w))
    (his : ∀ x ∈ xs, KeyIn s.heap x.1 x.2.1) (hp : Seek xs k pl none) (h0 : (∀ (j : Nat) (x : NE), xs[j]? = some x → x.1 ≠ k) → Q none s) (h1 : ∀ (j : Nat) (x : NE), xs[j]? = some x → x.1 = k → Q (some j) s) :
    wpAny (model prog w) A (dictWalkPlain d u (k.hash w) es pl) Q E s := by
  have hat : ∀ j, es[j]? = xs[j]?.map (entN w) := fun j => by rw [← Array.getElem?_toList, he, List.getElem?_map]
  unfold dictWalkPlain
  refine wpAny_bind (wpAny_forIn_list _ (fun rest b s' => s' = s ∧ b = (none, ()) ∧ Seek xs k rest none) _ ?_ ?_ _ _ ⟨rfl, rfl, hp⟩)
  · rintro i rest b s' ⟨e1, e2, sk⟩
    subst e1; subst e2
    have hlt := sk.lt i List.mem_cons_self
    have hx : xs[i]? = some xs[i] := List.getElem?_eq_getElem hlt
    rw [hat, hx]
    simp only [Option.map_some]
    by_cases hh : ((entN w xs[i]).hash == k.hash w) = true
    · rw [if_pos hh]
      refine wpAny_bind (wpAny_dictEpoch ho hd (wpAny_bind (keyEq hu (his _ (List.getElem_mem hlt)) hk (wpAny_bind (wpAny_dictEpoch ho hd ?_)))))
      rw [if_neg (by simp)]
      by_cases hkk : xs[i].1 = k
      · rw [decide_eq_true hkk, if_pos rfl]
        exact wpAny_bind (wpAny_rule (wpAny_pure (wpAny_pure (h1 i _ hx hkk))))
      · rw [decide_eq_false hkk, if_neg Bool.false_ne_true]
        exact wpAny_bind (wpAny_rule (wpAny_pure ⟨rfl, rfl, sk.hop fun y hy => by rw [hx] at hy; cases hy; exact hkk⟩))
    · rw [if_neg hh]
      refine wpAny_pure ⟨rfl, rfl, sk.hop fun y hy z => hh ?_⟩
      rw [hx] at hy; cases hy
      simp [entN, z]
  · rintro b s' ⟨e1, e2, sk⟩
    subst e1; subst e2
    exact wpAny_pure (h0 fun j x hj hx => by have := sk.none rfl j x hj hx; cases this)
theorem find_any {d : Addr} {o : Obj} {es : Array DictEntry} {ep : Nat} {xs : List NE} {k : NestedKey} {u : Value} {Q : Option Nat → Shared → Prop} (hu : A.units + 9 < cLine) (hk : KeyIn s.heap k u) (ho : s.heap.get? d = some o) (hd : o.data = .dict es ep) (he : es.toList = xs.map (entN w))
    (his : ∀ x ∈ xs, KeyIn s.heap x.1 x.2.1) (hn : (xs.map (·.1)).Nodup) (h0 : (∀ (j : Nat) (x : NE), xs[j]? = some x → x.1 ≠ k) → Q none s) (h1 : ∀ (j : Nat) (x : NE), xs[j]? = some x → x.1 = k → Q (some j) s) :
    wpAny (model prog w) A (dictFind d u (k.hash w)) Q E s := by
  have hat : ∀ j, es[j]? = xs[j]?.map (entN w) := fun j => by rw [← Array.getElem?_toList, he, List.getElem?_map]
  have hmem : ∀ e ∈ es, ∃ x ∈ xs, e = entN w x := fun e hin => by
    have : e ∈ xs.map (entN w) := he ▸ Array.mem_toList_iff.mpr hin
    obtain ⟨x, hx, q⟩ := List.mem_map.mp this
    exact ⟨x, hx, q.symm⟩
  unfold dictFind
  refine wpAny_holding (wpAny_bind (wpAny_dictEntries ho hd ?_))
  by_cases hs : ∃ x t, u = Value.str x t ∧ (es.all fun e => isExactStrKey e.key) = true
  · obtain ⟨x, t, rfl, hex⟩ := hs
    dsimp only
    rw [if_pos hex]
    have ek := str_key hk.1
    subst ek
    unfold foundByValue
    have hkey : ∀ (j : Nat) (y : NE), xs[j]? = some y → (y.2.1.isStr x = true ↔ y.1 = .text x) := fun j y hy => by
      have h2 := his y (List.mem_of_getElem? hy)
      have h3 : isExactStrKey y.2.1 = true := by
        have h4 : entN w y ∈ es := by
          rw [← Array.mem_toList_iff, he]
          exact List.mem_map.mpr ⟨y, List.mem_of_getElem? hy, rfl⟩
        exact Array.all_eq_true_iff_forall_mem.mp hex _ h4
      obtain ⟨yk, yu, yv⟩ := y
      cases yu with
      | str z tz =>
        have := str_key h2.1
        simp only at this ⊢
        subst this
        simp [Value.isStr]
      | _ => simp [isExactStrKey] at h3
    cases hf : es.findIdx? (·.key.isStr x) with
    | none =>
      refine wpAny_pure (h0 fun j y hj hy => ?_)
      have h2 := Array.findIdx?_eq_none_iff.mp hf (entN w y) (by
        rw [← Array.mem_toList_iff, he]
        exact List.mem_map.mpr ⟨y, List.mem_of_getElem? hj, rfl⟩)
      have h3 := (hkey j y hj).mpr hy
      simp [entN, h3] at h2
    | some i =>
      obtain ⟨hlt, hp, _⟩ := Array.findIdx?_eq_some_iff_getElem.mp hf
      have hx : ∃ y, xs[i]? = some y := by
        have := hat i
        rw [Array.getElem?_eq_getElem hlt] at this
        cases hy : xs[i]? with
        | none => rw [hy] at this; cases this
        | some y => exact ⟨y, rfl⟩
      obtain ⟨y, hy⟩ := hx
      have hey : es[i]? = some (entN w y) := by rw [hat, hy]; rfl
      have hpy : y.2.1.isStr x = true := by
        rw [Array.getElem?_eq_getElem hlt] at hey
        rw [Option.some.inj hey] at hp
        exact hp
      have hyk := (hkey i y hy).mp hpy
      simp only [hey]
      refine wpAny_bind (wpAny_dictEpoch ho hd (wpAny_bind (keyEq hu (his y (List.mem_of_getElem? hy)) hk (wpAny_bind (wpAny_dictEpoch ho hd ?_)))))
      rw [if_neg (by simp), decide_eq_true hyk, if_pos rfl]
      exact wpAny_bind (wpAny_rule (wpAny_pure (h1 i y hy hyk)))
  have sk0 : Seek xs k (placesWithHash es.size (fun i => es[i]?.map (·.hash)) (k.hash w)) none := Seek.start he
  have hst : ∀ v ∈ (placesWithHash es.size (fun i => es[i]?.map (·.hash)) (k.hash w)).filterMap (fun i => es[i]?.map (·.key)), ∃ k', KeyIn s.heap k' v := fun v hv => by
    obtain ⟨i, _, hi⟩ := List.mem_filterMap.mp hv
    rw [hat] at hi
    cases hx : xs[i]? with
    | none => rw [hx] at hi; cases hi
    | some x =>
      rw [hx] at hi
      have e : x.2.1 = v := by simpa [entN] using hi
      exact ⟨x.1, e ▸ his x (List.mem_of_getElem? hx)⟩
  have hno : ¬ (es.any fun e => e.key == u && e.hash != k.hash w) = true := by
    rw [← Array.any_toList, List.any_eq_true]
    rintro ⟨e, hin, hc⟩
    obtain ⟨x, hx, q⟩ := hmem e (Array.mem_toList_iff.mp hin)
    subst q
    simp only [entN, Bool.and_eq_true, beq_iff_eq, bne_iff_ne] at hc
    have h2 := (his x hx).1
    rw [hc.1] at h2
    exact hc.2 (by rw [NestedIs.inj _ _ _ h2 hk.1])
  have qt : ∀ st : List Value, (∀ v ∈ st, ∃ k', KeyIn s.heap k' v) → ∀ Q' : Bool → Shared → Prop, Q' false s → wpAny (model prog w) A (tableMayTell u st) Q' E s := fun st h Q' q => tells_quiet hk h q
  dsimp only
  have low : ∀ (b : Bool) (X Y : Sem (Option Nat)), b = false → wpAny (model prog w) A Y Q E s → wpAny (model prog w) A (if b = true then X else Y) Q E s := fun b X Y hb h => by rw [hb, if_neg Bool.false_ne_true]; exact h
  have pick : ∀ (b : Bool) (X Y : Sem (Option Nat)), (b = true → wpAny (model prog w) A X Q E s) → (b = false → wpAny (model prog w) A Y Q E s) → wpAny (model prog w) A (if b = true then X else Y) Q E s := fun b X Y h h' => by
    cases b with
    | true => rw [if_pos rfl]; exact h rfl
    | false => rw [if_neg Bool.false_ne_true]; exact h' rfl
  split
  all_goals try refine low _ _ _ (Bool.eq_false_iff.mpr fun z => hs ⟨_, _, rfl, z⟩) ?_
  all_goals refine pick _ _ _ (fun _ => find_walks hu hk ho hd he his sk0 h0 h1) fun _ => ?_
  all_goals try dsimp only
  all_goals try (split)
  all_goals try refine low _ _ _ (Bool.eq_false_iff.mpr hno) ?_
  all_goals refine pick _ _ _ (fun _ => ?_) fun _ => ?_
  all_goals first | refine wpAny_bind (wpAny_pure ?_) | refine wpAny_bind (qt _ hst _ ?_)
  all_goals
    refine low _ _ _ rfl ?_
    refine wpAny_bind (wpAny_forIn_list _ (fun rest b s1 => s1 = s ∧ b.1 = none ∧ Seek xs k rest b.2) _ ?_ ?_ _ _ ⟨rfl, rfl, sk0⟩)
    · rintro i rest ⟨b1, hit⟩ s1 ⟨e1, e2, sk⟩
      have e2' : b1 = none := e2
      subst e1; subst e2'
      have hlt := sk.lt i List.mem_cons_self
      have hx : xs[i]? = some xs[i] := List.getElem?_eq_getElem hlt
      rw [hat, hx]
      simp only [Option.map_some]
      by_cases hh : ((entN w xs[i]).hash == k.hash w) = true
      · rw [if_pos hh]
        refine wpAny_bind (wpAny_dictEpoch ho hd (wpAny_bind (keyEq hu (his _ (List.getElem_mem hlt)) hk (wpAny_bind (wpAny_dictEpoch ho hd ?_)))))
        rw [if_neg (by simp)]
        by_cases hkk : xs[i].1 = k
        · rw [decide_eq_true hkk, if_pos rfl]
          cases hit with
          | some j =>
            obtain ⟨hj, x, hxj, hxk⟩ := sk.some j rfl
            exact absurd (ix_one hn hxj hx (hxk.trans hkk.symm) ▸ List.mem_cons_self) hj
          | none =>
            rw [if_neg (by simp)]
            refine wpAny_bind (wpAny_rule ?_)
            split
            · exact wpAny_pure (wpAny_pure (h1 i _ hx hkk))
            · exact wpAny_pure ⟨rfl, rfl, sk.found hx hkk⟩
        · rw [decide_eq_false hkk, if_neg Bool.false_ne_true]
          refine wpAny_bind (wpAny_rule ?_)
          rw [if_neg (by simp)]
          exact wpAny_pure ⟨rfl, rfl, sk.hop fun y hy => by rw [hx] at hy; cases hy; exact hkk⟩
      · rw [if_neg hh]
        refine wpAny_pure ⟨rfl, rfl, sk.hop fun y hy z => hh ?_⟩
        rw [hx] at hy; cases hy
        simp [entN, z]
    · rintro ⟨b1, hit⟩ s1 ⟨e1, e2, sk⟩
      have e2' : b1 = none := e2
      subst e1; subst e2'
      cases hit with
      | none => exact wpAny_pure (h0 fun j x hj hx => by have := sk.none rfl j x hj hx; cases this)
      | some j =>
        obtain ⟨_, x, hxj, hxk⟩ := sk.some j rfl
        exact wpAny_pure (h1 j x hxj hxk)
end
end MP
set_option linter.all false
set_option Elab.async false
set_option maxHeartbeats 1000000
set_option pp.deepTerms false
set_option pp.deepTerms.threshold 9
/-! what is asked of such dicts -/
namespace MP
open PySem PySem.Spec SeqAt
theorem NestedIs.but {d : Addr} {h h' : Heap} {o : Obj} {es : Array DictEntry} {ep : Nat} (ho : h.get? d = some o) (hd : o.data = .dict es ep) (hs : Heap.SameBut d h h') {k : NestedKey} {u : Value} (x : KeyIn h k u) : KeyIn h' k u :=
  ⟨NestedIs.at (fun b ob vs n hb hc => (hs.2 b fun e => by subst e; rw [ho] at hb; cases hb; rw [hd] at hc; cases hc).trans hb) k u x.1, x.2⟩
theorem DictN.typeIs {w : World} {s : Shared} {d : Addr} {xs : List NE} (m : DictN w s.heap d xs) : s.TypeIs (.ref d) "dict" :=
  let ⟨o, _, _, ho, hc, _⟩ := m.ex; ⟨o, ho, hc.1⟩
theorem DictN.size {w : World} {xs : List NE} {es : Array DictEntry} (he : es.toList = xs.map (entN w)) : es.size = xs.length := by
  rw [← Array.length_toList, he, List.length_map]
theorem putN_new {xs : List NE} {k : NestedKey} {u v : Value} (h : k ∉ xs.map (·.1)) : putN xs k u v = xs ++ [(k, u, v)] := if_neg h
theorem putN_old {xs : List NE} {k : NestedKey} {u v : Value} (h : k ∈ xs.map (·.1)) : putN xs k u v = xs.map fun x => if x.1 = k then (x.1, x.2.1, v) else x := if_pos h
theorem keys_put (xs : List NE) (k : NestedKey) (v : Value) : (xs.map fun x => if x.1 = k then (x.1, x.2.1, v) else x).map (·.1) = xs.map (·.1) := by
  rw [List.map_map]
  apply List.map_congr_left
  intro x _
  show (if x.1 = k then (x.1, x.2.1, v) else x).1 = x.1
  split <;> rfl
theorem modify_put {w : World} {k : NestedKey} {v : Value} : ∀ {xs : List NE} {j : Nat} {x : NE}, (xs.map (·.1)).Nodup → xs[j]? = some x → x.1 = k →
    (xs.map (entN w)).modify j (fun e => { e with val := v }) = (xs.map fun x => if x.1 = k then (x.1, x.2.1, v) else x).map (entN w)
  | [], _, _, _, h, _ => by simp at h
  | y :: ys, 0, x, hn, h, e => by
    simp at h
    subst h
    rw [List.map_cons, List.nodup_cons] at hn
    have rest : (ys.map fun x => if x.1 = k then (x.1, x.2.1, v) else x) = ys := by
      conv => rhs; rw [← List.map_id ys]
      apply List.map_congr_left
      intro z hz
      have : z.1 ≠ k := fun q => hn.1 (List.mem_map.mpr ⟨z, hz, q.trans e.symm⟩)
      simp [this]
    rw [List.map_cons, List.map_cons, List.map_cons, rest, if_pos e]
    rfl
  | y :: ys, j + 1, x, hn, h, e => by
    rw [List.map_cons, List.nodup_cons] at hn
    have hj : ys[j]? = some x := by simpa using h
    have ne : y.1 ≠ k := fun q => hn.1 (List.mem_map.mpr ⟨x, List.mem_of_getElem? hj, e.trans q.symm⟩)
    rw [List.map_cons, List.map_cons, List.map_cons, if_neg ne, ← modify_put hn.2 hj e]
    rfl
theorem erase_del {k : NestedKey} : ∀ {xs : List NE} {j : Nat} {x : NE}, (xs.map (·.1)).Nodup → xs[j]? = some x → x.1 = k → xs.eraseIdx j = delN xs k
  | [], _, _, _, h, _ => by simp at h
  | y :: ys, 0, x, hn, h, e => by
    simp at h
    subst h
    rw [List.map_cons, List.nodup_cons] at hn
    unfold delN
    rw [List.filter_cons_of_neg (by simpa using e)]
    symm
    rw [List.eraseIdx_cons_zero, List.filter_eq_self]
    intro z hz
    have : z.1 ≠ k := fun q => hn.1 (List.mem_map.mpr ⟨z, hz, q.trans e.symm⟩)
    simpa using this
  | y :: ys, j + 1, x, hn, h, e => by
    rw [List.map_cons, List.nodup_cons] at hn
    have hj : ys[j]? = some x := by simpa using h
    have ne : y.1 ≠ k := fun q => hn.1 (List.mem_map.mpr ⟨x, List.mem_of_getElem? hj, e.trans q.symm⟩)
    unfold delN
    rw [List.filter_cons_of_pos (by simpa using ne), List.eraseIdx_cons_succ, erase_del hn.2 hj e]
    rfl
theorem key_mem {xs : List NE} {k : NestedKey} {j : Nat} {x : NE} (hj : xs[j]? = some x) (hx : x.1 = k) : k ∈ xs.map (·.1) := List.mem_map.mpr ⟨x, List.mem_of_getElem? hj, hx⟩
section
variable {prog : Program} {w : World} {A : Around} {E : Value → Shared → Prop} {s : Shared} {d : Addr} {xs : List NE} {k : NestedKey} {u v : Value}
theorem hashN {Q : Int → Shared → Prop} (hu : A.units + 9 < cLine) (hk : KeyIn s.heap k u) (q : Q (k.hash w) { s with toks := s.toks + k.draws }) : wpAny (model prog w) A (pyHash u) Q E s :=
  pyHash_key k u A s Q hk.1 (by have := hk.2; omega) q
theorem getN {Q : Option Value → Shared → Prop} (hu : A.units + 9 < cLine) (hk : KeyIn s.heap k u) (m : DictN w s.heap d xs) (q : Q (atN xs k) { s with toks := s.toks + k.draws }) : wpAny (model prog w) A (dictGet d u) Q E s := by
  obtain ⟨o, es, ep, ho, _, hd, he⟩ := m.ex
  unfold dictGet
  refine wpAny_holding (wpAny_bind (hashN hu hk (wpAny_bind (find_any (s := { s with toks := s.toks + k.draws }) hu hk ho hd he m.is m.nd (fun h => ?_) fun j x hj hx => ?_))))
  · rw [(atN_none h).1] at q
    exact wpAny_pure q
  · rw [atN_some m.nd hj hx] at q
    refine wpAny_bind (wpAny_dictEntries (s := { s with toks := s.toks + k.draws }) ho hd ?_)
    have e1 : es[j]? = some (entN w x) := by rw [← Array.getElem?_toList, he, List.getElem?_map, hj]; rfl
    rw [e1]
    exact wpAny_pure q
/-- behind a new key at the end -/
theorem DictN.pushed {o : Obj} {es : Array DictEntry} {ep : Nat} (m : DictN w s.heap d xs) (hk : KeyIn s.heap k u) (ho : s.heap.get? d = some o) (hc : o.ExactDict) (hd : o.data = .dict es ep) (he : es.toList = xs.map (entN w)) (hn : k ∉ xs.map (·.1)) :
    DictN w (s.heap.update d (Obj.mapDictKeys (·.push ⟨k.hash w, u, v⟩))) d (putN xs k u v) := by
  rw [putN_new hn]
  have sb : Heap.SameBut d s.heap (s.heap.update d (Obj.mapDictKeys (·.push ⟨k.hash w, u, v⟩))) := Heap.SameBut.update ..
  refine ⟨⟨_, _, ep + 1, Heap.get?_update_self _ ho (Obj.isFreed_of_dict (Obj.data_mapDictKeys hd _)), hc.mapDictKeys _, Obj.data_mapDictKeys hd _, by simp [he, entN]⟩, fun x hx => ?_, ?_⟩
  · rcases List.mem_append.mp hx with hx | hx
    · exact NestedIs.but ho hd sb (m.is x hx)
    · rw [List.mem_singleton] at hx
      subst hx
      exact NestedIs.but ho hd sb hk
  · rw [List.map_append, List.nodup_append]
    refine ⟨m.nd, by simp, fun a ha b hb e => ?_⟩
    have hb' : b = k := by simpa using hb
    exact hn (hb' ▸ e ▸ ha)
/-- behind another value of a key -/
theorem DictN.changed {o : Obj} {es : Array DictEntry} {ep j : Nat} {x : NE} (m : DictN w s.heap d xs) (ho : s.heap.get? d = some o) (hc : o.ExactDict) (hd : o.data = .dict es ep) (he : es.toList = xs.map (entN w)) (hj : xs[j]? = some x) (hx : x.1 = k) :
    DictN w (s.heap.update d (Obj.mapDict (·.modify j fun e => { e with val := v }))) d (putN xs k u v) := by
  rw [putN_old (key_mem hj hx)]
  have sb : Heap.SameBut d s.heap (s.heap.update d (Obj.mapDict (·.modify j fun e => { e with val := v }))) := Heap.SameBut.update ..
  refine ⟨⟨_, _, ep, Heap.get?_update_self _ ho (Obj.isFreed_of_dict (Obj.data_mapDict hd _)), hc.mapDict _, Obj.data_mapDict hd _, ?_⟩, fun y hy => ?_, ?_⟩
  · rw [← modify_put m.nd hj hx, ← he]
    obtain ⟨l⟩ := es
    simp
  · obtain ⟨z, hz, e⟩ := List.mem_map.mp hy
    have := NestedIs.but ho hd sb (m.is z hz)
    subst e
    split <;> exact this
  · rw [keys_put]; exact m.nd
theorem DictN.erased {o : Obj} {es : Array DictEntry} {ep j : Nat} {x : NE} (m : DictN w s.heap d xs) (ho : s.heap.get? d = some o) (hc : o.ExactDict) (hd : o.data = .dict es ep) (he : es.toList = xs.map (entN w)) (hj : xs[j]? = some x) (hx : x.1 = k) :
    DictN w (s.heap.update d (Obj.mapDictKeys (·.eraseIdxIfInBounds j))) d (delN xs k) := by
  have sb : Heap.SameBut d s.heap (s.heap.update d (Obj.mapDictKeys (·.eraseIdxIfInBounds j))) := Heap.SameBut.update ..
  refine ⟨⟨_, _, ep + 1, Heap.get?_update_self _ ho (Obj.isFreed_of_dict (Obj.data_mapDictKeys hd _)), hc.mapDictKeys _, Obj.data_mapDictKeys hd _, ?_⟩, fun y hy => ?_, ?_⟩
  · rw [← erase_del m.nd hj hx, map_eraseIdx, ← he]
    obtain ⟨l⟩ := es
    simp
  · exact NestedIs.but ho hd sb (m.is y (List.mem_filter.mp hy).1)
  · exact List.Nodup.sublist (List.Sublist.map _ List.filter_sublist) m.nd
theorem setN {Q : Unit → Shared → Prop} (hu : A.units + 9 < cLine) (hk : KeyIn s.heap k u) (m : DictN w s.heap d xs) (hz : xs.length ≤ sizeLine)
    (q : ∀ h', DictN w h' d (putN xs k u v) → Heap.SameBut d s.heap h' → Q () { s with heap := h', toks := s.toks + k.draws }) : wpAny (model prog w) A (dictSet d u v) Q E s := by
  obtain ⟨o, es, ep, ho, hc, hd, he⟩ := m.ex
  have hsz : es.size ≤ sizeLine := by rw [DictN.size he]; exact hz
  unfold dictSet dictSetHashed
  refine wpAny_holding (wpAny_bind (hashN hu hk (wpAny_holding (wpAny_bind (find_any (s := { s with toks := s.toks + k.draws }) hu hk ho hd he m.is m.nd (fun h => ?_) fun j x hj hx => ?_)))))
  · exact wpAny_bind (wpAny_rule (wpAny_updateDictKeys (hz := hsz) (s := { s with toks := s.toks + k.draws }) ho hd (q _ (m.pushed hk ho hc hd he (atN_none h).2) (Heap.SameBut.update ..))))
  · exact wpAny_bind (wpAny_rule (wpAny_bind (wpAny_updateDict (s := { s with toks := s.toks + k.draws }) ho hd (wpAny_point (q _ (m.changed ho hc hd he hj hx) (Heap.SameBut.update ..))))))
theorem dfltN {Q : Value → Shared → Prop} (hu : A.units + 9 < cLine) (hk : KeyIn s.heap k u) (m : DictN w s.heap d xs) (hz : xs.length ≤ sizeLine)
    (q1 : ∀ z, atN xs k = some z → Q z { s with toks := s.toks + k.draws })
    (q : atN xs k = none → ∀ h', DictN w h' d (putN xs k u v) → Heap.SameBut d s.heap h' → Q v { s with heap := h', toks := s.toks + k.draws }) : wpAny (model prog w) A (dictSetDefault d u v) Q E s := by
  obtain ⟨o, es, ep, ho, hc, hd, he⟩ := m.ex
  have hsz : es.size ≤ sizeLine := by rw [DictN.size he]; exact hz
  unfold dictSetDefault
  refine wpAny_holding (wpAny_bind (hashN hu hk (wpAny_bind (find_any (s := { s with toks := s.toks + k.draws }) hu hk ho hd he m.is m.nd (fun h => ?_) fun j x hj hx => ?_))))
  · exact wpAny_bind (wpAny_rule (wpAny_bind (wpAny_updateDictKeys (hz := hsz) (s := { s with toks := s.toks + k.draws }) ho hd (wpAny_pure (q (atN_none h).1 _ (m.pushed hk ho hc hd he (atN_none h).2) (Heap.SameBut.update ..))))))
  · refine wpAny_bind (wpAny_dictEntries (s := { s with toks := s.toks + k.draws }) ho hd ?_)
    have e1 : es[j]? = some (entN w x) := by rw [← Array.getElem?_toList, he, List.getElem?_map, hj]; rfl
    rw [e1]
    exact wpAny_bind (wpAny_rule (wpAny_pure (q1 _ (atN_some m.nd hj hx))))
theorem takeN {Q : Option DictEntry → Shared → Prop} (hu : A.units + 9 < cLine) (hk : KeyIn s.heap k u) (m : DictN w s.heap d xs) (hz : xs.length ≤ sizeLine)
    (q0 : atN xs k = none → Q none { s with toks := s.toks + k.draws })
    (q : ∀ z e, atN xs k = some z → e.val = z → ∀ h', DictN w h' d (delN xs k) → Heap.SameBut d s.heap h' → Q (some e) { s with heap := h', toks := s.toks + k.draws }) : wpAny (model prog w) A (Builtin.Dict.takeOut d u) Q E s := by
  obtain ⟨o, es, ep, ho, hc, hd, he⟩ := m.ex
  have hsz : es.size ≤ sizeLine := by rw [DictN.size he]; exact hz
  unfold Builtin.Dict.takeOut
  refine wpAny_holding (wpAny_bind (hashN hu hk (wpAny_bind (find_any (s := { s with toks := s.toks + k.draws }) hu hk ho hd he m.is m.nd (fun h => ?_) fun j x hj hx => ?_))))
  · exact wpAny_pure (q0 (atN_none h).1)
  · refine wpAny_bind (wpAny_dictEntries (s := { s with toks := s.toks + k.draws }) ho hd ?_)
    have e1 : es[j]? = some (entN w x) := by rw [← Array.getElem?_toList, he, List.getElem?_map, hj]; rfl
    rw [e1]
    exact wpAny_bind (wpAny_updateDictKeys (hz := hsz) (s := { s with toks := s.toks + k.draws }) ho hd (wpAny_pure (q _ _ (atN_some m.nd hj hx) rfl _ (m.erased ho hc hd he hj hx) (Heap.SameBut.update ..))))
/-! ### d[k], k in d, d[k] = v, del d[k] -/
theorem itemN {z : Value} {Q : Value → Shared → Prop} (hu : A.units + 10 < cLine) (hk : KeyIn s.heap k u) (m : DictN w s.heap d xs) (hz : atN xs k = some z) (q : Q z { s with toks := s.toks + k.draws }) : wpAny (model prog w) A (getItem (.ref d) u) Q E s := by
  unfold getItem
  refine wpAny_holding (wpAny_bind (wpAny_sequenceKey m.typeIs (by decide) (wpAny_bind (wpAny_callSpecial?_slot (name := Str.ofString "__getitem__") m.typeIs slot_dict_getitem
    (wpAny_call_entry slot_dict_getitem m.typeIs entry_dict_getitem ?_ (args_dict_getitem _ _))))))
  refine (wpAny_bind (getN (A := A.in1) (by show A.units + 1 + 9 < cLine; omega) hk m ?_) : wpAny _ _ (dictGet d u >>= _) _ _ s)
  rw [hz]
  exact wpAny_pure ⟨z, rfl, wpAny_pure q⟩
theorem inN {Q : Value → Shared → Prop} (hu : A.units + 10 < cLine) (hs : (d == sysModules) = false) (hk : KeyIn s.heap k u) (m : DictN w s.heap d xs) (q : Q (.bool (atN xs k).isSome) { s with toks := s.toks + k.draws }) : wpAny (model prog w) A (compareOp .In u (.ref d)) Q E s := by
  refine wpAny_bind (?_ : wpAny (model prog w) A (contains (.ref d) u) _ E s)
  unfold contains
  refine wpAny_holding (wpAny_bind (wpAny_specialOf m.typeIs slot_dict_contains.lookup ?_))
  dsimp only
  rw [if_neg (by rw [beq_builtin_none]; exact Bool.false_ne_true)]
  refine wpAny_bind (wpAny_callSpecialUnlessNone?_slot (name := Str.ofString "__contains__") m.typeIs slot_dict_contains
    (wpAny_call_entry slot_dict_contains m.typeIs entry_dict_contains ?_ (args_dict_contains _ _)))
  refine (wpAny_bind (getN (A := A.in1) (by show A.units + 1 + 9 < cLine; omega) hk m ?_) : wpAny _ _ (dictGet d u >>= _) _ _ s)
  cases hf : atN xs k with
  | some z =>
    rw [hf] at q
    exact wpAny_pure ⟨_, rfl, wpAny_truthy_bool (wpAny_pure q)⟩
  | none =>
    rw [hf] at q
    exact wpAny_bind (wpAny_pendingKey_other hs (wpAny_pure ⟨_, rfl, wpAny_truthy_bool (wpAny_pure q)⟩))
theorem notInN {Q : Value → Shared → Prop} (hu : A.units + 10 < cLine) (hs : (d == sysModules) = false) (hk : KeyIn s.heap k u) (m : DictN w s.heap d xs) (q : Q (.bool (!(atN xs k).isSome)) { s with toks := s.toks + k.draws }) : wpAny (model prog w) A (compareOp .NotIn u (.ref d)) Q E s := by
  refine wpAny_bind (?_ : wpAny (model prog w) A (contains (.ref d) u) _ E s)
  unfold contains
  refine wpAny_holding (wpAny_bind (wpAny_specialOf m.typeIs slot_dict_contains.lookup ?_))
  dsimp only
  rw [if_neg (by rw [beq_builtin_none]; exact Bool.false_ne_true)]
  refine wpAny_bind (wpAny_callSpecialUnlessNone?_slot (name := Str.ofString "__contains__") m.typeIs slot_dict_contains
    (wpAny_call_entry slot_dict_contains m.typeIs entry_dict_contains ?_ (args_dict_contains _ _)))
  refine (wpAny_bind (getN (A := A.in1) (by show A.units + 1 + 9 < cLine; omega) hk m ?_) : wpAny _ _ (dictGet d u >>= _) _ _ s)
  cases hf : atN xs k with
  | some z =>
    rw [hf] at q
    exact wpAny_pure ⟨_, rfl, wpAny_truthy_bool (wpAny_pure q)⟩
  | none =>
    rw [hf] at q
    exact wpAny_bind (wpAny_pendingKey_other hs (wpAny_pure ⟨_, rfl, wpAny_truthy_bool (wpAny_pure q)⟩))
theorem storeN {Q : Unit → Shared → Prop} (hu : A.units + 10 < cLine) (hk : KeyIn s.heap k u) (m : DictN w s.heap d xs) (hz : xs.length ≤ sizeLine)
    (q : ∀ h', DictN w h' d (putN xs k u v) → Heap.SameBut d s.heap h' → Q () { s with heap := h', toks := s.toks + k.draws }) : wpAny (model prog w) A (setItem (.ref d) u v) Q E s := by
  unfold setItem
  refine wpAny_holding (wpAny_bind (wpAny_sequenceKey m.typeIs (by decide) (wpAny_bind (wpAny_callSpecial?_slot (name := Str.ofString "__setitem__") m.typeIs slot_dict_setitem
    (wpAny_call_entry slot_dict_setitem m.typeIs entry_dict_setitem (wpAny_bind (wpAny_notOrdered_dict m.typeIs ?_)) (args_dict_setitem _ _ _))))))
  refine (wpAny_bind (setN (A := A.in1) (by show A.units + 1 + 9 < cLine; omega) hk m hz fun h' m' sb => ?_) : wpAny _ _ (dictSet d u v >>= _) _ _ s)
  exact wpAny_pure ⟨.none, rfl, wpAny_pure (q h' m' sb)⟩
theorem meetsDel (hs : (d == sysModules) = false) : MeetsIn prog w (Builtin.«dict.__delitem__» ⟨[.ref d, u], []⟩) (fun A R s => A.units + 10 < cLine ∧ ∃ k xs z, KeyIn s.heap k u ∧ DictN w s.heap d xs ∧ xs.length ≤ sizeLine ∧ atN xs k = some z ∧
      ∀ h', DictN w h' d (delN xs k) → Heap.SameBut d s.heap h' → R (.ok (.ret .none)) { s with heap := h', toks := s.toks + k.draws }) :=
  .of_wp fun A R s ⟨hu, k, xs, z, hk, m, hz, ha, q⟩ => by
    unfold Builtin.«dict.__delitem__» Builtin.Dict.dictSlotArgs
    refine wpAny_bind (wpAny_bind (wpAny_notOrdered_dict m.typeIs (wpAny_pure ?_)))
    refine (wpAny_bind (takeN (A := A.in1) (by show A.units + 1 + 9 < cLine; omega) hk m hz (fun h => by rw [ha] at h; cases h) fun z' e _ _ h' m' sb => ?_) : wpAny _ _ (Builtin.Dict.takeOut d u >>= _) _ _ s)
    exact wpAny_bind (wpAny_letGo (wpAny_pure ⟨.none, rfl, q h' m' sb⟩))
theorem delItemN {z : Value} {Q : Unit → Shared → Prop} (hu : A.units + 10 < cLine) (hs : (d == sysModules) = false) (hk : KeyIn s.heap k u) (m : DictN w s.heap d xs) (hz : xs.length ≤ sizeLine) (ha : atN xs k = some z)
    (q : ∀ h', DictN w h' d (delN xs k) → Heap.SameBut d s.heap h' → Q () { s with heap := h', toks := s.toks + k.draws }) : wpAny (model prog w) A (delItem (.ref d) u) Q E s :=
  wpAny_delItem_slot m.typeIs (by decide) F.slot_dict_delitem (call_meetsIn F.slot_dict_delitem m.typeIs F.entry_dict_delitem (F.args_dict_delitem_2 _ _) (meetsDel hs) ⟨hu, k, xs, z, hk, m, hz, ha, q⟩)
/-! ### d.get(k, x), d.setdefault(k, x) -/
theorem meetsGet (hs : (d == sysModules) = false) : MeetsIn prog w (Builtin.«dict.get» ⟨[.ref d, u, v], []⟩) (fun A R s => A.units + 10 < cLine ∧ ∃ k xs, KeyIn s.heap k u ∧ DictN w s.heap d xs ∧
      R (.ok (.ret ((atN xs k).getD v))) { s with toks := s.toks + k.draws }) :=
  .of_wp fun A R s ⟨hu, k, xs, hk, m, q⟩ => by
    refine (wpAny_bind (getN (A := A.in1) (by show A.units + 1 + 9 < cLine; omega) hk m ?_) : wpAny _ _ (dictGet d u >>= _) _ _ s)
    cases hf : atN xs k with
    | some z =>
      rw [hf] at q
      exact wpAny_pure ⟨z, rfl, q⟩
    | none =>
      rw [hf] at q
      exact wpAny_bind (wpAny_missed_other hs (wpAny_pure ⟨v, rfl, q⟩))
theorem callGetN {Q : Value → Shared → Prop} (hu : A.units + 10 < cLine) (hs : (d == sysModules) = false) (hk : KeyIn s.heap k u) (m : DictN w s.heap d xs) (q : Q ((atN xs k).getD v) { s with toks := s.toks + k.draws }) :
    wpAny (model prog w) A (call (.builtin "dict.get") [.ref d, u, v]) Q E s :=
  call_meetsIn F.slot_dict_get m.typeIs F.entry_dict_get (F.args_dict_get_3 _ _ _) (meetsGet hs) ⟨hu, k, xs, hk, m, q⟩
theorem meetsDflt (hs : (d == sysModules) = false) : MeetsIn prog w (Builtin.«dict.setdefault» ⟨[.ref d, u, v], []⟩) (fun A R s => A.units + 10 < cLine ∧ ∃ k xs, KeyIn s.heap k u ∧ DictN w s.heap d xs ∧ xs.length ≤ sizeLine ∧
      (∀ z, atN xs k = some z → R (.ok (.ret z)) { s with toks := s.toks + k.draws }) ∧
      (atN xs k = none → ∀ h', DictN w h' d (putN xs k u v) → Heap.SameBut d s.heap h' → R (.ok (.ret v)) { s with heap := h', toks := s.toks + k.draws })) :=
  .of_wp fun A R s ⟨hu, k, xs, hk, m, hz, q1, q⟩ => by
    unfold Builtin.«dict.setdefault» Builtin.Dict.keyAndDefault
    refine wpAny_bind (wpAny_bind (wpAny_notOrdered_dict m.typeIs (wpAny_pure ?_)))
    dsimp only
    rw [if_neg (by rw [hs]; exact Bool.false_ne_true)]
    exact wpAny_bind (dfltN (A := A.in1) (by show A.units + 1 + 9 < cLine; omega) hk m hz (fun z ha => wpAny_pure ⟨z, rfl, q1 z ha⟩) fun hn h' m' sb => wpAny_pure ⟨v, rfl, q hn h' m' sb⟩)
theorem callDfltN {Q : Value → Shared → Prop} (hu : A.units + 10 < cLine) (hs : (d == sysModules) = false) (hk : KeyIn s.heap k u) (m : DictN w s.heap d xs) (hz : xs.length ≤ sizeLine)
    (q1 : ∀ z, atN xs k = some z → Q z { s with toks := s.toks + k.draws })
    (q : atN xs k = none → ∀ h', DictN w h' d (putN xs k u v) → Heap.SameBut d s.heap h' → Q v { s with heap := h', toks := s.toks + k.draws }) :
    wpAny (model prog w) A (call (.builtin "dict.setdefault") [.ref d, u, v]) Q E s :=
  call_meetsIn F.slot_dict_setdefault m.typeIs F.entry_dict_setdefault (F.args_dict_setdefault_3 _ _ _) (meetsDflt hs) ⟨hu, k, xs, hk, m, hz, q1, q⟩
end
end MP
set_option linter.all false
set_option Elab.async false
set_option maxHeartbeats 2000000
set_option maxRecDepth 100000
/-! sets of ints and texts, with what a walk over them needs -/
namespace MP
open PySem L2 PySem.Spec PyProof.Rows
def keyE (e : Int × Value) : Key := match e.2 with
  | .int i _ => .inl i
  | .str x _ => .inr x
  | _ => .inl 0
structure GoodK (w : World) (e : Int × Value) : Prop where
  is : keyIs (keyE e) e.2 = true
  hs : e.1 = keyH w (keyE e)
  sc : e.2.scannable = true
theorem keyE_of {k : Key} {u : Value} (h : keyIs k u = true) (z : Int) : keyE (z, u) = k := by
  rcases keyIs_shape h with ⟨i, t, rfl, rfl⟩ | ⟨x, t, rfl, rfl⟩ <;> rfl
theorem keyIs_scan {k : Key} {u : Value} (h : keyIs k u = true) : u.scannable = true := by
  rcases keyIs_shape h with ⟨i, t, rfl, rfl⟩ | ⟨x, t, rfl, rfl⟩ <;> rfl
theorem goodK_is {w : World} {e : Int × Value} (g : GoodK w e) {k : Key} : keyIs k e.2 = true ↔ keyE e = k :=
  ⟨fun h => keyE_of h e.1, fun h => h ▸ g.is⟩
structure SetG (w : World) (h : Heap) (a : Addr) (ks : List Key) : Prop where
  nd : ks.Nodup
  ex : ∃ (o : Obj) (es : Array (Int × Value)) (ep : Nat) (t : SetTable), h.get? a = some o ∧ o.ExactSet ∧ o.data = .set es ep t ∧
    (∀ e ∈ es.toList, GoodK w e) ∧ (es.toList.map keyE).Perm ks ∧ es.size < scanBound ∧ t.fits es.size = true ∧ Ris t.place.toList ∧
    (w.params.followText "set-order" = true ∨ t.led = true)
/-- a key more, if it is not there -/
def addKey (ks : List (Sum Int Str)) (k : Sum Int Str) : List (Sum Int Str) := if (ks.any fun j => decide (j = k)) = true then ks else ks ++ [k]
def keysOf (ks : List (Sum Int Str)) : List (Sum Int Str) := ks.foldl addKey []
theorem any_key {ks : List Key} {k : Key} : (ks.any fun j => decide (j = k)) = true ↔ k ∈ ks := by
  rw [List.any_eq_true]
  exact ⟨fun ⟨j, hj, e⟩ => of_decide_eq_true e ▸ hj, fun h => ⟨k, h, decide_eq_true rfl⟩⟩
theorem addKey_nd {ks : List Key} {k : Key} (h : ks.Nodup) : (addKey ks k).Nodup := by
  unfold addKey
  split
  · exact h
  · rename_i hk
    refine List.nodup_append.mpr ⟨h, by simp, fun x hx y hy e => ?_⟩
    rw [List.mem_singleton.mp hy] at e
    exact hk (any_key.mpr (e ▸ hx))
theorem SetG.move {w : World} {h h' : Heap} {a : Addr} {ks : List Key} (R : SetG w h a ks) (k : ∀ o, h.get? a = some o → h'.get? a = some o) : SetG w h' a ks := by
  obtain ⟨nd, o, es, ep, t, ho, r⟩ := R
  exact ⟨nd, o, es, ep, t, k o ho, r⟩
section
variable {P : Program} {w : World} {A : Around} {E : Value → Shared → Prop} {s : Shared} {a : Addr} {ks : List Key}
theorem goodK_elems {l : List (Int × Value)} (g : ∀ e ∈ l, GoodK w e) : ElemsOf (mixKind P w) l := fun e he =>
  ⟨⟨keyE e, (g e he).is, (g e he).hs⟩, (g e he).sc⟩
/-- what stands behind a new table -/
theorem put_table {h : Heap} {o : Obj} {es es1 : Array (Int × Value)} {ep : Nat} {t t1 : SetTable} (ho : h.get? a = some o) (hd : o.data = .set es ep t) :
    (h.update a (Obj.putSet es1 t1)).get? a = some { o with data := .set es1 (ep + 1) t1 } := by
  have z := putSet_of es1 t1 hd
  have q := Heap.get?_update_self (Obj.putSet es1 t1) ho (by rw [z]; rfl)
  exact q.trans (by rw [z])
/-- the end of an adding: the entry is stored, the table made anew where it is too full -/
theorem grow_end {g : Bool → Sem Unit} (hg : ∀ (b : Bool) (s₁ : Shared) (Q' : Unit → Shared → Prop), Q' () s₁ → wpAny (model P w) A (g b) Q' E s₁)
    {o : Obj} {es : Array (Int × Value)} {ep : Nat} {t : SetTable} (ho : s.heap.get? a = some o) (hx : o.ExactSet) (hd : o.data = .set es ep t)
    {fs : Array (Int × Value)} {u : SetTable} (gd : ∀ e ∈ fs.toList, GoodK w e) (pm : (fs.toList.map keyE).Perm ks) (nd : ks.Nodup)
    (few : fs.size < scanBound) (fit : u.fits fs.size = true) (ris : Ris u.place.toList) (led : w.params.followText "set-order" = true ∨ u.led = true) {dummy : Bool} {R : Option Bool → Shared → Prop}
    (hR : ∀ h', Heap.SameBut a s.heap h' → SetG w h' a ks → R (some true) { s with heap := h' }) :
    wpAny (model P w) A (do
        storeSet a fs u
        if (!dummy && u.tooFull) = true then do
            g (relayAll u fs (SetTable.grown fs.size)).2.2
            storeSet a (relayAll u fs (SetTable.grown fs.size)).1 (relayAll u fs (SetTable.grown fs.size)).2.1
            pure (some true)
          else pure (some true)) R E s := by
  have q1 := put_table (es1 := fs) (t1 := u) ho hd
  have same := Heap.SameBut.update s.heap a (Obj.putSet fs u)
  refine wpAny_bind (wpAny_storeSet_of ho hd ?_ (fits_of_scanBound few))
  split
  case isFalse => exact wpAny_pure (hR _ same ⟨nd, _, fs, _, u, q1, hx, rfl, gd, pm, few, fit, ris, led⟩)
  have a1 := relayAll_perm u fs (SetTable.grown fs.size)
  have a2 := relayAll_fits u fs (SetTable.grown fs.size)
  have a3 := relayAll_ris u fs (SetTable.grown fs.size)
  have a4 := relayAll_led u fs (SetTable.grown fs.size)
  generalize relayAll u fs (SetTable.grown fs.size) = Y at a1 a2 a3 a4 ⊢
  obtain ⟨gs, v, gave⟩ := Y
  dsimp only at a1 a2 a3 a4 ⊢
  have few2 : gs.size < scanBound := by
    have := a1.length_eq
    rw [Array.length_toList, Array.length_toList] at this
    omega
  refine wpAny_bind (hg _ _ _ (wpAny_bind (wpAny_storeSet_of q1 rfl (wpAny_pure (hR _ (same.trans (Heap.SameBut.update _ a _)) ?_)) (fits_of_scanBound few2))))
  exact ⟨nd, _, gs, _, v, put_table q1 rfl, hx, rfl, fun e he => gd e (a1.mem_iff.mp he), (a1.map keyE).trans pm, few2, a2, a3, led.imp id fun z => a4.trans z⟩
/-- a key is added, its hash known -/
theorem addG {k : Key} {x : Value} {Q : Bool → Shared → Prop} (hk : keyIs k x = true) (R : SetG w s.heap a ks) (room : ks.length + 1 < scanBound)
    (hQ : ∀ h' b, Heap.SameBut a s.heap h' → SetG w h' a (addKey ks k) → Q b { s with heap := h' }) :
    wpAny (model P w) A (setAddHashed a x (keyH w k)) Q E s := by
  obtain ⟨nd, o, es, ep, t, ho, hx, hd, gd, pm, few, fit, ris, led⟩ := R
  have sc := keyIs_scan hk
  have el : ElemsOf (mixKind P w) es.toList := goodK_elems gd
  have isk : (mixKind P w).is k x = true := hk
  have mem : ∀ {j : Key}, j ∈ ks ↔ ∃ e ∈ es.toList, keyIs j e.2 = true := fun {j} => by
    rw [← pm.mem_iff, List.mem_map]
    exact ⟨fun ⟨e, he, q⟩ => ⟨e, he, (goodK_is (gd e he)).mpr q⟩, fun ⟨e, he, q⟩ => ⟨e, he, (goodK_is (gd e he)).mp q⟩⟩
  unfold setAddHashed setAddHashedIn
  refine wpAny_holding (wpAny_bind (wpAny_setState_of ho hd fit ?_))
  dsimp only
  rw [byScan_of sc few el]
  simp only [↓reduceIte]
  unfold setAddByScan
  refine wpAny_bind (wpAny_bind (wpAny_rule (wpAny_bind (wpAny_setScan_of (knd := mixKind P w) (k := k) isk ho hd fit el ?_))))
  cases hf : List.findIdx? (fun e => (mixKind P w).is k e.2) es.toList with
  | some j =>
    dsimp only
    obtain ⟨hj, pj, _⟩ := List.findIdx?_eq_some_iff_getElem.mp hf
    have there : k ∈ ks := mem.mpr ⟨_, List.getElem_mem hj, pj⟩
    refine wpAny_pure (wpAny_pure (hQ s.heap _ (Heap.SameBut.refl a s.heap) ?_))
    have e0 : addKey ks k = ks := if_pos (any_key.mpr there)
    rw [e0]
    exact ⟨nd, o, es, ep, t, ho, hx, hd, gd, pm, few, fit, ris, led⟩
  | none =>
    dsimp only
    have fresh : k ∉ ks := fun z => by
      obtain ⟨e, he, q⟩ := mem.mp z
      have c := List.findIdx?_eq_none_iff.mp hf e he
      have q' : (mixKind P w).is k e.2 = true := q
      rw [q'] at c
      cases c
    have e0 : addKey ks k = ks ++ [k] := if_neg fun z => fresh (any_key.mp z)
    have nd1 := addKey_nd (k := k) nd
    rw [e0] at hQ nd1
    have skip : ∀ (b : Bool) {s₁ : Shared} {Q' : Unit → Shared → Prop}, Q' () s₁ → wpAny (model P w) A (match b with | true => rule "set.scan.the-table-gave-way" | false => pure ()) Q' E s₁ :=
      fun b s₁ Q' q => by cases b <;> first | exact wpAny_pure q | exact wpAny_rule q
    have b1 := layNew_perm t es ((mixKind P w).hash k) x
    have b2 := layNew_fits t es ((mixKind P w).hash k) x
    have b3 := layNew_ris t es ((mixKind P w).hash k) x ris
    have b4 := layNew_led t es ((mixKind P w).hash k) x
    show wpAny _ _ _ _ _ _
    have hh : keyH w k = (mixKind P w).hash k := rfl
    rw [hh]
    generalize layNew t es ((mixKind P w).hash k) x = Y at b1 b2 b3 b4 ⊢
    obtain ⟨fs, u, dummy, gave⟩ := Y
    dsimp only at b1 b2 b3 b4 ⊢
    rw [Array.toList_push] at b1
    have gd1 : ∀ e ∈ fs.toList, GoodK w e := fun e he => by
      rcases List.mem_append.mp (b1.mem_iff.mp he) with z | z
      · exact gd e z
      · rw [List.mem_singleton.mp z]
        exact ⟨by rw [keyE_of hk]; exact hk, by rw [keyE_of hk] <;> rfl, sc⟩
    have pm1 : (fs.toList.map keyE).Perm (ks ++ [k]) := by
      refine (b1.map keyE).trans ?_
      rw [List.map_append, List.map_cons, List.map_nil, keyE_of hk]
      exact pm.append_right _
    have few1 : fs.size < scanBound := by
      have := pm1.length_eq
      rw [List.length_map, Array.length_toList, List.length_append] at this
      simp at this
      omega
    have led1 : w.params.followText "set-order" = true ∨ u.led = true := led.imp id fun z => b4.trans z
    have fin : ∀ h', Heap.SameBut a s.heap h' → SetG w h' a (ks ++ [k]) → Q true { s with heap := h' } := fun h' sb r => hQ h' true sb r
    refine wpAny_bind (skip _ ?_)
    split
    · refine wpAny_bind ?_
      rw [hashByValue_scannable 8 sc]
      refine wpAny_pure (grow_end ?_ ho hx hd gd1 pm1 nd1 few1 ?_ ?_ ?_ fun h' sb r => ?_)
      · intro b s₁ Q' q; cases b <;> first | exact wpAny_pure q | exact wpAny_rule q
      · first | (split <;> first | exact b2 | exact SetTable.fits_plain_off b2) | exact b2
      · first | (split <;> exact b3) | exact b3
      · first | (split <;> exact led1) | exact led1
      · dsimp only; exact wpAny_pure (fin h' sb r)
    · refine wpAny_bind (wpAny_pure ?_)
      simp only [↓reduceIte]
      refine grow_end ?_ ho hx hd gd1 pm1 nd1 few1 b2 b3 led1 fun h' sb r => ?_
      · intro b s₁ Q' q; cases b <;> first | exact wpAny_pure q | exact wpAny_rule q
      · dsimp only; exact wpAny_pure (fin h' sb r)
/-- set.update's loop over any walk -/
theorem fillG {I : Addr} {fp wr : List Addr} {G : Array GenState → Array GenState → Prop} {n : Nat} {Pv : Nat → Value → Prop} {St : Nat → Shared → Prop} {R : Result → Shared → Prop}
    (W : WalksS P w A.in1 I fp wr G n Pv St) (S : Addr) (out : S ∉ fp) (xs : List Key) (hn : n = xs.length) (few : xs.length + 1 < scanBound) (val : ∀ i v, Pv i v → ∃ k, xs[i]? = some k ∧ keyIs k v = true) :
    ∀ (m i : Nat) (s : Shared) (ks : List Key), n - i = m → i ≤ n → St i s → ks.length ≤ i → SetG w s.heap S ks →
      (∀ s', Moved (S :: wr) G s s' → SetG w s'.heap S ((xs.drop i).foldl addKey ks) → R (.ok (.ret .none)) s') →
      codeAny (model P w) A (.builtin "set.update.loop" ⟨[.ref S, .ref I], []⟩) R s := by
  have notw : S ∉ wr := fun h => out (W.sub _ h)
  have wider : ∀ b ∈ wr, b ∈ S :: wr := fun b hb => List.mem_cons_of_mem _ hb
  intro m
  induction m with
  | zero =>
    intro i s ks hm hi st hc hS hR
    obtain rfl : i = n := by omega
    refine codeAny_builtin F.entry_set_update_loop ?_
    rw [Around.under_plainId F.plain_set_update_loop _]
    show wpAny _ A.in1 (pyNext (.ref I) >>= _) _ _ s
    refine wpAny_bind (W.done s _ _ st fun s' mv => ?_)
    show wpAny _ A.in1 (PySem.ret Value.none) _ _ s'
    refine wpAny_pure (hR s' (mv.mono wider) ?_)
    rw [List.drop_of_length_le (by omega), List.foldl_nil]
    exact hS.move fun o q => mv.heap S o notw q
  | succ m ih =>
    intro i s ks hm hi st hc hS hR
    have lt : i < n := by omega
    refine codeAny_builtin F.entry_set_update_loop ?_
    rw [Around.under_plainId F.plain_set_update_loop _]
    show wpAny _ A.in1 (pyNext (.ref I) >>= _) _ _ s
    refine wpAny_bind (W.item i s _ _ lt st fun v s' pv st' mv => ?_)
    obtain ⟨k, hk, isk⟩ := val i v pv
    have hS1 := hS.move fun o q => mv.heap S o notw q
    show wpAny _ A.in1 (holding [v] (setAdd S v) >>= _) _ _ s'
    refine wpAny_bind (wpAny_holding ?_)
    unfold setAdd
    refine wpAny_holding (wpAny_bind ((mixKind P w).pyHash (k := k) isk ?_))
    refine addG (s := { s' with toks := s'.toks + 1 }) isk hS1 (by omega) fun h' b sb hS2 => ?_
    have hl : (addKey ks k).length ≤ i + 1 := by
      unfold addKey
      split
      · omega
      · simp; omega
    have hd : xs.drop i = k :: xs.drop (i + 1) := by
      obtain ⟨h1, h2⟩ := List.getElem?_eq_some_iff.mp hk
      rw [List.drop_eq_getElem_cons h1, h2]
    refine wpAny_pure ⟨plainId_quiet F.plain_set_update_loop _, ih (i + 1) _ _ (by omega) lt (W.frame _ s' _ _ st' (Nat.le_succ _) fun b hb o q => ?_) hl hS2 fun s2 mv2 hS3 => ?_⟩
    · rw [sb.2 b fun z => out (z ▸ hb)]; exact q
    · refine hR s2 (Moved.trans W.gtrans ((mv.mono wider).then_heap (Nat.le_succ _) fun b o hb q => ?_) mv2) ?_
      · rw [sb.2 b fun z => hb (z ▸ List.mem_cons_self)]; exact q
      · rw [hd, List.foldl_cons]; exact hS3
/-- the empty set that set(..) begins with -/
abbrev newSet (w : World) : Obj := { cls := .type "set", dict := none, data := .set #[] 0 (.fresh 0 0 (!w.params.followText "set-order")) }
theorem newSetG {h : Heap} (ho : h.get? a = some (newSet w)) : SetG w h a [] := by
  refine ⟨List.nodup_nil, _, #[], 0, _, ho, ⟨rfl, rfl, rfl⟩, rfl, fun e he => by simp at he, by simp, by decide, rfl, List.Pairwise.nil, ?_⟩
  show _ ∨ (!w.params.followText "set-order") = true
  cases w.params.followText "set-order" <;> simp
/-- set(xs), a list -/
theorem call_setG {l : Addr} {items : Array Value} {xs : List Key} {Q : Value → Shared → Prop} (hh : A.handled = none) (hl : s.heap.IsList l items) (len : items.size = xs.length)
    (val : ∀ (i : Nat) (v : Value), items[i]? = some v → ∃ k, xs[i]? = some k ∧ keyIs k v = true) (few : xs.length + 1 < scanBound)
    (h : ∀ (h' : Heap) (tk : Nat), SetG w h' s.heap.objs.size (keysOf xs) → (∀ b o, s.heap.get? b = some o → h'.get? b = some o) → s.heap.objs.size ≤ h'.objs.size → Q (.ref s.heap.objs.size) { s with heap := h', toks := tk }) :
    wpAny (model P w) A (call (.type "set") [.ref l]) Q E s := by
  obtain ⟨c0, tl, hmro⟩ := F.called_set.mro
  have made := F.called_set.made
  have sub := F.called_set.sub
  refine wpAny_call (codeAny_of_tree ?_)
  show wpAny _ _ (callAny (.type "set") _) _ _ _
  refine wpAny_pure ⟨Code.quiet_builtin _ (by decide +kernel), codeAny_builtin F.entry_type_call ?_⟩
  rw [Around.under_plain (weight_type_call_type "set" [.ref l] []) rfl]
  have t1 := F.called_set.notType
  have t2 := F.called_set.canCreate
  have t3 := F.typeCall_set_1 (.ref l)
  repeat (any_goals (first | assumption | wp_step))
  refine codeAny_mono (code_set_led1 (.ref l) (E := E) (Q₁ := fun r s₁ => r = .ref s.heap.objs.size ∧ s₁ = { s with heap := s.heap.push (newSet w) }) ⟨rfl, rfl⟩) fun r s₁ hr => ?_
  cases r with
  | error e => exact hr
  | ok fl =>
    cases fl with
    | next => exact hr.elim
    | brk => exact hr.elim
    | cont => exact hr.elim
    | ret obj =>
      obtain ⟨rfl, rfl⟩ := hr
      have at_ : (s.heap.push (newSet w)).get? s.heap.objs.size = some (newSet w) := Heap.get?_push_size _ rfl
      have ty : Shared.TypeIs { s with heap := s.heap.push (newSet w) } (.ref s.heap.objs.size) "set" := ⟨_, at_, rfl⟩
      have li := F.called_set.init.lookup
      have bi := F.called_set.init.bind (.ref s.heap.objs.size)
      repeat (any_goals (first | assumption | wp_step))
      refine codeAny_mono (codeAny_call_builtin (R := wants (fun r s₂ => r = .none ∧ ∃ h' tk, s₂ = { s with heap := h', toks := tk } ∧ SetG w h' s.heap.objs.size (keysOf xs) ∧
          (∀ b o, s.heap.get? b = some o → h'.get? b = some o) ∧ s.heap.objs.size ≤ h'.objs.size) E) F.called_set.init.plain F.entry_set_init (check_set_init_1 ty ?_)) fun r₂ s₂ hr₂ => ?_
      · obtain ⟨⟨c1, c2, c3, c4⟩, ol, cl, nl, dl⟩ := hl
        simp only at cl dl
        subst cl; subst dl
        have ol2 : (s.heap.push (newSet w)).get? l = some { cls := .type "list", dict := c2, data := .seq items nl, slots := c4 } := Heap.get?_push_of_some _ ol
        have s1 := F.sub_list_set
        have s2 := F.sub_list_frozenset
        have s3 : (Value.type "list" == Value.type "dict") = false := by decide
        have il : (s.heap.push (newSet w)).IsList l items := ⟨_, ol2, rfl, nl, rfl⟩
        unfold Builtin.«set.__init__» noKeywords Builtin.Frozenset.updateFrom
        generalize eI : pyIter = PI
        wp_walk
        subst eI
        refine wpAny_pyIter_list il (wpAny_bind (wpAny_runValue ?_))
        have low : l < s.heap.objs.size := Heap.lt_size ol
        have sz : (s.heap.push (newSet w)).objs.size = s.heap.objs.size + 1 := Heap.size_push ..
        have h3 : A.in1.in1.in1.handled = none := by simp [hh]
        have ne1 : l ≠ (s.heap.push (newSet w)).objs.size := by rw [sz]; exact Nat.ne_of_lt (Nat.lt_succ_of_lt low)
        have ne2 : s.heap.objs.size ∉ [(s.heap.push (newSet w)).objs.size, l] := by
          rw [sz]
          simp only [List.mem_cons, List.not_mem_nil, or_false, not_or]
          exact ⟨Nat.ne_of_lt (Nat.lt_succ_self _), Nat.ne_of_gt low⟩
        refine fillG ((Walks.list h3 _ l ne1 items).toS) s.heap.objs.size ne2 xs len few val (items.size - 0) 0 _ [] (by omega) (Nat.zero_le _) ⟨⟨_, Heap.get?_push_size _ rfl, rfl, rfl⟩, il.push _⟩ (Nat.zero_le _) ?hS ?hR
        case hS => exact newSetG (Heap.get?_push_of_some _ at_)
        case hR =>
          intro s' mv hS'
          have far : ∀ b o, s.heap.get? b = some o → s'.heap.get? b = some o := fun b o q => by
            have lb : b < s.heap.objs.size := Heap.lt_size q
            refine mv.heap b o ?_ (Heap.get?_push_of_some _ (Heap.get?_push_of_some _ q))
            rw [sz]
            simp only [List.mem_cons, List.not_mem_nil, or_false, not_or]
            exact ⟨Nat.ne_of_lt lb, Nat.ne_of_lt (Nat.lt_succ_of_lt lb)⟩
          obtain ⟨h', g2, d', tk', os'⟩ := s'
          have eg : g2 = s.gens := mv.gens
          have ed : d' = s.drawn := mv.drawn
          have eo : os' = s.os := mv.os
          subst eg; subst ed; subst eo
          show wpAny _ _ _ _ _ _
          refine wpAny_pure ?_
          show wpAny _ _ (PySem.ret Value.none) _ _ _
          refine wpAny_pure ⟨rfl, h', tk', rfl, hS', far, ?_⟩
          obtain ⟨_, o, _, _, _, ho, _⟩ := hS'
          exact Nat.le_of_lt (Heap.lt_size ho)
      · cases r₂ with
        | error e => exact hr₂
        | ok fl₂ =>
          cases fl₂ with
          | next => exact hr₂.elim
          | brk => exact hr₂.elim
          | cont => exact hr₂.elim
          | ret r =>
            obtain ⟨rfl, h', tk, rfl, z1, z2, z3⟩ := hr₂
            repeat (any_goals (first | assumption | wp_step))
            exact h _ _ z1 z2 z3
end
end MP
set_option linter.all false
namespace MP
open PySem
abbrev Tx := List Nat
/-- a value: data as trees, what may change by its number in the store; fn: a def of the text by its number -/
inductive Val where
  | non | bl (b : Bool) | int (i : Int) | str (x : Tx) | tup (xs : List Val) | ref (i : Nat) | fn (f : Nat)
  deriving Inhabited
/-- rol: a list that is only read (the script); fdc: a dict that is walked -/
inductive Ob where
  | lst (xs : List Val) | rol (xs : List Val) | dct (kvs : List (Val × Val)) | fdc (kvs : List (Val × Val)) | set (xs : List Val) | ins (c : Nat) (fs : List (Nat × Val))
  deriving Inhabited
abbrev Sto := List Ob
abbrev Env := List (Option Val)
inductive Res (α : Type) where
  | ok (a : α) (S : Sto) | exc (c : Nat) (v : Val) (S : Sto) | bad
abbrev M (α : Type) := Sto → Res α
def Res.bind {α β : Type} (r : Res α) (f : α → M β) : Res β := match r with
  | .ok a S => f a S
  | .exc c v S => .exc c v S
  | .bad => .bad
def ret {α : Type} (a : α) : M α := fun S => .ok a S
def bnd {α β : Type} (m : M α) (f : α → M β) : M β := fun S => (m S).bind f
def stop {α : Type} : M α := fun _ => .bad
def newOb (o : Ob) : M Val := fun S => .ok (.ref S.length) (S ++ [o])
def getOb (i : Nat) : M Ob := fun S => match S[i]? with | some o => .ok o S | none => .bad
def setOb (i : Nat) (o : Ob) : M Unit := fun S => .ok () (S.set i o)
def guardM (c : Prop) [Decidable c] : M Unit := fun S => if c then .ok () S else .bad
abbrev line : Nat := sizeLine
/-- what a for or a comprehension walks -/
inductive Tg where
  | nm (i : Nat) | tp (ts : List Tg)
inductive BF where
  | len | abs | max2 | min2 | int | bool | all | sum | repr | list | tuple | sorted | dict | str | set
  deriving DecidableEq
inductive TyR where
  | int | bool | str | list | tuple | dict
  deriving DecidableEq
inductive BM where
  | append | pop | insert | extend | clear | reverse | join | index | count | get | setdefault
  deriving DecidableEq
mutual
inductive ME where
  | con (v : Val) | var (i : Nat)
  | bin (o : Operator) (a b : ME) | neg (a : ME)
  | not (a : ME) | and (a b : ME) | or (a b : ME) | ite (c a b : ME)
  | cmp (o : CmpOp) (a b : ME) | chn (o o' : CmpOp) (a b c : ME)
  | tup (es : List ME) | lst (es : List ME) | dct (es : List ME)
  | ix (a i : ME) | sl (a : ME) (lo hi : List ME) | rev (a : ME)
  | cal (f : Nat) (as : List ME) | calk (f : Nat) (as : List ME) (ps : List Nat)
  | blt (b : BF) (as : List ME) | vw (it : Bool) (b : BF) (a : ME) | mtd (m : BM) (o : ME) (as : List ME)
  | isi (a : ME) (t : TyR)
  | lc (elt : ME) (tg : Tg) (it : IT) (cs : List ME)
  | lc2 (elt : ME) (tg : Tg) (it : IT) (cs : List ME) (tg1 : Tg) (it1 : IT) (cs1 : List ME)
inductive IT where
  | ex (a : ME) | rng1 (a : ME) | rng2 (a b : ME) | rng3 (a b c : ME) | enu (a : ME) | zip (a b : ME) | itm (a : ME) | vls (a : ME)
end
inductive MS where
  | ret (e : ME) | retN | asg (tg : Tg) (e : ME) | exp (e : ME) | pass | brk | cnt
  | ite (c : ME) (a b : List MS) | whl (c : ME) (b : List MS) | for_ (tg : Tg) (it : IT) (b : List MS)
  | aug (i : Nat) (o : Operator) (e : ME) | put (a i e : ME) | augx (a i : ME) (o : Operator) (e : ME) | del (a i : ME) | bad
inductive Fl where
  | nx (ρ : Env) | rt (v : Val) | bk (ρ : Env) | ct (ρ : Env)
/-! ### reading -/
def optAll {α β : Type} (f : α → Option β) : List α → Option (List β)
  | [] => some []
  | x :: xs => match f x, optAll f xs with
    | some y, some ys => some (y :: ys)
    | _, _ => none
/-- the text of codes -/
def stx (x : Tx) : Str := ⟨x.toArray⟩
mutual
/-- a value as a key -/
def keyV : Val → Option NestedKey
  | .non => some .none
  | .bl b => some (.num (if b then 1 else 0))
  | .int i => some (.num i)
  | .str x => some (.text (stx x))
  | .tup xs => (keyVs xs).map .tup
  | _ => none
def keyVs : List Val → Option (List NestedKey)
  | [] => some []
  | x :: xs => match keyV x, keyVs xs with
    | some h, some hs => some (h :: hs)
    | _, _ => none
end
def keyD (x : Val) : Option NestedKey := match keyV x with
  | some k => if k.depth ≤ 8 then some k else none
  | none => none
/-- the items of a list or a tuple -/
def seqV (S : Sto) : Val → Option (List Val)
  | .tup xs => some xs
  | .ref i => match S[i]? with
    | some (.lst xs) => some xs
    | some (.rol xs) => some xs
    | _ => none
  | _ => none
def dctV (S : Sto) : Val → Option (List (Val × Val))
  | .ref i => match S[i]? with
    | some (.dct kvs) => some kvs
    | some (.fdc kvs) => some kvs
    | _ => none
  | _ => none
inductive Kd where
  | non | num (i : Int) | txt (x : Tx) | tup (xs : List Val) | lst (xs : List Val)
def kdV (S : Sto) : Val → Option Kd
  | .non => some .non
  | .bl b => some (.num (if b then 1 else 0))
  | .int i => some (.num i)
  | .str x => some (.txt x)
  | .tup xs => some (.tup xs)
  | .ref i => match S[i]? with
    | some (.lst xs) => some (.lst xs)
    | some (.rol xs) => some (.lst xs)
    | _ => none
  | .fn _ => none
def eqs (f : Val × Val → Option Bool) (xs ys : List Val) : Option Bool := match optAll f (xs.zip ys) with
  | some bs => some (bs.all id && xs.length == ys.length)
  | none => none
/-- x == y, data without dicts -/
def eqD : Nat → Sto → Val → Val → Option Bool
  | 0, _, _, _ => none
  | n + 1, S, x, y => match kdV S x, kdV S y with
    | some (.tup xs), some (.tup ys) => eqs (fun p => eqD n S p.1 p.2) xs ys
    | some (.lst xs), some (.lst ys) => eqs (fun p => eqD n S p.1 p.2) xs ys
    | some .non, some .non => some true
    | some (.num i), some (.num j) => some (decide (i = j))
    | some (.txt i), some (.txt j) => some (decide (i = j))
    | some _, some _ => some false
    | _, _ => none
def datV : Nat → Sto → Val → Option PyData
  | 0, _, _ => none
  | n + 1, S, x => match x with
    | .non => some .none
    | .bl b => some (.bool b)
    | .int i => some (.int i)
    | .str x => some (.str (stx x))
    | .tup xs => (optAll (datV n S) xs).map .tuple
    | .ref i => match S[i]? with
      | some (.lst xs) => (optAll (datV n S) xs).map .list
      | some (.rol xs) => (optAll (datV n S) xs).map .list
      | some (.dct kvs) => match optAll (fun p => datV n S p.1) kvs, optAll (fun p => datV n S p.2) kvs with
        | some ks, some vs => some (.dict (ks.zip vs))
        | _, _ => none
      | _ => none
    | .fn _ => none
/-- keys of sets: ints and texts -/
def keyS : Val → Option (Sum Int Str)
  | .int i => some (.inl i)
  | .str x => some (.inr (stx x))
  | _ => none
def kVal : Sum Int Str → Val
  | .inl i => .int i
  | .inr x => .str x.cps.toList
def setV (S : Sto) : Val → Option (List Val)
  | .ref i => match S[i]? with
    | some (.set xs) => some xs
    | _ => none
  | _ => none
def atK (kvs : List (Val × Val)) (k : NestedKey) : Option Val := (kvs.find? fun p => decide (keyV p.1 = some k)).map (·.2)
def putK (kvs : List (Val × Val)) (k : NestedKey) (u v : Val) : List (Val × Val) :=
  if kvs.any fun p => decide (keyV p.1 = some k) then kvs.map fun p => if keyV p.1 = some k then (p.1, v) else p else kvs ++ [(u, v)]
def delK (kvs : List (Val × Val)) (k : NestedKey) : List (Val × Val) := kvs.filter fun p => decide (keyV p.1 ≠ some k)
def cutL {α : Type} (xs : List α) (lo hi : Option Int) : List α := (xs.drop (HT.sIx xs.length 0 lo)).take (HT.sIx xs.length xs.length hi - HT.sIx xs.length 0 lo)
def blOf : Val → Option Bool
  | .bl b => some b
  | _ => none
def intOf : Val → Option Int
  | .int i => some i
  | _ => none
def strOf : Val → Option Tx
  | .str x => some x
  | _ => none
def noneTo {α : Type} (o : Option α) : M α := fun S => match o with
  | some a => .ok a S
  | none => .bad
/-! ### operations -/
def cntOk (n : Nat) (k : Int) : Prop := -(2 ^ 63) ≤ k ∧ k < 2 ^ 63 ∧ n * k.toNat ≤ line
instance (n : Nat) (k : Int) : Decidable (cntOk n k) := inferInstanceAs (Decidable (_ ∧ _ ∧ _))
def rep {α : Type} (k : Int) (xs : List α) : List α := (List.replicate k.toNat xs).flatten
def binV (o : Operator) (x y : Val) : M Val := match o, x, y with
  | .Add, .int i, .int j => ret (.int (i + j))
  | .Sub, .int i, .int j => ret (.int (i - j))
  | .Mult, .int i, .int j => fun S => if (-(2 ^ 64) < i ∧ i < 2 ^ 64) ∨ (-(2 ^ 64) < j ∧ j < 2 ^ 64) then .ok (.int (i * j)) S else .bad
  | .Mod, .int i, .int j => fun S => if j ≠ 0 then .ok (.int (i.fmod j)) S else .bad
  | .FloorDiv, .int i, .int j => fun S => if j ≠ 0 ∧ j.natAbs < 1073741824 then .ok (.int (i.fdiv j)) S else .bad
  | .Pow, .int i, .int j => fun S => if 0 ≤ j ∧ j ≤ 1000000 ∧ i.natAbs < 2 ^ 64 then .ok (.int (i ^ j.toNat)) S else .bad
  | .Add, .str a, .str b => fun S => if a.length + b.length ≤ line then .ok (.str (a ++ b)) S else .bad
  | .Add, .tup a, .tup b => fun S => if a.length + b.length ≤ line then .ok (.tup (a ++ b)) S else .bad
  | .Add, .ref i, .ref j => fun S => match S[i]?, S[j]? with
    | some (.lst a), some (.lst b) => if a.length + b.length ≤ line then .ok (.ref S.length) (S ++ [.lst (a ++ b)]) else .bad
    | _, _ => .bad
  | .Mult, .str a, .int k => fun S => if a.length ≤ 16 ∧ -(2 ^ 63) ≤ k ∧ k ≤ 1048576 then .ok (.str (PySem.Txt.mul (stx a) k).cps.toList) S else .bad
  | .Mult, .tup a, .int k => fun S => if a ≠ [] ∧ -(2 ^ 63) ≤ k ∧ k ≤ 1000 ∧ a.length ≤ 1000 then .ok (.tup (rep k a)) S else .bad
  | .Mult, .ref i, .int k => fun S => match S[i]? with
    | some (.lst a) => if cntOk a.length k then .ok (.ref S.length) (S ++ [.lst (rep k a)]) else .bad
    | _ => .bad
  | _, _, _ => stop
def augV (o : Operator) (x y : Val) : M Val := match o, x, y with
  | .Add, .int i, .int j => ret (.int (i + j))
  | .Sub, .int i, .int j => ret (.int (i - j))
  | _, _, _ => stop
/-- x in y -/
def inV (x y : Val) (S : Sto) : Option Bool := match y with
  | .str z => match x with
    | .str [c] => some (decide (c ∈ z))
    | _ => none
  | _ => match seqV S y with
    | some ys => (optAll (fun u => eqD 60 S u x) ys).map fun bs => bs.any id
    | none => match dctV S y with
      | some kvs => (keyD x).map fun k => (atK kvs k).isSome
      | none => match setV S y, keyS x with
        | some xs, some k => some (xs.any fun u => decide (keyS u = some k))
        | _, _ => none
/-- x is y, y one of None, True, False -/
def isV (x y : Val) : Option Bool := match y with
  | .non => match x with
    | .non => some true
    | .fn _ => none
    | _ => some false
  | .bl b => match x with
    | .bl c => some (decide (c = b))
    | _ => none
  | _ => none
def bl1 (o : Option Bool) : M Val := fun S => match o with
  | some b => .ok (.bl b) S
  | none => .bad
def cmpV (o : CmpOp) (x y : Val) : M Val := match o with
  | .Lt => match x, y with
    | .int i, .int j => ret (.bl (decide (i < j)))
    | .str i, .str j => ret (.bl (decide (i < j)))
    | _, _ => stop
  | .LtE => match x, y with
    | .int i, .int j => ret (.bl (decide (i ≤ j)))
    | .str i, .str j => ret (.bl (!decide (j < i)))
    | _, _ => stop
  | .Gt => match x, y with
    | .int i, .int j => ret (.bl (decide (j < i)))
    | .str i, .str j => ret (.bl (decide (j < i)))
    | _, _ => stop
  | .GtE => match x, y with
    | .int i, .int j => ret (.bl (decide (j ≤ i)))
    | .str i, .str j => ret (.bl (!decide (i < j)))
    | _, _ => stop
  | .Eq => fun S => bl1 (eqD 60 S x y) S
  | .NotEq => fun S => bl1 ((eqD 60 S x y).map fun b => !b) S
  | .In => fun S => bl1 (inV x y S) S
  | .NotIn => fun S => bl1 ((inV x y S).map fun b => !b) S
  | .Is => bl1 (isV x y)
  | .IsNot => bl1 ((isV x y).map fun b => !b)
def truV (x : Val) : M Bool := fun S => match x with
  | .non => .ok false S
  | .bl b => .ok b S
  | .int i => .ok (i != 0) S
  | _ => .bad
/-- sorted: ints, texts, tuples of such -/
noncomputable def srtD (S : Sto) (xs : List Val) : List Val := xs.mergeSort (PySem.W.dataLe false fun v => (datV 20 S v).getD .none)
def srtOk (S : Sto) (xs : List Val) : Prop := xs.length ≤ line ∧ (∀ v ∈ xs, ∃ d, datV 20 S v = some d) ∧ PySem.W.AllAlike (xs.map fun v => (datV 20 S v).getD .none) ∧ PySem.W.Sortable (xs.map fun v => (datV 20 S v).getD .none)
/-- sorted of a set: the same in whatever order it is walked -/
def srtSet (S : Sto) (xs : List Val) : Prop := ∀ ys : List Val, ys.Perm xs → srtOk S ys ∧ srtD S ys = srtD S xs
def lenV (S : Sto) (x : Val) : Option Nat := match x with
  | .str z => if z.length ≤ line then some z.length else none
  | _ => match seqV S x with
    | some xs => some xs.length
    | none => match dctV S x with
      | some kvs => some kvs.length
      | none => (setV S x).map (·.length)
def reprV (S : Sto) (x : Val) : Option Tx := match datV 60 S x with
  | some d => if d.showable = true ∧ d.shown.length ≤ line then some d.shown.cps.toList else none
  | none => none
def prsV (S : Sto) (xs : List Val) : Option (List (NestedKey × Val × Val)) := optAll (fun x => match seqV S x with
    | some [k, v] => (keyD k).map fun n => (n, k, v)
    | _ => none) xs
open Classical in
noncomputable def bltV (b : BF) (xs : List Val) : M Val := fun S => match b, xs with
  | .abs, [.int i] => .ok (.int (if i < 0 then -i else i)) S
  | .int, [.int i] => .ok (.int i) S
  | .int, [.bl k] => .ok (.int (if k then 1 else 0)) S
  | .max2, [.int i, .int j] => .ok (.int (if j > i then j else i)) S
  | .min2, [.int i, .int j] => .ok (.int (if j < i then j else i)) S
  | .len, [x] => match lenV S x with
    | some n => .ok (.int n) S
    | none => .bad
  | .all, [.ref i] => match (seqV S (.ref i)).bind (optAll blOf) with
    | some bs => .ok (.bl (bs.all id)) S
    | none => .bad
  | .sum, [.ref i] => match (seqV S (.ref i)).bind (optAll intOf) with
    | some ns => .ok (.int ns.sum) S
    | none => .bad
  | .list, [x] => match seqV S x with
    | some ys => .ok (.ref S.length) (S ++ [.lst ys])
    | none => match dctV S x with
      | some kvs => .ok (.ref S.length) (S ++ [.lst (kvs.map (·.1))])
      | none => .bad
  | .tuple, [x] => match seqV S x with
    | some ys => .ok (.tup ys) S
    | none => .bad
  | .sorted, [.ref i] => match seqV S (.ref i) with
    | some ys => if srtOk S ys then .ok (.ref S.length) (S ++ [.lst (srtD S ys)]) else .bad
    | none => match dctV S (.ref i) with
      | some kvs => if srtOk S (kvs.map (·.1)) then .ok (.ref S.length) (S ++ [.lst (srtD S (kvs.map (·.1)))]) else .bad
      | none => match setV S (.ref i) with
        | some ys => if srtSet S ys then .ok (.ref S.length) (S ++ [.lst (srtD S ys)]) else .bad
        | none => .bad
  | .repr, [x] => match reprV S x with
    | some t => .ok (.str t) S
    | none => .bad
  | .dict, [.ref i] => match dctV S (.ref i) with
    | some kvs => if (kvs.all fun p => (strOf p.1).isSome) = true then .ok (.ref S.length) (S ++ [.dct kvs]) else .bad
    | none => match (seqV S (.ref i)).bind (prsV S) with
      | some ps => .ok (.ref S.length) (S ++ [.dct (ps.foldl (fun kvs p => putK kvs p.1 p.2.1 p.2.2) [])])
      | none => .bad
  | .set, [.ref i] => match (seqV S (.ref i)).bind (optAll keyS) with
    | some ks => if ks.length + 1 < PySem.scanBound then .ok (.ref S.length) (S ++ [.set ((keysOf ks).map kVal)]) else .bad
    | none => .bad
  | _, _ => .bad
open Classical in
/-- b(x.items()), b(x.values()) -/
noncomputable def vwV (it : Bool) (b : BF) (x : Val) : M Val := fun S => match dctV S x with
  | some kvs => match it, b with
    | true, .list => if (kvs.all fun p => (strOf p.1).isSome) = true then .ok (.ref S.length) (S ++ [.lst (kvs.map fun p => .tup [p.1, p.2])]) else .bad
    | false, .list => .ok (.ref S.length) (S ++ [.lst (kvs.map (·.2))])
    | false, .sorted => if srtOk S (kvs.map (·.2)) then .ok (.ref S.length) (S ++ [.lst (srtD S (kvs.map (·.2)))]) else .bad
    | _, _ => .bad
  | none => .bad
def isiV (t : TyR) (x : Val) : M Val := fun S => match t, x with
  | .int, .int _ => .ok (.bl true) S
  | .int, .bl _ => .ok (.bl true) S
  | .bool, .bl _ => .ok (.bl true) S
  | .str, .str _ => .ok (.bl true) S
  | .tuple, .tup _ => .ok (.bl true) S
  | _, .fn _ => .bad
  | t, .ref i => match S[i]? with
    | some (.lst _) => .ok (.bl (decide (t = .list))) S
    | some (.rol _) => .ok (.bl (decide (t = .list))) S
    | some (.dct _) => .ok (.bl (decide (t = .dict))) S
    | some (.fdc _) => .ok (.bl (decide (t = .dict))) S
    | _ => .bad
  | _, _ => .ok (.bl false) S
def idxV (x i : Val) : M Val := fun S => match x, i with
  | .str z, .int k => if z.length ≤ line then match L2.atI z k with
      | some c => .ok (.str [c]) S
      | none => .bad
    else .bad
  | _, _ => match seqV S x, i with
    | some xs, .int k => match L2.atI xs k with
      | some v => .ok v S
      | none => .bad
    | _, _ => match dctV S x, keyD i with
      | some kvs, some k => match atK kvs k with
        | some v => .ok v S
        | none => .bad
      | _, _ => .bad
def idxM (x i : Val) : M Val := fun S => match x with
  | .ref _ => idxV x i S
  | _ => .bad
def partOf : List Val → Option (Option Int)
  | [] => some none
  | [.int i] => some (some i)
  | _ => none
def slV (x : Val) (lo hi : Option Int) : M Val := fun S => match x with
  | .str z => if z.length ≤ line then .ok (.str (cutL z lo hi)) S else .bad
  | .tup xs => .ok (.tup (cutL xs lo hi)) S
  | .ref i => match S[i]? with
    | some (.lst xs) => .ok (.ref S.length) (S ++ [.lst (cutL xs lo hi)])
    | some (.rol xs) => .ok (.ref S.length) (S ++ [.lst (cutL xs lo hi)])
    | _ => .bad
  | _ => .bad
def revV (x : Val) : M Val := fun S => match x with
  | .ref i => match S[i]? with
    | some (.lst xs) => .ok (.ref S.length) (S ++ [.lst xs.reverse])
    | some (.rol xs) => .ok (.ref S.length) (S ++ [.lst xs.reverse])
    | _ => .bad
  | _ => .bad
def pairUp : List Val → Option (List (NestedKey × Val × Val))
  | [] => some []
  | k :: v :: r => match keyD k, pairUp r with
    | some n, some ps => some ((n, k, v) :: ps)
    | _, _ => none
  | _ => none
/-- a new dict, the pairs put in one behind the other -/
def dctM (xs : List Val) : M Val := fun S => match pairUp xs with
  | some ps => if ps.length ≤ line then .ok (.ref S.length) (S ++ [.dct (ps.foldl (fun kvs p => putK kvs p.1 p.2.1 p.2.2) [])]) else .bad
  | none => .bad
def putV (x i v : Val) : M Unit := fun S => match x with
  | .ref a => match S[a]?, i with
    | some (.lst xs), .int k => match L2.ixN xs.length k with
      | some j => .ok () (S.set a (.lst (xs.set j v)))
      | none => .bad
    | some (.dct kvs), i => match keyD i with
      | some k => if kvs.length < line then .ok () (S.set a (.dct (putK kvs k i v))) else .bad
      | none => .bad
    | _, _ => .bad
  | _ => .bad
def delV (x i : Val) : M Unit := fun S => match x with
  | .ref a => match S[a]?, i with
    | some (.lst xs), .int k => if -(2 ^ 63) ≤ k ∧ k < 2 ^ 63 then match PySem.seqIndex? k xs.length with
      | some j => .ok () (S.set a (.lst (xs.eraseIdx j)))
      | none => .bad
      else .bad
    | some (.dct kvs), i => match keyD i with
      | some k => if (atK kvs k).isSome then .ok () (S.set a (.dct (delK kvs k))) else .bad
      | none => .bad
    | _, _ => .bad
  | _ => .bad
inductive Rt where
  | lst | dct | str | tup
  deriving DecidableEq
def rtV (S : Sto) : Val → Option Rt
  | .str _ => some .str
  | .ref i => match S[i]? with
    | some (.lst _) => some .lst
    | some (.dct _) => some .dct
    | some (.fdc _) => some .dct
    | _ => none
  | _ => none
/-- o.m(..), o of the kit's own kinds -/
def mtdV (t : Rt) (m : BM) (o : Val) (as : List Val) : M Val := fun S => match t with
  | .lst => match o with
    | .ref a => match S[a]? with
      | some (.lst xs) => match m with
        | .append => match as with
          | [v] => if xs.length < line then .ok .non (S.set a (.lst (xs ++ [v]))) else .bad
          | _ => .bad
        | .pop => match as with
          | [] => match xs[xs.length - 1]? with
            | some y => .ok y (S.set a (.lst xs.dropLast))
            | none => .bad
          | [.int i] => if -(2 ^ 63) ≤ i ∧ i < 2 ^ 63 then match PySem.seqIndex? i xs.length with
            | some j => match xs[j]? with
              | some y => .ok y (S.set a (.lst (xs.eraseIdx j)))
              | none => .bad
            | none => .bad
            else .bad
          | _ => .bad
        | .insert => match as with
          | [.int i, y] => if xs.length < line ∧ 0 ≤ i ∧ i < 2 ^ 63 then .ok .non (S.set a (.lst (xs.take i.toNat ++ [y] ++ xs.drop i.toNat))) else .bad
          | _ => .bad
        | .extend => match as with
          | [.ref b] => match S[b]? with
            | some (.lst ys) => if xs.length + ys.length ≤ line then .ok .non (S.set a (.lst (xs ++ ys))) else .bad
            | _ => .bad
          | _ => .bad
        | .clear => match as with
          | [] => .ok .non (S.set a (.lst []))
          | _ => .bad
        | .reverse => match as with
          | [] => .ok .non (S.set a (.lst xs.reverse))
          | _ => .bad
        | .count => match as with
          | [x] => match optAll (fun u => eqD 60 S u x) xs with
            | some bs => .ok (.int (bs.countP id : Nat)) S
            | none => .bad
          | _ => .bad
        | .index => match as with
          | [x] => match optAll (fun u => eqD 60 S u x) xs with
            | some bs => match bs.findIdx? id with
              | some j => .ok (.int (j : Nat)) S
              | none => .bad
            | none => .bad
          | _ => .bad
        | _ => .bad
      | _ => .bad
    | _ => .bad
  | .dct => match m with
    | .get => match as with
      | [k, v] => match dctV S o, keyD k with
        | some kvs, some n => .ok ((atK kvs n).getD v) S
        | _, _ => .bad
      | _ => .bad
    | .setdefault => match o, as with
      | .ref a, [k, v] => match S[a]?, keyD k with
        | some (.dct kvs), some n => match atK kvs n with
          | some u => .ok u S
          | none => if kvs.length < line then .ok v (S.set a (.dct (putK kvs n k v))) else .bad
        | _, _ => .bad
      | _, _ => .bad
    | _ => .bad
  | .str => match m with
    | .join => match o, as with
      | .str z, [y] => match (seqV S y).bind (optAll strOf) with
        | some zs => if (zs.map List.length).sum + zs.length * z.length ≤ 16777216 then .ok (.str (PySem.Txt.join (stx z) (zs.map stx)).cps.toList) S else .bad
        | none => .bad
      | _, _ => .bad
    | _ => .bad
  | .tup => .bad
/-- what is walked: what must stay as it is meanwhile, the items, the dict that is walked -/
structure Wk where
  gs : List (Nat × Ob)
  xs : List Val
  th : Option Nat
def iterV (x : Val) : M Wk := fun S => match x with
  | .tup xs => .ok ⟨[], xs, none⟩ S
  | .str cs => .ok ⟨[], cs.map fun c => .str [c], none⟩ S
  | .ref i => match S[i]? with
    | some (.lst xs) => .ok ⟨[(i, .lst xs)], xs, none⟩ S
    | some (.rol xs) => .ok ⟨[(i, .rol xs)], xs, none⟩ S
    | some (.dct kvs) => .ok ⟨[(i, .fdc kvs)], kvs.map fun p => p.1, some i⟩ (S.set i (.fdc kvs))
    | some (.fdc kvs) => .ok ⟨[(i, .fdc kvs)], kvs.map fun p => p.1, none⟩ S
    | _ => .bad
  | _ => .bad
/-- d.items(), d.values() -/
def viewV (f : Val × Val → Val) (x : Val) : M Wk := fun S => match x with
  | .ref i => match S[i]? with
    | some (.dct kvs) => .ok ⟨[(i, .fdc kvs)], kvs.map f, some i⟩ (S.set i (.fdc kvs))
    | some (.fdc kvs) => .ok ⟨[(i, .fdc kvs)], kvs.map f, none⟩ S
    | _ => .bad
  | _ => .bad
/-- the dict that was walked may be changed again -/
def thaw (th : Option Nat) : M Unit := fun S => match th with
  | none => .ok () S
  | some i => match S[i]? with
    | some (.fdc kvs) => .ok () (S.set i (.dct kvs))
    | _ => .bad
/-- enumerate(list) -/
def enuV (x : Val) : M Wk := fun S => match x with
  | .ref i => match S[i]? with
    | some (.lst xs) => .ok ⟨[(i, .lst xs)], xs.mapIdx fun i x => .tup [.int (i : Nat), x], none⟩ S
    | some (.rol xs) => .ok ⟨[(i, .rol xs)], xs.mapIdx fun i x => .tup [.int (i : Nat), x], none⟩ S
    | _ => .bad
  | _ => .bad
/-- zip of two lists, of two tuples -/
def zipV (x y : Val) : M Wk := fun S => match x, y with
  | .ref i, .ref j => match S[i]?, S[j]? with
    | some (.lst xs), some (.lst ys) => .ok ⟨[(i, .lst xs), (j, .lst ys)], (xs.zip ys).map fun p => .tup [p.1, p.2], none⟩ S
    | _, _ => .bad
  | .tup xs, .tup ys => .ok ⟨[], (xs.zip ys).map fun p => .tup [p.1, p.2], none⟩ S
  | .str a, .str b => .ok ⟨[], (a.zip b).map fun p => .tup [.str [p.1], .str [p.2]], none⟩ S
  | _, _ => .bad
def stays (gs : List (Nat × Ob)) (S : Sto) : Prop := ∀ g ∈ gs, S[g.1]? = some g.2
def setE (ρ : Env) (i : Nat) (v : Val) : Env := ρ.set i (some v)
mutual
def tgV : Tg → Val → Env → M Env
  | .nm i, v, ρ => ret (setE ρ i v)
  | .tp ts, v, ρ => match v with
    | .tup xs => tgsV ts xs ρ
    | _ => stop
def tgsV : List Tg → List Val → Env → M Env
  | [], [], ρ => ret ρ
  | t :: ts, v :: vs, ρ => bnd (tgV t v ρ) fun ρ' => tgsV ts vs ρ'
  | _, _, _ => stop
end
mutual
def slotsT : Tg → List Nat
  | .nm i => [i]
  | .tp ts => slotsTs ts
def slotsTs : List Tg → List Nat
  | [] => []
  | t :: ts => slotsT t ++ slotsTs ts
end
def wipeE (ρ : Env) (vs : List Nat) : Env := ρ.zipIdx.map fun p => if p.2 ∈ vs then none else p.1
open Classical in
/-- the items, one behind the other, while what is walked stays as it is -/
noncomputable def compL (gs : List (Nat × Ob)) (f : Val → M (Option Val)) : List Val → M (List Val)
  | [] => fun S => if stays gs S then .ok [] S else .bad
  | x :: xs => fun S => if stays gs S then (f x S).bind fun o => bnd (compL gs f xs) fun ys => ret (match o with | some y => y :: ys | none => ys) else .bad
open Classical in
noncomputable def compL2 (gs : List (Nat × Ob)) (f : Val → M (List Val)) : List Val → M (List Val)
  | [] => fun S => if stays gs S then .ok [] S else .bad
  | x :: xs => fun S => if stays gs S then (f x S).bind fun zs => bnd (compL2 gs f xs) fun ys => ret (zs ++ ys) else .bad
variable (φ : Nat → List Val → M Val) (W : Nat)
mutual
noncomputable def meanE : ME → Env → M Val
  | .con v, _ => ret v
  | .var i, ρ => match ρ[i]? with
    | some (some v) => ret v
    | _ => stop
  | .bin o a b, ρ => bnd (meanE a ρ) fun x => bnd (meanE b ρ) fun y => binV o x y
  | .neg a, ρ => bnd (meanE a ρ) fun x => match x with
    | .int i => ret (.int (-i))
    | _ => stop
  | .not a, ρ => bnd (meanE a ρ) fun x => bnd (truV x) fun b => ret (.bl (!b))
  | .and a b, ρ => bnd (meanE a ρ) fun x => bnd (truV x) fun k => if k then meanE b ρ else ret x
  | .or a b, ρ => bnd (meanE a ρ) fun x => bnd (truV x) fun k => if k then ret x else meanE b ρ
  | .ite c a b, ρ => bnd (meanE c ρ) fun x => bnd (truV x) fun k => if k then meanE a ρ else meanE b ρ
  | .cmp o a b, ρ => bnd (meanE a ρ) fun x => bnd (meanE b ρ) fun y => cmpV o x y
  | .chn o o' a b c, ρ => bnd (meanE a ρ) fun x => bnd (meanE b ρ) fun y => bnd (cmpV o x y) fun z => match z with
    | .bl true => bnd (meanE c ρ) fun u => cmpV o' y u
    | .bl false => ret (.bl false)
    | _ => stop
  | .tup es, ρ => bnd (meanL es ρ) fun xs => fun S => if xs.length ≤ line then .ok (.tup xs) S else .bad
  | .lst es, ρ => bnd (meanL es ρ) fun xs => fun S => if xs.length ≤ line then newOb (.lst xs) S else .bad
  | .dct es, ρ => bnd (meanL es ρ) fun xs => dctM xs
  | .ix a i, ρ => bnd (meanE a ρ) fun x => bnd (meanE i ρ) fun y => idxV x y
  | .sl a lo hi, ρ => bnd (meanE a ρ) fun x => bnd (meanL lo ρ) fun l => bnd (meanL hi ρ) fun h => fun S => match partOf l, partOf h with
    | some l', some h' => slV x l' h' S
    | _, _ => .bad
  | .rev a, ρ => bnd (meanE a ρ) fun x => revV x
  | .cal f as, ρ => bnd (meanL as ρ) fun xs => φ f xs
  | .calk f as ps, ρ => bnd (meanL as ρ) fun xs => φ f (ps.map fun i => xs.getD i .non)
  | .blt b as, ρ => bnd (meanL as ρ) fun xs => bltV b xs
  | .vw it b a, ρ => bnd (meanE a ρ) fun x => vwV it b x
  | .mtd m o as, ρ => bnd (meanE o ρ) fun x => fun S => match rtV S x with
    | some t => bnd (meanL as ρ) (fun xs => mtdV t m x xs) S
    | none => .bad
  | .isi a t, ρ => bnd (meanE a ρ) fun x => isiV t x
  | .lc elt tg it cs, ρ => bnd (meanI it ρ) fun p => bnd (compL p.gs (fun x => bnd (tgV tg x ρ) fun ρ' => bnd (meanC cs ρ') fun k => if k then bnd (meanE elt ρ') fun y => ret (some y) else ret none) p.xs) fun ys =>
      bnd (thaw p.th) fun _ => fun S => if ys.length ≤ line then newOb (.lst ys) S else .bad
  | .lc2 elt tg it cs tg1 it1 cs1, ρ => bnd (meanI it ρ) fun p => bnd (compL2 p.gs (fun x => bnd (tgV tg x (wipeE ρ (slotsT tg1))) fun ρ' => bnd (meanC cs ρ') fun k => if k then
      bnd (meanI it1 ρ') fun p1 => if p1.th.isSome then stop else compL p1.gs (fun y => bnd (tgV tg1 y ρ') fun ρ2 => bnd (meanC cs1 ρ2) fun k1 => if k1 then bnd (meanE elt ρ2) fun z => ret (some z) else ret none) p1.xs
      else ret []) p.xs) fun ys =>
      bnd (thaw p.th) fun _ => fun S => if ys.length ≤ line then newOb (.lst ys) S else .bad
noncomputable def meanL : List ME → Env → M (List Val)
  | [], _ => ret []
  | e :: es, ρ => bnd (meanE e ρ) fun x => bnd (meanL es ρ) fun xs => ret (x :: xs)
noncomputable def meanC : List ME → Env → M Bool
  | [], _ => ret true
  | e :: es, ρ => bnd (meanE e ρ) fun x => bnd (truV x) fun k => if k then meanC es ρ else ret false
noncomputable def meanI : IT → Env → M Wk
  | .ex a, ρ => bnd (meanE a ρ) fun x => iterV x
  | .rng1 a, ρ => bnd (meanE a ρ) fun x => fun S => match x with
    | .int n => if -(2 ^ 62) ≤ n ∧ n < 2 ^ 62 then .ok ⟨[], (List.range n.toNat).map fun (k : Nat) => Val.int (k : Int), none⟩ S else .bad
    | _ => .bad
  | .rng2 a b, ρ => bnd (meanE a ρ) fun x => bnd (meanE b ρ) fun y => fun S => match x, y with
    | .int m, .int n => if -(2 ^ 62) ≤ n ∧ n < 2 ^ 62 ∧ -(2 ^ 62) ≤ m ∧ m < 2 ^ 62 then .ok ⟨[], (List.range (n - m).toNat).map fun (k : Nat) => Val.int (m + (k : Int)), none⟩ S else .bad
    | _, _ => .bad
  | .rng3 a b c, ρ => bnd (meanE a ρ) fun x => bnd (meanE b ρ) fun y => bnd (meanE c ρ) fun z => fun S => match x, y, z with
    | .int m, .int n, .int s => if s = -1 ∧ -(2 ^ 62) ≤ n ∧ n < 2 ^ 62 ∧ -(2 ^ 62) ≤ m ∧ m < 2 ^ 62 then .ok ⟨[], (List.range (m - n).toNat).map fun (k : Nat) => Val.int (m - (k : Int)), none⟩ S else .bad
    | _, _, _ => .bad
  | .enu a, ρ => bnd (meanE a ρ) fun x => enuV x
  | .zip a b, ρ => bnd (meanE a ρ) fun x => bnd (meanE b ρ) fun y => zipV x y
  | .itm a, ρ => bnd (meanE a ρ) fun x => viewV (fun p => .tup [p.1, p.2]) x
  | .vls a, ρ => bnd (meanE a ρ) fun x => viewV (fun p => p.2) x
end
open Classical in
noncomputable def forL (gs : List (Nat × Ob)) (f : Val → Env → M Fl) : List Val → Env → M Fl
  | [], ρ => fun S => if stays gs S then .ok (.nx ρ) S else .bad
  | x :: xs, ρ => fun S => if stays gs S then (f x ρ S).bind fun r => match r with
      | .nx ρ' => forL gs f xs ρ'
      | .ct ρ' => forL gs f xs ρ'
      | .bk ρ' => ret (.nx ρ')
      | .rt v => ret (.rt v)
    else .bad
def whlL (c : Env → M Bool) (f : Env → M Fl) : Nat → Env → M Fl
  | 0, _ => stop
  | n + 1, ρ => bnd (c ρ) fun k => if k then bnd (f ρ) fun r => match r with
      | .nx ρ' => whlL c f n ρ'
      | .ct ρ' => whlL c f n ρ'
      | .bk ρ' => ret (.nx ρ')
      | .rt v => ret (.rt v)
    else ret (.nx ρ)
mutual
noncomputable def meanS : MS → Env → M Fl
  | .ret e, ρ => bnd (meanE φ e ρ) fun v => ret (.rt v)
  | .retN, _ => ret (.rt .non)
  | .asg tg e, ρ => bnd (meanE φ e ρ) fun v => bnd (tgV tg v ρ) fun ρ' => ret (.nx ρ')
  | .exp e, ρ => bnd (meanE φ e ρ) fun _ => ret (.nx ρ)
  | .pass, ρ => ret (.nx ρ)
  | .brk, ρ => ret (.bk ρ)
  | .cnt, ρ => ret (.ct ρ)
  | .ite c a b, ρ => bnd (meanE φ c ρ) fun x => bnd (truV x) fun k => if k then meanB a ρ else meanB b ρ
  | .whl c b, ρ => whlL (fun ρ => bnd (meanE φ c ρ) truV) (fun ρ => meanB b ρ) W ρ
  | .for_ tg it b, ρ => bnd (meanI φ it ρ) fun p => bnd (forL p.gs (fun x ρ => bnd (tgV tg x ρ) fun ρ' => meanB b ρ') p.xs ρ) fun r => bnd (thaw p.th) fun _ => ret r
  | .aug i o e, ρ => match ρ[i]? with
    | some (some x) => bnd (meanE φ e ρ) fun y => bnd (augV o x y) fun z => ret (.nx (setE ρ i z))
    | _ => stop
  | .put a i e, ρ => bnd (meanE φ e ρ) fun v => bnd (meanE φ a ρ) fun x => bnd (meanE φ i ρ) fun k => bnd (putV x k v) fun _ => ret (.nx ρ)
  | .augx a i o e, ρ => bnd (meanE φ a ρ) fun x => bnd (meanE φ i ρ) fun k => bnd (idxM x k) fun u => bnd (meanE φ e ρ) fun y => bnd (augV o u y) fun z => bnd (putV x k z) fun _ => ret (.nx ρ)
  | .del a i, ρ => bnd (meanE φ a ρ) fun x => bnd (meanE φ i ρ) fun k => bnd (delV x k) fun _ => ret (.nx ρ)
  | .bad, _ => stop
noncomputable def meanB : List MS → Env → M Fl
  | [], ρ => ret (.nx ρ)
  | s :: ss, ρ => bnd (meanS s ρ) fun r => match r with
    | .nx ρ' => meanB ss ρ'
    | r => ret r
end
end MP
set_option linter.all false
set_option Elab.async false
namespace MP
open PySem L2
mutual
def ltV (n : Nat) : Val → Prop
  | .tup xs => ltVs n xs
  | .ref i => i < n
  | _ => True
def ltVs (n : Nat) : List Val → Prop
  | [] => True
  | x :: xs => ltV n x ∧ ltVs n xs
end
theorem ltVs_iff {n : Nat} : ∀ {xs : List Val}, ltVs n xs ↔ ∀ x ∈ xs, ltV n x
  | [] => by simp [ltVs]
  | x :: xs => by simp [ltVs, ltVs_iff (xs := xs)]
mutual
theorem ltV.mono {n m : Nat} (h : n ≤ m) : ∀ {v : Val}, ltV n v → ltV m v
  | .tup xs, q => by unfold ltV at q ⊢; exact ltVs.mono h q
  | .ref i, q => by unfold ltV at q ⊢; omega
  | .non, _ => trivial
  | .bl _, _ => trivial
  | .int _, _ => trivial
  | .str _, _ => trivial
  | .fn _, _ => trivial
theorem ltVs.mono {n m : Nat} (h : n ≤ m) : ∀ {xs : List Val}, ltVs n xs → ltVs m xs
  | [], _ => trivial
  | x :: xs, q => by unfold ltVs at q ⊢; exact ⟨ltV.mono h q.1, ltVs.mono h q.2⟩
end
def Ob.lt (n : Nat) : Ob → Prop
  | .lst xs => ltVs n xs
  | .rol xs => ltVs n xs
  | .dct kvs => ltVs n (kvs.map (·.1)) ∧ ltVs n (kvs.map (·.2))
  | .fdc kvs => ltVs n (kvs.map (·.1)) ∧ ltVs n (kvs.map (·.2))
  | .set xs => ltVs n xs
  | .ins _ fs => ltVs n (fs.map (·.2))
theorem Ob.lt.mono {n m : Nat} (h : n ≤ m) {o : Ob} (q : o.lt n) : o.lt m := by
  cases o with
  | lst xs => exact ltVs.mono h q
  | rol xs => exact ltVs.mono h q
  | dct kvs => exact ⟨ltVs.mono h q.1, ltVs.mono h q.2⟩
  | fdc kvs => exact ⟨ltVs.mono h q.1, ltVs.mono h q.2⟩
  | set xs => exact ltVs.mono h q
  | ins c fs => exact ltVs.mono h q
def Ob.mt : Ob → Prop
  | .rol _ => False
  | _ => True
/-- nothing outside the store speaks of it: it is neither read-only nor locked -/
def Ob.un : Ob → Prop
  | .rol _ => False
  | .fdc _ => False
  | _ => True
theorem Ob.un.mt {o : Ob} (h : o.un) : o.mt := by cases o <;> first | trivial | exact h
/-- a call with keywords: of def f, n values by place, the names ks, perm: the parameters' order -/
structure Site where
  f : Nat
  n : Nat
  ks : List Str
  perm : List Nat
/-- fv: where the defs stand; w: the world, for hashes; kt: the calls with keywords -/
structure Glo where
  fv : Nat → Addr → Prop
  w : World
  kt : List Site
section
variable (K : PySem.W.Frag) (FV : Glo)
mutual
inductive VR (loc : Nat → Addr) (H : Hp) : Val → V → Prop
  | non : VR loc H .non .non
  | bl (b : Bool) : VR loc H (.bl b) (.bl b)
  | int (i : Int) : VR loc H (.int i) (.int i)
  | str (x : Tx) : VR loc H (.str x) (.str (stx x))
  | tup {a : Addr} {ys : List V} {xs : List Val} : SqT K H a ys → VRs loc H xs ys → VR loc H (.tup xs) (.ref a)
  | ref (i : Nat) : VR loc H (.ref i) (.ref (loc i))
  | fn {f : Nat} {a : Addr} : FV.fv f a → VR loc H (.fn f) (.ref a)
inductive VRs (loc : Nat → Addr) (H : Hp) : List Val → List V → Prop
  | nil : VRs loc H [] []
  | cons {x : Val} {y : V} {xs : List Val} {ys : List V} : VR loc H x y → VRs loc H xs ys → VRs loc H (x :: xs) (y :: ys)
end
variable {K FV}
theorem VRs.length {loc : Nat → Addr} {H : Hp} : ∀ {xs : List Val} {ys : List V}, VRs K FV loc H xs ys → xs.length = ys.length
  | _, _, .nil => rfl
  | _, _, .cons _ r => by simp [VRs.length r]
theorem VRs.zip {loc : Nat → Addr} {H : Hp} : ∀ {xs : List Val} {ys : List V}, VRs K FV loc H xs ys → ∀ p ∈ xs.zip ys, VR K FV loc H p.1 p.2
  | _, _, .nil => by simp
  | _, _, .cons h r => by
    intro p hp
    rw [List.zip_cons_cons] at hp
    rcases List.mem_cons.mp hp with e | hp
    · subst e; exact h
    · exact VRs.zip r p hp
theorem VRs.of_zip {loc : Nat → Addr} {H : Hp} : ∀ {xs : List Val} {ys : List V}, xs.length = ys.length → (∀ p ∈ xs.zip ys, VR K FV loc H p.1 p.2) → VRs K FV loc H xs ys
  | [], [], _, _ => .nil
  | x :: xs, y :: ys, h, q => .cons (q (x, y) (by simp)) (VRs.of_zip (by simpa using h) fun p hp => q p (by simp [hp]))
  | [], _ :: _, h, _ => by simp at h
  | _ :: _, [], h, _ => by simp at h
/-- what a value leans on -/
def Keeps (H H' : Hp) : Prop := ∀ a ys, SqT K H a ys → SqT K H' a ys
mutual
theorem VR.mono {loc loc' : Nat → Addr} {H H' : Hp} {n : Nat} (k : Keeps (K := K) H H') (hl : ∀ i, i < n → loc i = loc' i) : ∀ {v : Val} {w : V}, ltV n v → VR K FV loc H v w → VR K FV loc' H' v w
  | _, _, _, .non => .non
  | _, _, _, .bl b => .bl b
  | _, _, _, .int i => .int i
  | _, _, _, .str x => .str x
  | _, _, q, .tup s r => .tup (k _ _ s) (VRs.mono k hl (by unfold ltV at q; exact q) r)
  | .ref i, _, q, .ref _ => by
    have e := hl i (by unfold ltV at q; exact q)
    rw [e]; exact .ref i
  | _, _, _, .fn h => .fn h
theorem VRs.mono {loc loc' : Nat → Addr} {H H' : Hp} {n : Nat} (k : Keeps (K := K) H H') (hl : ∀ i, i < n → loc i = loc' i) : ∀ {v : List Val} {w : List V}, ltVs n v → VRs K FV loc H v w → VRs K FV loc' H' v w
  | _, _, _, .nil => .nil
  | _, _, q, .cons h r => by
    unfold ltVs at q
    exact .cons (VR.mono k hl q.1 h) (VRs.mono k hl q.2 r)
end
variable (K FV)
/-- a list that nobody may change -/
def RolL (K : PySem.W.Frag) (H : Hp) (a : Addr) (ys : List V) : Prop :=
  (∃ o, H a = some (.frz o (.lst ys))) ∨
    ∃ (o : Obj) (its : Array Value) (n : Nat), K.lookup a = some o ∧ o.cls = .type "list" ∧ o.dict = none ∧ o.data = .seq its n ∧ its.size ≤ sizeLine ∧ Vals ys its.toList
theorem RolL.sq {K : PySem.W.Frag} {H : Hp} {a : Addr} {ys : List V} (h : RolL K H a ys) : SqL K H a ys := by
  rcases h with h | h
  · exact .inl (.inr h)
  · exact .inr h
/-- the dict at a, entry by entry -/
def dctO (w : World) (a : Addr) (xs : List NE) : HO := .ext fun h => (a == sysModules) = false ∧ ∃ o es ep, h.get? a = some o ∧ o.ExactDict ∧ o.data = .dict es ep ∧ es.toList = xs.map (entN w)
/-- the set at a -/
def setO (w : World) (a : Addr) (ks : List Key) : HO := .ext fun h => SetG w h a ks
/-- an entry of a dict: the key, the value, as the store, the heap and the model have them -/
structure DE where
  nk : NestedKey
  k : Val
  kw : V
  ku : Value
  v : Val
  vw : V
  vu : Value
structure DE.Ok (t : DE) : Prop where
  key : keyV t.k = some t.nk
  dep : t.nk.depth ≤ 8
  rk : RelV t.kw t.ku
  rv : RelV t.vw t.vu
def DE.kv (t : DE) : Val × Val := (t.k, t.v)
def DE.ne (t : DE) : NE := (t.nk, t.ku, t.vu)
/-- an object of the store and what stands at its address -/
def OR (loc : Nat → Addr) (H : Hp) (a : Addr) : Ob → Prop
  | .lst xs => ∃ ys, H a = some (.lst ys) ∧ VRs K FV loc H xs ys
  | .rol xs => ∃ ys, RolL K H a ys ∧ VRs K FV loc H xs ys
  | .dct kvs => ∃ T : List DE, kvs = T.map DE.kv ∧ H a = some (dctO FV.w a (T.map DE.ne)) ∧ T.length ≤ sizeLine ∧ (T.map DE.nk).Nodup ∧ ∀ t ∈ T, t.Ok ∧ VR K FV loc H t.k t.kw ∧ VR K FV loc H t.v t.vw
  | .fdc kvs => ∃ (od : Obj) (T : List DE), kvs = T.map DE.kv ∧ H a = some (.frz od (dctO FV.w a (T.map DE.ne))) ∧ T.length ≤ sizeLine ∧ (T.map DE.nk).Nodup ∧ ∀ t ∈ T, t.Ok ∧ VR K FV loc H t.k t.kw ∧ VR K FV loc H t.v t.vw
  | .set xs => ∃ ks : List Key, xs = ks.map kVal ∧ H a = some (setO FV.w a ks)
  | .ins _ _ => False
/-- objects that stand still meanwhile, outside the store -/
abbrev Fm := List (Addr × HO)
structure CtxL (F : Fm) (loc : Nat → Addr) (S : Sto) (H : Hp) (P : List (Val × V)) : Prop where
  obs : ∀ i o, S[i]? = some o → OR K FV loc H (loc i) o
  lts : ∀ (i : Nat) (o : Ob), S[i]? = some o → o.lt S.length
  inj : ∀ (i j : Nat) (o o' : Ob), S[i]? = some o → S[j]? = some o' → o.mt → o'.mt → loc i = loc j → i = j
  vals : ∀ p ∈ P, VR K FV loc H p.1 p.2 ∧ ltV S.length p.1
  frm : ∀ p ∈ F, H p.1 = some p.2 ∧ ∀ (i : Nat) (o : Ob), S[i]? = some o → o.un → loc i ≠ p.1
  frn : F.Pairwise fun p q => p.1 = q.1 → ∃ o u, p.2 = .frz o u
def Ctx (F : Fm) (S : Sto) (H : Hp) (P : List (Val × V)) : Prop := ∃ loc, CtxL K FV F loc S H P
end
section
variable {K : PySem.W.Frag} {FV : Glo} {S : Sto} {H : Hp} {P P' : List (Val × V)} {F : Fm}
theorem Ctx.sub (c : Ctx K FV F S H P) (h : ∀ p ∈ P', p ∈ P) : Ctx K FV F S H P' := by
  obtain ⟨loc, c⟩ := c
  exact ⟨loc, c.obs, c.lts, c.inj, fun p hp => c.vals p (h p hp), c.frm, c.frn⟩
theorem Ctx.non (c : Ctx K FV F S H P) {w : V} (h : (Val.non, w) ∈ P) : w = .non := by
  obtain ⟨loc, c⟩ := c
  have := (c.vals _ h).1
  cases this; rfl
theorem Ctx.bl (c : Ctx K FV F S H P) {b : Bool} {w : V} (h : (Val.bl b, w) ∈ P) : w = .bl b := by
  obtain ⟨loc, c⟩ := c
  have := (c.vals _ h).1
  cases this; rfl
theorem Ctx.int (c : Ctx K FV F S H P) {b : Int} {w : V} (h : (Val.int b, w) ∈ P) : w = .int b := by
  obtain ⟨loc, c⟩ := c
  have := (c.vals _ h).1
  cases this; rfl
theorem Ctx.str (c : Ctx K FV F S H P) {b : Tx} {w : V} (h : (Val.str b, w) ∈ P) : w = .str (stx b) := by
  obtain ⟨loc, c⟩ := c
  have := (c.vals _ h).1
  cases this; rfl
theorem Ctx.fn (c : Ctx K FV F S H P) {b : Nat} {w : V} (h : (Val.fn b, w) ∈ P) : ∃ a, w = .ref a ∧ FV.fv b a := by
  obtain ⟨loc, c⟩ := c
  have := (c.vals _ h).1
  cases this with | fn h' => exact ⟨_, rfl, h'⟩
theorem Ctx.tup (c : Ctx K FV F S H P) {xs : List Val} {w : V} (h : (Val.tup xs, w) ∈ P) : ∃ a ys, w = .ref a ∧ SqT K H a ys ∧ xs.length = ys.length ∧ Ctx K FV F S H (xs.zip ys ++ P) := by
  obtain ⟨loc, c⟩ := c
  obtain ⟨h1, h2⟩ := c.vals _ h
  cases h1 with
  | tup s r =>
    refine ⟨_, _, rfl, s, r.length, loc, c.obs, c.lts, c.inj, fun p hp => ?_, c.frm, c.frn⟩
    rcases List.mem_append.mp hp with hp | hp
    · refine ⟨r.zip p hp, ?_⟩
      have h3 : ltVs S.length xs := by unfold ltV at h2; exact h2
      exact ltVs_iff.mp h3 _ (List.of_mem_zip hp).1
    · exact c.vals p hp
theorem Ctx.lst (c : Ctx K FV F S H P) {i : Nat} {xs : List Val} {w : V} (h : (Val.ref i, w) ∈ P) (hs : S[i]? = some (.lst xs)) :
    ∃ a ys, w = .ref a ∧ H a = some (.lst ys) ∧ xs.length = ys.length ∧ Ctx K FV F S H (xs.zip ys ++ P) := by
  obtain ⟨loc, c⟩ := c
  obtain ⟨h1, h2⟩ := c.vals _ h
  cases h1
  obtain ⟨ys, h3, r⟩ := c.obs _ _ hs
  refine ⟨_, _, rfl, h3, r.length, loc, c.obs, c.lts, c.inj, fun p hp => ?_, c.frm, c.frn⟩
  rcases List.mem_append.mp hp with hp | hp
  · exact ⟨r.zip p hp, ltVs_iff.mp (c.lts _ _ hs) _ (List.of_mem_zip hp).1⟩
  · exact c.vals p hp
theorem Ctx.rol (c : Ctx K FV F S H P) {i : Nat} {xs : List Val} {w : V} (h : (Val.ref i, w) ∈ P) (hs : S[i]? = some (.rol xs)) :
    ∃ a ys, w = .ref a ∧ SqL K H a ys ∧ xs.length = ys.length ∧ Ctx K FV F S H (xs.zip ys ++ P) := by
  obtain ⟨loc, c⟩ := c
  obtain ⟨h1, h2⟩ := c.vals _ h
  cases h1
  obtain ⟨ys, h3, r⟩ := c.obs _ _ hs
  refine ⟨_, _, rfl, h3.sq, r.length, loc, c.obs, c.lts, c.inj, fun p hp => ?_, c.frm, c.frn⟩
  rcases List.mem_append.mp hp with hp | hp
  · exact ⟨r.zip p hp, ltVs_iff.mp (c.lts _ _ hs) _ (List.of_mem_zip hp).1⟩
  · exact c.vals p hp
/-- a dict's entries -/
def DE.held (t : DE) : List (Val × V) := [(t.k, t.kw), (t.v, t.vw)]
theorem Ctx.dct (c : Ctx K FV F S H P) {i : Nat} {kvs : List (Val × Val)} {w : V} (h : (Val.ref i, w) ∈ P) (hs : S[i]? = some (.dct kvs)) :
    ∃ (a : Addr) (T : List DE), w = .ref a ∧ kvs = T.map DE.kv ∧ H a = some (dctO FV.w a (T.map DE.ne)) ∧ T.length ≤ sizeLine ∧ (T.map DE.nk).Nodup ∧ (∀ t ∈ T, t.Ok) ∧ Ctx K FV F S H (T.flatMap DE.held ++ P) := by
  obtain ⟨loc, c⟩ := c
  obtain ⟨h1, h2⟩ := c.vals _ h
  cases h1
  obtain ⟨T, rfl, h3, h4, h5, r⟩ := c.obs _ _ hs
  refine ⟨_, T, rfl, rfl, h3, h4, h5, fun t ht => (r t ht).1, loc, c.obs, c.lts, c.inj, fun p hp => ?_, c.frm, c.frn⟩
  rcases List.mem_append.mp hp with hp | hp
  · obtain ⟨t, ht, hp⟩ := List.mem_flatMap.mp hp
    have hl := c.lts _ _ hs
    have hk : ltVs S.length ((T.map DE.kv).map (·.1)) ∧ ltVs S.length ((T.map DE.kv).map (·.2)) := hl
    unfold DE.held at hp
    simp only [List.mem_cons, List.not_mem_nil, or_false] at hp
    rcases hp with rfl | rfl
    · exact ⟨(r t ht).2.1, ltVs_iff.mp hk.1 _ (List.mem_map.mpr ⟨_, List.mem_map.mpr ⟨t, ht, rfl⟩, rfl⟩)⟩
    · exact ⟨(r t ht).2.2, ltVs_iff.mp hk.2 _ (List.mem_map.mpr ⟨_, List.mem_map.mpr ⟨t, ht, rfl⟩, rfl⟩)⟩
  · exact c.vals p hp
theorem Ctx.fdc (c : Ctx K FV F S H P) {i : Nat} {kvs : List (Val × Val)} {w : V} (h : (Val.ref i, w) ∈ P) (hs : S[i]? = some (.fdc kvs)) :
    ∃ (a : Addr) (od : Obj) (T : List DE), w = .ref a ∧ kvs = T.map DE.kv ∧ H a = some (.frz od (dctO FV.w a (T.map DE.ne))) ∧ T.length ≤ sizeLine ∧ (T.map DE.nk).Nodup ∧ (∀ t ∈ T, t.Ok) ∧ Ctx K FV F S H (T.flatMap DE.held ++ P) := by
  obtain ⟨loc, c⟩ := c
  obtain ⟨h1, h2⟩ := c.vals _ h
  cases h1
  obtain ⟨od, T, rfl, h3, h4, h5, r⟩ := c.obs _ _ hs
  refine ⟨_, od, T, rfl, rfl, h3, h4, h5, fun t ht => (r t ht).1, loc, c.obs, c.lts, c.inj, fun p hp => ?_, c.frm, c.frn⟩
  rcases List.mem_append.mp hp with hp | hp
  · obtain ⟨t, ht, hp⟩ := List.mem_flatMap.mp hp
    have hl := c.lts _ _ hs
    have hk : ltVs S.length ((T.map DE.kv).map (·.1)) ∧ ltVs S.length ((T.map DE.kv).map (·.2)) := hl
    unfold DE.held at hp
    simp only [List.mem_cons, List.not_mem_nil, or_false] at hp
    rcases hp with rfl | rfl
    · exact ⟨(r t ht).2.1, ltVs_iff.mp hk.1 _ (List.mem_map.mpr ⟨_, List.mem_map.mpr ⟨t, ht, rfl⟩, rfl⟩)⟩
    · exact ⟨(r t ht).2.2, ltVs_iff.mp hk.2 _ (List.mem_map.mpr ⟨_, List.mem_map.mpr ⟨t, ht, rfl⟩, rfl⟩)⟩
  · exact c.vals p hp
theorem Ctx.setC (c : Ctx K FV F S H P) {i : Nat} {xs : List Val} {w : V} (h : (Val.ref i, w) ∈ P) (hs : S[i]? = some (.set xs)) : ∃ (a : Addr) (ks : List Key), w = .ref a ∧ xs = ks.map kVal ∧ H a = some (setO FV.w a ks) := by
  obtain ⟨loc, c⟩ := c
  have h1 := (c.vals _ h).1
  cases h1
  obtain ⟨ks, e, h2⟩ := c.obs _ _ hs
  exact ⟨_, ks, rfl, e, h2⟩
theorem Ctx.lt (c : Ctx K FV F S H P) {p : Val × V} (h : p ∈ P) : ltV S.length p.1 := by
  obtain ⟨loc, c⟩ := c
  exact (c.vals p h).2
/-- a constant more -/
theorem Ctx.addNon (c : Ctx K FV F S H P) : Ctx K FV F S H ((.non, .non) :: P) := by
  obtain ⟨loc, c⟩ := c
  refine ⟨loc, c.obs, c.lts, c.inj, fun p hp => ?_, c.frm, c.frn⟩
  rcases List.mem_cons.mp hp with e | hp
  · subst e; exact ⟨.non, trivial⟩
  · exact c.vals p hp
theorem Ctx.addBl (c : Ctx K FV F S H P) (b : Bool) : Ctx K FV F S H ((.bl b, .bl b) :: P) := by
  obtain ⟨loc, c⟩ := c
  refine ⟨loc, c.obs, c.lts, c.inj, fun p hp => ?_, c.frm, c.frn⟩
  rcases List.mem_cons.mp hp with e | hp
  · subst e; exact ⟨.bl b, trivial⟩
  · exact c.vals p hp
theorem Ctx.addInt (c : Ctx K FV F S H P) (b : Int) : Ctx K FV F S H ((.int b, .int b) :: P) := by
  obtain ⟨loc, c⟩ := c
  refine ⟨loc, c.obs, c.lts, c.inj, fun p hp => ?_, c.frm, c.frn⟩
  rcases List.mem_cons.mp hp with e | hp
  · subst e; exact ⟨.int b, trivial⟩
  · exact c.vals p hp
theorem Ctx.addStr (c : Ctx K FV F S H P) (b : Tx) : Ctx K FV F S H ((.str b, .str (stx b)) :: P) := by
  obtain ⟨loc, c⟩ := c
  refine ⟨loc, c.obs, c.lts, c.inj, fun p hp => ?_, c.frm, c.frn⟩
  rcases List.mem_cons.mp hp with e | hp
  · subst e; exact ⟨.str b, trivial⟩
  · exact c.vals p hp
theorem Ctx.addFn (c : Ctx K FV F S H P) {f : Nat} {a : Addr} (h : FV.fv f a) : Ctx K FV F S H ((.fn f, .ref a) :: P) := by
  obtain ⟨loc, c⟩ := c
  refine ⟨loc, c.obs, c.lts, c.inj, fun p hp => ?_, c.frm, c.frn⟩
  rcases List.mem_cons.mp hp with e | hp
  · subst e; exact ⟨.fn h, trivial⟩
  · exact c.vals p hp
theorem SqT.upd_new {p : Addr} {o : HO} (hp : H p = none) : Keeps (K := K) H (upd H p o) := fun a ys h => by
  rcases h with h | h
  · rcases h with h | ⟨ob, h⟩
    · exact .inl (.inl (by rw [upd_ne (ne_of_none h hp)]; exact h))
    · exact .inl (.inr ⟨ob, by rw [upd_ne (ne_of_none h hp)]; exact h⟩)
  · exact .inr h
/-- what may be changed -/
def FreeO (u : HO) : Prop := (∀ xs, u ≠ .tup xs) ∧ (∀ o xs, u ≠ .frz o (.tup xs)) ∧ ∀ o xs, u ≠ .frz o (.lst xs)
theorem SqT.upd_mut {p : Addr} {u o : HO} (hp : H p = some u) (hu : FreeO u) : Keeps (K := K) H (upd H p o) := fun a ys h => by
  rcases h with h | h
  · rcases h with h | ⟨ob, h⟩
    · exact .inl (.inl (by rw [upd_ne (ne_of h hp (Ne.symm (hu.1 _)))]; exact h))
    · exact .inl (.inr ⟨ob, by rw [upd_ne (ne_of h hp (Ne.symm (hu.2.1 _ _)))]; exact h⟩)
  · exact .inr h
theorem RolL.upd_new {p a : Addr} {ys : List V} {o : HO} (hp : H p = none) (h : RolL K H a ys) : RolL K (upd H p o) a ys := by
  rcases h with ⟨ob, h⟩ | h
  · exact .inl ⟨ob, by rw [upd_ne (ne_of_none h hp)]; exact h⟩
  · exact .inr h
theorem RolL.upd_mut {p a : Addr} {ys : List V} {u o : HO} (hp : H p = some u) (hu : FreeO u) (h : RolL K H a ys) : RolL K (upd H p o) a ys := by
  rcases h with ⟨ob, h⟩ | h
  · exact .inl ⟨ob, by rw [upd_ne (ne_of h hp (Ne.symm (hu.2.2 _ _)))]; exact h⟩
  · exact .inr h
/-- behind a change that keeps what values lean on, and each object -/
theorem CtxL.keep {loc : Nat → Addr} {H' : Hp} (c : CtxL K FV F loc S H P) (k : Keeps (K := K) H H') (ho : ∀ i o, S[i]? = some o → OR K FV loc H (loc i) o → OR K FV loc H' (loc i) o) (hf : ∀ p ∈ F, H' p.1 = some p.2) : CtxL K FV F loc S H' P :=
  ⟨fun i o h => ho i o h (c.obs i o h), c.lts, c.inj, fun p hp => ⟨(c.vals p hp).1.mono k (fun _ _ => rfl) (c.vals p hp).2, (c.vals p hp).2⟩, fun p hp => ⟨hf p hp, (c.frm p hp).2⟩, c.frn⟩
theorem CtxL.frNew {loc : Nat → Addr} {p : Addr} {o : HO} (c : CtxL K FV F loc S H P) (hp : H p = none) : ∀ q ∈ F, upd H p o q.1 = some q.2 := fun q hq => by
  rw [upd_ne (ne_of_none (c.frm q hq).1 hp)]; exact (c.frm q hq).1
theorem lt_dct {n : Nat} {T : List DE} (h : (Ob.dct (T.map DE.kv)).lt n) : ∀ t ∈ T, ltV n t.k ∧ ltV n t.v := fun t ht => by
  have h1 : ltVs n ((T.map DE.kv).map (·.1)) ∧ ltVs n ((T.map DE.kv).map (·.2)) := h
  exact ⟨ltVs_iff.mp h1.1 _ (List.mem_map.mpr ⟨_, List.mem_map.mpr ⟨t, ht, rfl⟩, rfl⟩), ltVs_iff.mp h1.2 _ (List.mem_map.mpr ⟨_, List.mem_map.mpr ⟨t, ht, rfl⟩, rfl⟩)⟩
theorem dct_lt {n : Nat} {T : List DE} (h : ∀ t ∈ T, ltV n t.k ∧ ltV n t.v) : (Ob.dct (T.map DE.kv)).lt n := by
  refine ⟨ltVs_iff.mpr fun x hx => ?_, ltVs_iff.mpr fun x hx => ?_⟩
  · obtain ⟨p, hp, rfl⟩ := List.mem_map.mp hx
    obtain ⟨t, ht, rfl⟩ := List.mem_map.mp hp
    exact (h t ht).1
  · obtain ⟨p, hp, rfl⟩ := List.mem_map.mp hx
    obtain ⟨t, ht, rfl⟩ := List.mem_map.mp hp
    exact (h t ht).2
theorem dct_free {w : World} {a : Addr} {xs : List NE} : FreeO (dctO w a xs) := by
  unfold dctO
  exact ⟨(fun xs z => by cases z), (fun o v z => by cases z), (fun o v z => by cases z)⟩
theorem fdc_free {w : World} {od : Obj} {a : Addr} {xs : List NE} : FreeO (.frz od (dctO w a xs)) := by
  unfold dctO
  exact ⟨(fun xs z => by cases z), (fun o v z => by cases z), (fun o v z => by cases z)⟩
theorem set_free {w : World} {a : Addr} {ks : List Key} : FreeO (setO w a ks) := by
  unfold setO
  exact ⟨(fun xs z => by cases z), (fun o v z => by cases z), (fun o v z => by cases z)⟩
theorem lst_free {xs : List V} : FreeO (.lst xs) := ⟨(fun xs z => by cases z), (fun o v z => by cases z), (fun o v z => by cases z)⟩
theorem OR.upd_new {loc : Nat → Addr} {p : Addr} {a : Addr} {u : HO} {o : Ob} {n : Nat} (hp : H p = none) (hl : o.lt n) (h : OR K FV loc H a o) : OR K FV loc (upd H p u) a o := by
  cases o with
  | lst xs =>
    obtain ⟨ys, h1, r⟩ := h
    exact ⟨ys, by rw [upd_ne (ne_of_none h1 hp)]; exact h1, r.mono (SqT.upd_new hp) (fun _ _ => rfl) (hl : ltVs n xs)⟩
  | rol xs =>
    obtain ⟨ys, h1, r⟩ := h
    exact ⟨ys, h1.upd_new hp, r.mono (SqT.upd_new hp) (fun _ _ => rfl) (hl : ltVs n xs)⟩
  | dct kvs =>
    obtain ⟨T, rfl, h1, h2, h3, r⟩ := h
    exact ⟨T, rfl, by rw [upd_ne (ne_of_none h1 hp)]; exact h1, h2, h3, fun t ht => ⟨(r t ht).1, (r t ht).2.1.mono (SqT.upd_new hp) (fun _ _ => rfl) (lt_dct hl t ht).1, (r t ht).2.2.mono (SqT.upd_new hp) (fun _ _ => rfl) (lt_dct hl t ht).2⟩⟩
  | fdc kvs =>
    obtain ⟨od, T, rfl, h1, h2, h3, r⟩ := h
    exact ⟨od, T, rfl, by rw [upd_ne (ne_of_none h1 hp)]; exact h1, h2, h3, fun t ht => ⟨(r t ht).1, (r t ht).2.1.mono (SqT.upd_new hp) (fun _ _ => rfl) (lt_dct (show (Ob.dct (T.map DE.kv)).lt n from hl) t ht).1, (r t ht).2.2.mono (SqT.upd_new hp) (fun _ _ => rfl) (lt_dct (show (Ob.dct (T.map DE.kv)).lt n from hl) t ht).2⟩⟩
  | set xs =>
    obtain ⟨ks, q, h1⟩ := h
    exact ⟨ks, q, by rw [upd_ne (ne_of_none h1 hp)]; exact h1⟩
  | ins c fs => exact h
theorem OR.loc {loc loc' : Nat → Addr} {a : Addr} {o : Ob} {n : Nat} (hl : o.lt n) (e : ∀ i, i < n → loc i = loc' i) (h : OR K FV loc H a o) : OR K FV loc' H a o := by
  cases o with
  | lst xs =>
    obtain ⟨ys, h1, r⟩ := h
    exact ⟨ys, h1, r.mono (fun _ _ h => h) e (hl : ltVs n xs)⟩
  | rol xs =>
    obtain ⟨ys, h1, r⟩ := h
    exact ⟨ys, h1, r.mono (fun _ _ h => h) e (hl : ltVs n xs)⟩
  | dct kvs =>
    obtain ⟨T, rfl, h1, h2, h3, r⟩ := h
    exact ⟨T, rfl, h1, h2, h3, fun t ht => ⟨(r t ht).1, (r t ht).2.1.mono (fun _ _ h => h) e (lt_dct hl t ht).1, (r t ht).2.2.mono (fun _ _ h => h) e (lt_dct hl t ht).2⟩⟩
  | fdc kvs =>
    obtain ⟨od, T, rfl, h1, h2, h3, r⟩ := h
    exact ⟨od, T, rfl, h1, h2, h3, fun t ht => ⟨(r t ht).1, (r t ht).2.1.mono (fun _ _ h => h) e (lt_dct (show (Ob.dct (T.map DE.kv)).lt n from hl) t ht).1, (r t ht).2.2.mono (fun _ _ h => h) e (lt_dct (show (Ob.dct (T.map DE.kv)).lt n from hl) t ht).2⟩⟩
  | set xs => exact h
  | ins c fs => exact h
theorem OR.upd_mut {loc : Nat → Addr} {p : Addr} {a : Addr} {z u : HO} {o : Ob} {n : Nat} (hp : H p = some z) (hz : FreeO z) (ha : o.mt → a ≠ p) (hl : o.lt n) (h : OR K FV loc H a o) : OR K FV loc (upd H p u) a o := by
  cases o with
  | lst xs =>
    obtain ⟨ys, h1, r⟩ := h
    exact ⟨ys, by rw [upd_ne (ha trivial)]; exact h1, r.mono (SqT.upd_mut hp hz) (fun _ _ => rfl) (hl : ltVs n xs)⟩
  | rol xs =>
    obtain ⟨ys, h1, r⟩ := h
    exact ⟨ys, h1.upd_mut hp hz, r.mono (SqT.upd_mut hp hz) (fun _ _ => rfl) (hl : ltVs n xs)⟩
  | dct kvs =>
    obtain ⟨T, rfl, h1, h2, h3, r⟩ := h
    exact ⟨T, rfl, by rw [upd_ne (ha trivial)]; exact h1, h2, h3, fun t ht => ⟨(r t ht).1, (r t ht).2.1.mono (SqT.upd_mut hp hz) (fun _ _ => rfl) (lt_dct hl t ht).1, (r t ht).2.2.mono (SqT.upd_mut hp hz) (fun _ _ => rfl) (lt_dct hl t ht).2⟩⟩
  | fdc kvs =>
    obtain ⟨od, T, rfl, h1, h2, h3, r⟩ := h
    exact ⟨od, T, rfl, by rw [upd_ne (ha trivial)]; exact h1, h2, h3, fun t ht => ⟨(r t ht).1, (r t ht).2.1.mono (SqT.upd_mut hp hz) (fun _ _ => rfl) (lt_dct (show (Ob.dct (T.map DE.kv)).lt n from hl) t ht).1, (r t ht).2.2.mono (SqT.upd_mut hp hz) (fun _ _ => rfl) (lt_dct (show (Ob.dct (T.map DE.kv)).lt n from hl) t ht).2⟩⟩
  | set xs =>
    obtain ⟨ks, q, h1⟩ := h
    exact ⟨ks, q, by rw [upd_ne (ha trivial)]; exact h1⟩
  | ins c fs => exact h
theorem OR.some_ {loc : Nat → Addr} {a : Addr} {o : Ob} (m : o.mt) (h : OR K FV loc H a o) : ∃ u, H a = some u ∧ FreeO u := by
  cases o with
  | lst xs => obtain ⟨ys, h1, _⟩ := h; exact ⟨_, h1, lst_free⟩
  | rol xs => exact m.elim
  | dct kvs => obtain ⟨T, _, h1, _⟩ := h; exact ⟨_, h1, dct_free⟩
  | fdc kvs => obtain ⟨od, T, _, h1, _⟩ := h; exact ⟨_, h1, fdc_free⟩
  | set xs => obtain ⟨ks, _, h1⟩ := h; exact ⟨_, h1, set_free⟩
  | ins c fs => exact h.elim
theorem OR.there {loc : Nat → Addr} {a : Addr} {o : Ob} (m : o.mt) (h : OR K FV loc H a o) : H a ≠ none := by
  cases o with
  | lst xs => obtain ⟨ys, h1, _⟩ := h; rw [h1]; simp
  | rol xs => exact m.elim
  | dct kvs => obtain ⟨T, _, h1, _⟩ := h; rw [h1]; simp
  | fdc kvs => obtain ⟨od, T, _, h1, _⟩ := h; rw [h1]; simp
  | set xs => obtain ⟨ks, _, h1⟩ := h; rw [h1]; simp
  | ins c fs => exact h.elim
theorem zip_lt (c : ∀ p ∈ P, ltV S.length p.1) {xs : List Val} {ys : List V} (hl : xs.length = ys.length) (h : ∀ q ∈ xs.zip ys, q ∈ P) : ltVs S.length xs := by
  refine ltVs_iff.mpr fun x hx => ?_
  obtain ⟨i, hi, e⟩ := List.getElem_of_mem hx
  have : (xs[i], ys[i]'(by omega)) ∈ xs.zip ys := by
    have hz : i < (xs.zip ys).length := by simp; omega
    have := List.getElem_mem hz
    simpa using this
  rw [← e]
  exact c _ (h _ this)
/-- a new tuple -/
theorem Ctx.newTup (c : Ctx K FV F S H P) {p : Addr} (hp : H p = none) {xs : List Val} {ys : List V} (hl : xs.length = ys.length) (h : ∀ q ∈ xs.zip ys, q ∈ P) : Ctx K FV F S (upd H p (.tup ys)) ((.tup xs, .ref p) :: P) := by
  obtain ⟨loc, c⟩ := c
  have c' : CtxL K FV F loc S (upd H p (.tup ys)) P := c.keep (SqT.upd_new hp) (fun i o hi ho => ho.upd_new hp (c.lts i o hi)) (c.frNew hp)
  refine ⟨loc, c'.obs, c'.lts, c'.inj, fun q hq => ?_, c'.frm, c'.frn⟩
  rcases List.mem_cons.mp hq with e | hq
  · subst e
    refine ⟨.tup (.inl (.inl upd_same)) (VRs.of_zip hl fun q hq => (c'.vals q (h q hq)).1), ?_⟩
    show ltV _ (.tup xs)
    unfold ltV
    exact zip_lt (fun p hp => (c.vals p hp).2) hl h
  · exact c'.vals q hq
/-- a new object -/
theorem Ctx.newOb (c : Ctx K FV F S H P) {p : Addr} (hp : H p = none) {o1 : Ob} {u : HO} (lx : o1.lt S.length) (ho : ∀ loc, (∀ q ∈ P, VR K FV loc (upd H p u) q.1 q.2) → OR K FV loc (upd H p u) p o1) :
    Ctx K FV F (S ++ [o1]) (upd H p u) ((.ref S.length, .ref p) :: P) := by
  obtain ⟨loc, c⟩ := c
  have c' : CtxL K FV F loc S (upd H p u) P := c.keep (SqT.upd_new hp) (fun i o hi ho => ho.upd_new hp (c.lts i o hi)) (c.frNew hp)
  obtain ⟨loc', el, ep⟩ : ∃ loc' : Nat → Addr, (∀ i, i < S.length → loc i = loc' i) ∧ loc' S.length = p := ⟨fun i => if i = S.length then p else loc i, fun i hi => by simp [Nat.ne_of_lt hi], by simp⟩
  have split : ∀ i o, (S ++ [o1])[i]? = some o → (i < S.length ∧ S[i]? = some o) ∨ (i = S.length ∧ o = o1) := fun i o h => by
    by_cases hi : i < S.length
    · rw [List.getElem?_append_left hi] at h; exact .inl ⟨hi, h⟩
    · rw [List.getElem?_append_right (by omega)] at h
      have h0 : i - S.length = 0 := by
        have := (List.getElem?_eq_some_iff.mp h).1
        simp at this; omega
      rw [h0] at h
      simp at h
      exact .inr ⟨by omega, h.symm⟩
  refine ⟨loc', fun i o hi => ?_, fun i o hi => ?_, fun i j o o' hi hj hm hm' e => ?_, fun q hq => ?_, fun q hq => ⟨(c'.frm q hq).1, fun i o hi hm e => ?_⟩, c.frn⟩
  · rcases split i o hi with ⟨hlt, hi⟩ | ⟨rfl, rfl⟩
    · rw [← el i hlt]
      exact (c'.obs i o hi).loc (c.lts i o hi) el
    · rw [ep]
      exact (ho loc fun q hq => (c'.vals q hq).1).loc lx el
  · have hn : S.length ≤ (S ++ [o1]).length := by simp
    rcases split i o hi with ⟨hlt, hi⟩ | ⟨rfl, rfl⟩
    · exact (c.lts i o hi).mono hn
    · exact lx.mono hn
  · have key : ∀ i o, S[i]? = some o → i < S.length → o.mt → loc' i ≠ p := fun i o hi hlt hm e => by
      rw [← el i hlt] at e
      exact (c.obs i o hi).there hm (by rw [e]; exact hp)
    rcases split i o hi with ⟨hlt, hi2⟩ | ⟨ei, eo⟩ <;> rcases split j o' hj with ⟨hlt', hj2⟩ | ⟨ej, eo'⟩
    · rw [← el i hlt, ← el j hlt'] at e
      exact c.inj i j o o' hi2 hj2 hm hm' e
    · rw [ej] at e; exact absurd (e.trans ep) (key i o hi2 hlt hm)
    · rw [ei] at e; exact absurd (e.symm.trans ep) (key j o' hj2 hlt' hm')
    · exact ei.trans ej.symm
  · have hn : S.length ≤ (S ++ [o1]).length := by simp
    rcases List.mem_cons.mp hq with e | hq
    · subst e
      refine ⟨?_, ?_⟩
      have := VR.ref (K := K) (FV := FV) (loc := loc') (H := upd H p u) S.length
      rw [ep] at this
      exact this
      · show ltV _ (.ref S.length)
        unfold ltV; simp
    · exact ⟨VR.mono (fun _ _ h => h) el (c.vals q hq).2 (c'.vals q hq).1, (c.vals q hq).2.mono hn⟩
  · rcases split i o hi with ⟨hlt, hi⟩ | ⟨rfl, rfl⟩
    · rw [← el i hlt] at e
      exact (c.frm q hq).2 i o hi hm e
    · rw [ep] at e
      exact ne_of_none (c.frm q hq).1 hp e.symm
/-- a new list -/
theorem Ctx.newLst (c : Ctx K FV F S H P) {p : Addr} (hp : H p = none) {xs : List Val} {ys : List V} (hl : xs.length = ys.length) (h : ∀ q ∈ xs.zip ys, q ∈ P) :
    Ctx K FV F (S ++ [.lst xs]) (upd H p (.lst ys)) ((.ref S.length, .ref p) :: P) :=
  c.newOb (o1 := .lst xs) hp (zip_lt (fun p hp => by obtain ⟨loc, c⟩ := c; exact (c.vals p hp).2) hl h) fun loc hv => ⟨ys, upd_same, VRs.of_zip hl fun q hq => hv q (h q hq)⟩
/-- an object changed -/
theorem Ctx.setObF (c : Ctx K FV F S H P) {i : Nat} {a : Addr} (hr : (Val.ref i, V.ref a) ∈ P) {o0 o1 : Ob} (hs : S[i]? = some o0) (hm0 : o0.mt) (hF : ∀ q ∈ F, q.1 ≠ a) {u : HO} (lx : o1.lt S.length) (hor : ∀ loc, (∀ q ∈ P, VR K FV loc (upd H a u) q.1 q.2) → OR K FV loc (upd H a u) a o1) :
    Ctx K FV F (S.set i o1) (upd H a u) P := by
  obtain ⟨loc, c⟩ := c
  have ea : a = loc i := by
    have := (c.vals _ hr).1
    cases this; rfl
  subst ea
  obtain ⟨z0, h1, hz⟩ := (c.obs _ _ hs).some_ hm0
  have hi : i < S.length := (List.getElem?_eq_some_iff.mp hs).1
  have kp : Keeps (K := K) H (upd H (loc i) u) := SqT.upd_mut h1 hz
  have split : ∀ j o, (S.set i o1)[j]? = some o → (j ≠ i ∧ S[j]? = some o) ∨ (j = i ∧ o = o1) := fun j o hj => by
    by_cases e : j = i
    · subst e
      rw [List.getElem?_set_self hi] at hj
      exact .inr ⟨rfl, (Option.some.inj hj).symm⟩
    · rw [List.getElem?_set_ne (Ne.symm e)] at hj
      exact .inl ⟨e, hj⟩
  have vals : ∀ p ∈ P, VR K FV loc (upd H (loc i) u) p.1 p.2 ∧ ltV S.length p.1 := fun p hp => ⟨(c.vals p hp).1.mono kp (fun _ _ => rfl) (c.vals p hp).2, (c.vals p hp).2⟩
  refine ⟨loc, fun j o hj => ?_, fun j o hj => ?_, fun j k o o' hj hk hm hm' e => ?_, fun p hp => ?_, fun q hq => ⟨?_, fun j o hj hm => ?_⟩, c.frn⟩
  · rcases split j o hj with ⟨ne, hj⟩ | ⟨rfl, rfl⟩
    · exact (c.obs j o hj).upd_mut h1 hz (fun hm e => ne (c.inj j i o _ hj hs hm hm0 e)) (c.lts j o hj)
    · exact hor loc fun q hq => (vals q hq).1
  · rw [List.length_set]
    rcases split j o hj with ⟨ne, hj⟩ | ⟨rfl, rfl⟩
    · exact c.lts j o hj
    · exact lx
  · rcases split j o hj with ⟨ne, hj2⟩ | ⟨ej, eo⟩ <;> rcases split k o' hk with ⟨ne', hk2⟩ | ⟨ek, eo'⟩
    · exact c.inj j k o o' hj2 hk2 hm hm' e
    · exact absurd (c.inj j i o _ hj2 hs hm hm0 (by rw [e, ek])) ne
    · exact absurd (c.inj k i o' _ hk2 hs hm' hm0 (by rw [← e, ej])) ne'
    · exact ej.trans ek.symm
  · rw [List.length_set]; exact vals p hp
  · rw [upd_ne (hF q hq)]; exact (c.frm q hq).1
  · rcases split j o hj with ⟨ne, hj2⟩ | ⟨ej, eo⟩
    · exact (c.frm q hq).2 j o hj2 hm
    · rw [ej]; exact fun e => hF q hq e.symm
theorem Ctx.setOb (c : Ctx K FV F S H P) {i : Nat} {a : Addr} (hr : (Val.ref i, V.ref a) ∈ P) {o0 o1 : Ob} (hs : S[i]? = some o0) (hm0 : o0.un) {u : HO} (lx : o1.lt S.length) (hor : ∀ loc, (∀ q ∈ P, VR K FV loc (upd H a u) q.1 q.2) → OR K FV loc (upd H a u) a o1) :
    Ctx K FV F (S.set i o1) (upd H a u) P :=
  c.setObF hr hs hm0.mt (by
    obtain ⟨loc, c⟩ := c
    have ea : a = loc i := by
      have := (c.vals _ hr).1
      cases this; rfl
    subst ea
    exact fun q hq e => (c.frm q hq).2 i _ hs hm0 e.symm) lx hor
/-- where an object outside the store stands, no object of the store stands -/
theorem CtxL.apart {loc : Nat → Addr} {p : Addr} {u : HO} (c : CtxL K FV ((p, u) :: F) loc S H P) (nf : ∀ o x, u ≠ .frz o x) {i : Nat} {o : Ob} (h : S[i]? = some o) (m : o.mt) : loc i ≠ p := by
  cases o with
  | fdc kvs =>
    intro e
    obtain ⟨od, T, _, h1, _⟩ := c.obs _ _ h
    have h2 := (c.frm _ List.mem_cons_self).1
    rw [e, h2] at h1
    exact nf _ _ (Option.some.inj h1)
  | rol xs => exact m.elim
  | _ => exact (c.frm _ List.mem_cons_self).2 i _ h trivial
theorem CtxL.others {loc : Nat → Addr} {p : Addr} {u : HO} (c : CtxL K FV ((p, u) :: F) loc S H P) (nf : ∀ o x, u ≠ .frz o x) : ∀ q ∈ F, q.1 ≠ p := fun q hq e => by
  have := c.frn
  rw [List.pairwise_cons] at this
  obtain ⟨o, x, e2⟩ := this.1 q hq e.symm
  exact nf _ _ e2
theorem ltV_key {n : Nat} : ∀ k : Key, ltV n (kVal k)
  | .inl _ => trivial
  | .inr _ => trivial
theorem ltVs_keys {n : Nat} (ks : List Key) : ltVs n (ks.map kVal) := ltVs_iff.mpr fun x hx => by
  obtain ⟨k, _, rfl⟩ := List.mem_map.mp hx
  exact ltV_key k
/-- a new set -/
theorem Ctx.newSet (c : Ctx K FV F S H P) {p : Addr} (hp : H p = none) (ks : List Key) : Ctx K FV F (S ++ [.set (ks.map kVal)]) (upd H p (setO FV.w p ks)) ((.ref S.length, .ref p) :: P) :=
  c.newOb (o1 := .set (ks.map kVal)) hp (show ltVs S.length (ks.map kVal) from ltVs_keys ks) fun loc hv => ⟨ks, rfl, upd_same⟩
/-- a list changed -/
theorem Ctx.setLst (c : Ctx K FV F S H P) {i : Nat} {a : Addr} (hr : (Val.ref i, V.ref a) ∈ P) {us : List Val} (hs : S[i]? = some (.lst us)) {xs : List Val} {ys : List V} (hl : xs.length = ys.length) (h : ∀ q ∈ xs.zip ys, q ∈ P) :
    Ctx K FV F (S.set i (.lst xs)) (upd H a (.lst ys)) P :=
  c.setOb (o1 := .lst xs) hr hs trivial (zip_lt (fun p hp => by obtain ⟨loc, c⟩ := c; exact (c.vals p hp).2) hl h) fun loc hv => ⟨ys, upd_same, VRs.of_zip hl fun q hq => hv q (h q hq)⟩
theorem dct_held {T : List DE} (h : ∀ t ∈ T, ∀ p ∈ t.held, p ∈ P) (hv : ∀ q ∈ P, ltV S.length q.1) : (Ob.dct (T.map DE.kv)).lt S.length :=
  dct_lt fun t ht => ⟨hv _ (h t ht _ List.mem_cons_self), hv _ (h t ht _ (List.mem_cons_of_mem _ List.mem_cons_self))⟩
theorem Ctx.newDct (c : Ctx K FV F S H P) {p : Addr} (hp : H p = none) {T : List DE} (hl : T.length ≤ sizeLine) (hn : (T.map DE.nk).Nodup) (ho : ∀ t ∈ T, t.Ok) (h : ∀ t ∈ T, ∀ q ∈ t.held, q ∈ P) :
    Ctx K FV F (S ++ [.dct (T.map DE.kv)]) (upd H p (dctO FV.w p (T.map DE.ne))) ((.ref S.length, .ref p) :: P) :=
  c.newOb (o1 := .dct (T.map DE.kv)) hp (dct_held h fun q hq => c.lt hq) fun loc hv => ⟨T, rfl, upd_same, hl, hn, fun t ht => ⟨ho t ht, hv _ (h t ht _ List.mem_cons_self), hv _ (h t ht _ (List.mem_cons_of_mem _ List.mem_cons_self))⟩⟩
theorem Ctx.setDct (c : Ctx K FV F S H P) {i : Nat} {a : Addr} (hr : (Val.ref i, V.ref a) ∈ P) {us : List (Val × Val)} (hs : S[i]? = some (.dct us)) {T : List DE} (hl : T.length ≤ sizeLine) (hn : (T.map DE.nk).Nodup) (ho : ∀ t ∈ T, t.Ok) (h : ∀ t ∈ T, ∀ q ∈ t.held, q ∈ P) :
    Ctx K FV F (S.set i (.dct (T.map DE.kv))) (upd H a (dctO FV.w a (T.map DE.ne))) P :=
  c.setOb (o1 := .dct (T.map DE.kv)) hr hs trivial (dct_held h fun q hq => c.lt hq) fun loc hv => ⟨T, rfl, upd_same, hl, hn, fun t ht => ⟨ho t ht, hv _ (h t ht _ List.mem_cons_self), hv _ (h t ht _ (List.mem_cons_of_mem _ List.mem_cons_self))⟩⟩
/-- a new object outside the store -/
theorem Ctx.frameNew (c : Ctx K FV F S H P) {p : Addr} {o : HO} (hp : H p = none) : Ctx K FV ((p, o) :: F) S (upd H p o) P := by
  obtain ⟨loc, c⟩ := c
  have c' : CtxL K FV F loc S (upd H p o) P := c.keep (SqT.upd_new hp) (fun i o hi ho => ho.upd_new hp (c.lts i o hi)) (c.frNew hp)
  refine ⟨loc, c'.obs, c'.lts, c'.inj, c'.vals, fun q hq => ?_, ?_⟩
  · rcases List.mem_cons.mp hq with rfl | hq
    · exact ⟨upd_same, fun i o hi hm e => (c.obs i o hi).there hm.mt (by rw [e]; exact hp)⟩
    · exact c'.frm q hq
  · rw [List.pairwise_cons]
    exact ⟨fun q hq e => absurd e.symm (ne_of_none (c.frm q hq).1 hp), c.frn⟩
/-- it is forgotten -/
theorem Ctx.frameDrop {p : Addr × HO} (c : Ctx K FV (p :: F) S H P) : Ctx K FV F S H P := by
  obtain ⟨loc, c⟩ := c
  refine ⟨loc, c.obs, c.lts, c.inj, c.vals, fun q hq => c.frm q (List.mem_cons_of_mem _ hq), ?_⟩
  have := c.frn
  rw [List.pairwise_cons] at this
  exact this.2
theorem Ctx.frameDropL : ∀ {fr : Fm} (c : Ctx K FV (fr ++ F) S H P), Ctx K FV F S H P
  | [], c => c
  | _ :: _, c => Ctx.frameDropL c.frameDrop
theorem Ctx.frameSub {F' : Fm} (h : F'.Sublist F) (c : Ctx K FV F S H P) : Ctx K FV F' S H P := by
  obtain ⟨loc, c⟩ := c
  exact ⟨loc, c.obs, c.lts, c.inj, c.vals, fun q hq => c.frm q (h.subset hq), c.frn.sublist h⟩
theorem Ctx.frameMove {fr : Fm} {q : Addr × HO} (c : Ctx K FV (fr ++ q :: F) S H P) : Ctx K FV (q :: (fr ++ F)) S H P := by
  obtain ⟨loc, c⟩ := c
  refine ⟨loc, c.obs, c.lts, c.inj, c.vals, fun z hz => c.frm z ?_, ?_⟩
  · rcases List.mem_cons.mp hz with rfl | hz
    · exact List.mem_append_right _ List.mem_cons_self
    · rcases List.mem_append.mp hz with hz | hz
      · exact List.mem_append_left _ hz
      · exact List.mem_append_right _ (List.mem_cons_of_mem _ hz)
  · have h := c.frn
    have hs := List.pairwise_append.mp h
    rw [List.pairwise_cons]
    refine ⟨fun z hz e => ?_, h.sublist (List.Sublist.append_left (List.sublist_cons_self _ _) _)⟩
    rcases List.mem_append.mp hz with hz | hz
    · obtain ⟨o, u, e2⟩ := hs.2.2 z hz q List.mem_cons_self e.symm
      have h1 := (c.frm z (List.mem_append_left _ hz)).1
      have h2 := (c.frm q (List.mem_append_right _ List.mem_cons_self)).1
      rw [e, h1] at h2
      exact ⟨o, u, by rw [← Option.some.inj h2]; exact e2⟩
    · exact (List.pairwise_cons.mp hs.2.1).1 z hz e
theorem Ctx.frameGet {p : Addr} {o : HO} (c : Ctx K FV ((p, o) :: F) S H P) : H p = some o := by
  obtain ⟨loc, c⟩ := c
  exact (c.frm _ List.mem_cons_self).1
/-- an object outside the store is changed -/
theorem Ctx.frameSet {p : Addr} {z u : HO} (hz : FreeO z) (nf : ∀ o x, z ≠ .frz o x) (c : Ctx K FV ((p, z) :: F) S H P) : Ctx K FV ((p, u) :: F) S (upd H p u) P := by
  obtain ⟨loc, c⟩ := c
  have hp := (c.frm _ List.mem_cons_self).1
  have hn := c.frn
  have hot := c.others nf
  rw [List.pairwise_cons] at hn
  refine ⟨loc, fun i o hi => (c.obs i o hi).upd_mut hp hz (fun hm e => c.apart nf hi hm e) (c.lts i o hi), c.lts, c.inj, fun q hq => ⟨(c.vals q hq).1.mono (SqT.upd_mut hp hz) (fun _ _ => rfl) (c.vals q hq).2, (c.vals q hq).2⟩, fun q hq => ?_, ?_⟩
  · rcases List.mem_cons.mp hq with rfl | hq
    · exact ⟨upd_same, (c.frm _ List.mem_cons_self).2⟩
    · refine ⟨?_, (c.frm q (List.mem_cons_of_mem _ hq)).2⟩
      rw [upd_ne (hot q hq)]
      exact (c.frm q (List.mem_cons_of_mem _ hq)).1
  · rw [List.pairwise_cons]; exact ⟨fun q hq e => absurd e.symm (hot q hq), hn.2⟩
/-- it comes into the store -/
theorem Ctx.frameInO {p : Addr} {o1 : Ob} {u : HO} (c : Ctx K FV ((p, u) :: F) S H P) (nf : ∀ o x, u ≠ .frz o x) (lx : o1.lt S.length) (ho : ∀ loc, (∀ q ∈ P, VR K FV loc H q.1 q.2) → H p = some u → OR K FV loc H p o1) : Ctx K FV F (S ++ [o1]) H ((.ref S.length, .ref p) :: P) := by
  obtain ⟨loc, c⟩ := c
  obtain ⟨hp, _⟩ := c.frm _ List.mem_cons_self
  have hpl : ∀ i o, S[i]? = some o → o.mt → loc i ≠ p := fun i o h m => c.apart nf h m
  have hot := c.others nf
  have hn' := c.frn
  rw [List.pairwise_cons] at hn'
  obtain ⟨loc', el, ep⟩ : ∃ loc' : Nat → Addr, (∀ i, i < S.length → loc i = loc' i) ∧ loc' S.length = p := ⟨fun i => if i = S.length then p else loc i, fun i hi => by simp [Nat.ne_of_lt hi], by simp⟩
  have split : ∀ i o, (S ++ [o1])[i]? = some o → (i < S.length ∧ S[i]? = some o) ∨ (i = S.length ∧ o = o1) := fun i o h => by
    by_cases hi : i < S.length
    · rw [List.getElem?_append_left hi] at h; exact .inl ⟨hi, h⟩
    · rw [List.getElem?_append_right (by omega)] at h
      have h0 : i - S.length = 0 := by
        have := (List.getElem?_eq_some_iff.mp h).1
        simp at this; omega
      rw [h0] at h
      simp at h
      exact .inr ⟨by omega, h.symm⟩
  have hn : S.length ≤ (S ++ [o1]).length := by simp
  refine ⟨loc', fun i o hi => ?_, fun i o hi => ?_, fun i j o o' hi hj hm hm' e => ?_, fun q hq => ?_, fun q hq => ⟨(c.frm q (List.mem_cons_of_mem _ hq)).1, fun i o hi hm e => ?_⟩, hn'.2⟩
  · rcases split i o hi with ⟨hlt, hi⟩ | ⟨rfl, rfl⟩
    · rw [← el i hlt]
      exact (c.obs i o hi).loc (c.lts i o hi) el
    · rw [ep]
      exact (ho loc (fun q hq => (c.vals q hq).1) hp).loc lx el
  · rcases split i o hi with ⟨hlt, hi⟩ | ⟨rfl, rfl⟩
    · exact (c.lts i o hi).mono hn
    · exact lx.mono hn
  · rcases split i o hi with ⟨hlt, hi2⟩ | ⟨ei, eo⟩ <;> rcases split j o' hj with ⟨hlt', hj2⟩ | ⟨ej, eo'⟩
    · rw [← el i hlt, ← el j hlt'] at e
      exact c.inj i j o o' hi2 hj2 hm hm' e
    · rw [ej, ep, ← el i hlt] at e
      exact absurd e (hpl i o hi2 hm)
    · rw [ei, ep, ← el j hlt'] at e
      exact absurd e.symm (hpl j o' hj2 hm')
    · exact ei.trans ej.symm
  · rcases List.mem_cons.mp hq with e | hq
    · subst e
      refine ⟨?_, ?_⟩
      · have := VR.ref (K := K) (FV := FV) (loc := loc') (H := H) S.length
        rw [ep] at this
        exact this
      · show ltV _ (.ref S.length)
        unfold ltV; simp
    · exact ⟨VR.mono (fun _ _ h => h) el (c.vals q hq).2 (c.vals q hq).1, (c.vals q hq).2.mono hn⟩
  · rcases split i o hi with ⟨hlt, hi⟩ | ⟨rfl, rfl⟩
    · rw [← el i hlt] at e
      exact (c.frm q (List.mem_cons_of_mem _ hq)).2 i o hi hm e
    · rw [ep] at e
      exact hot q hq e.symm
/-- an object of the store is watched by the frame: it is locked -/
theorem Ctx.frameLock (c : Ctx K FV F S H P) {i : Nat} {a : Addr} (hr : (Val.ref i, V.ref a) ∈ P) {kvs : List (Val × Val)} (hs : S[i]? = some (.fdc kvs)) {od : Obj} {u : HO} (h : H a = some (.frz od u)) : Ctx K FV ((a, .frz od u) :: F) S H P := by
  obtain ⟨loc, c⟩ := c
  have ea : a = loc i := by
    have := (c.vals _ hr).1
    cases this; rfl
  subst ea
  refine ⟨loc, c.obs, c.lts, c.inj, c.vals, fun q hq => ?_, ?_⟩
  · rcases List.mem_cons.mp hq with rfl | hq
    · refine ⟨h, fun j o hj hu e => ?_⟩
      have := c.inj j i o _ hj hs hu.mt trivial e
      subst this
      rw [hs] at hj
      cases hj
      exact hu
    · exact c.frm q hq
  · rw [List.pairwise_cons]
    exact ⟨fun q hq e => ⟨od, u, rfl⟩, c.frn⟩
theorem Ctx.frameNot (c : Ctx K FV F S H P) {i : Nat} {a : Addr} (hr : (Val.ref i, V.ref a) ∈ P) {o : Ob} (hs : S[i]? = some o) (hu : o.un) : ∀ q ∈ F, q.1 ≠ a := by
  obtain ⟨loc, c⟩ := c
  have ea : a = loc i := by
    have := (c.vals _ hr).1
    cases this; rfl
  subst ea
  exact fun q hq e => (c.frm q hq).2 i _ hs hu e.symm
/-- a dict is locked, and free again -/
theorem Ctx.lockD (c : Ctx K FV F S H P) {i : Nat} {a : Addr} (hr : (Val.ref i, V.ref a) ∈ P) {T : List DE} (hs : S[i]? = some (.dct (T.map DE.kv))) (hl : T.length ≤ sizeLine) (hn : (T.map DE.nk).Nodup) (ho : ∀ t ∈ T, t.Ok) (h : ∀ t ∈ T, ∀ q ∈ t.held, q ∈ P) (od : Obj) :
    Ctx K FV F (S.set i (.fdc (T.map DE.kv))) (upd H a (.frz od (dctO FV.w a (T.map DE.ne)))) P :=
  c.setOb (o1 := .fdc (T.map DE.kv)) hr hs trivial (show (Ob.dct (T.map DE.kv)).lt S.length from dct_held h fun q hq => c.lt hq) fun loc hv => ⟨od, T, rfl, upd_same, hl, hn, fun t ht => ⟨ho t ht, hv _ (h t ht _ List.mem_cons_self), hv _ (h t ht _ (List.mem_cons_of_mem _ List.mem_cons_self))⟩⟩
theorem Ctx.freeD (c : Ctx K FV F S H P) {i : Nat} {a : Addr} (hr : (Val.ref i, V.ref a) ∈ P) (hF : ∀ q ∈ F, q.1 ≠ a) {T : List DE} (hs : S[i]? = some (.fdc (T.map DE.kv))) (hl : T.length ≤ sizeLine) (hn : (T.map DE.nk).Nodup) (ho : ∀ t ∈ T, t.Ok) (h : ∀ t ∈ T, ∀ q ∈ t.held, q ∈ P) :
    Ctx K FV F (S.set i (.dct (T.map DE.kv))) (upd H a (dctO FV.w a (T.map DE.ne))) P :=
  c.setObF (o1 := .dct (T.map DE.kv)) hr hs trivial hF (dct_held h fun q hq => c.lt hq) fun loc hv => ⟨T, rfl, upd_same, hl, hn, fun t ht => ⟨ho t ht, hv _ (h t ht _ List.mem_cons_self), hv _ (h t ht _ (List.mem_cons_of_mem _ List.mem_cons_self))⟩⟩
theorem dct_nf {w : World} {a : Addr} {xs : List NE} : ∀ o x, dctO w a xs ≠ .frz o x := fun o x e => by unfold dctO at e; cases e
theorem Ctx.frameInD {p : Addr} {xs : List NE} (c : Ctx K FV ((p, dctO FV.w p xs) :: F) S H P) {T : List DE} (e : xs = T.map DE.ne) (hl : T.length ≤ sizeLine) (hn : (T.map DE.nk).Nodup) (ho : ∀ t ∈ T, t.Ok) (h : ∀ t ∈ T, ∀ q ∈ t.held, q ∈ P) : Ctx K FV F (S ++ [.dct (T.map DE.kv)]) H ((.ref S.length, .ref p) :: P) := by
  subst e
  exact c.frameInO (o1 := .dct (T.map DE.kv)) dct_nf (dct_held h fun q hq => c.lt hq) fun loc hv hp => ⟨T, rfl, hp, hl, hn, fun t ht => ⟨ho t ht, hv _ (h t ht _ List.mem_cons_self), hv _ (h t ht _ (List.mem_cons_of_mem _ List.mem_cons_self))⟩⟩
theorem Ctx.frameIn {p : Addr} {xs : List Val} {ys : List V} (c : Ctx K FV ((p, .lst ys) :: F) S H P) (hl : xs.length = ys.length) (h : ∀ q ∈ xs.zip ys, q ∈ P) : Ctx K FV F (S ++ [.lst xs]) H ((.ref S.length, .ref p) :: P) :=
  c.frameInO (o1 := .lst xs) (fun _ _ e => nomatch e) (zip_lt (fun p hp => by obtain ⟨loc, c⟩ := c; exact (c.vals p hp).2) hl h) fun loc hv hp => ⟨ys, hp, VRs.of_zip hl fun q hq => hv q (h q hq)⟩
end
end MP
set_option linter.all false
set_option Elab.async false
set_option maxHeartbeats 1000000
namespace MP
open PySem L2
/-! ### what a call leaves: what the answer does not hold is forgotten, the rest gets the next numbers -/
mutual
def refsV : Val → List Nat
  | .tup xs => refsVs xs
  | .ref i => [i]
  | _ => []
def refsVs : List Val → List Nat
  | [] => []
  | x :: xs => refsV x ++ refsVs xs
end
def refsO : Ob → List Nat
  | .lst xs => refsVs xs
  | .rol xs => refsVs xs
  | .dct kvs => refsVs (kvs.map (·.1)) ++ refsVs (kvs.map (·.2))
  | .fdc kvs => refsVs (kvs.map (·.1)) ++ refsVs (kvs.map (·.2))
  | .set xs => refsVs xs
  | .ins _ fs => refsVs (fs.map (·.2))
mutual
def renV (f : Nat → Nat) : Val → Val
  | .tup xs => .tup (renVs f xs)
  | .ref i => .ref (f i)
  | .non => .non
  | .bl b => .bl b
  | .int i => .int i
  | .str x => .str x
  | .fn g => .fn g
def renVs (f : Nat → Nat) : List Val → List Val
  | [] => []
  | x :: xs => renV f x :: renVs f xs
end
def renO (f : Nat → Nat) : Ob → Ob
  | .lst xs => .lst (renVs f xs)
  | .rol xs => .rol (renVs f xs)
  | .dct kvs => .dct (kvs.map fun p => (renV f p.1, renV f p.2))
  | .fdc kvs => .fdc (kvs.map fun p => (renV f p.1, renV f p.2))
  | .set xs => .set (renVs f xs)
  | .ins c fs => .ins c (fs.map fun p => (p.1, renV f p.2))
def reach (S : Sto) (n : Nat) : Nat → List Nat → List Nat → List Nat
  | 0, _, acc => acc
  | _ + 1, [], acc => acc
  | k + 1, i :: todo, acc => if i < n ∨ i ∈ acc then reach S n k todo acc else match S[i]? with
    | some o => reach S n k (todo ++ refsO o) (acc ++ [i])
    | none => reach S n k todo acc
def numOf (n : Nat) (R : List Nat) (i : Nat) : Nat := if i < n then i else n + R.idxOf i
structure GcOk (S S' : Sto) (v : Val) (R : List Nat) : Prop where
  le : S.length ≤ S'.length
  old : ∀ (i : Nat) (o : Ob), S[i]? = some o → ∃ o', S'[i]? = some o' ∧ (o' = o ∨ ∀ r ∈ refsO o', r < S.length)
  new : ∀ i ∈ R, S.length ≤ i ∧ ∃ o, S'[i]? = some o ∧ o.mt ∧ ∀ r ∈ refsO o, r < S.length ∨ r ∈ R
  val : ∀ r ∈ refsV v, r < S.length ∨ r ∈ R
  nd : R.Nodup
def gcS (S S' : Sto) (R : List Nat) : Sto := S'.take S.length ++ R.map fun i => renO (numOf S.length R) (S'[i]?.getD default)
open Classical in
noncomputable def gcM (S : Sto) : Res Val → Res Val
  | .ok v S' => if GcOk S S' v (reach S' S.length 100000 (refsV v) []) then .ok (renV (numOf S.length (reach S' S.length 100000 (refsV v) [])) v) (gcS S S' (reach S' S.length 100000 (refsV v) [])) else .ok v S'
  | .exc c v S' => .exc c v S'
  | .bad => .bad
mutual
theorem ltV_refs {n : Nat} : ∀ {v : Val}, ltV n v ↔ ∀ r ∈ refsV v, r < n
  | .tup xs => by unfold ltV refsV; exact ltVs_refs
  | .ref i => by unfold ltV refsV; simp
  | .non => by unfold ltV refsV; simp
  | .bl _ => by unfold ltV refsV; simp
  | .int _ => by unfold ltV refsV; simp
  | .str _ => by unfold ltV refsV; simp
  | .fn _ => by unfold ltV refsV; simp
theorem ltVs_refs {n : Nat} : ∀ {xs : List Val}, ltVs n xs ↔ ∀ r ∈ refsVs xs, r < n
  | [] => by unfold ltVs refsVs; simp
  | x :: xs => by
    unfold ltVs refsVs
    rw [ltV_refs, ltVs_refs]
    simp only [List.mem_append]
    exact ⟨fun h r hr => hr.elim (h.1 r) (h.2 r), fun h => ⟨fun r hr => h r (.inl hr), fun r hr => h r (.inr hr)⟩⟩
end
theorem lt_refs {n : Nat} {o : Ob} : o.lt n ↔ ∀ r ∈ refsO o, r < n := by
  cases o with
  | lst xs => exact ltVs_refs
  | rol xs => exact ltVs_refs
  | dct kvs =>
    show ltVs n _ ∧ ltVs n _ ↔ _
    rw [ltVs_refs, ltVs_refs]
    unfold refsO
    simp only [List.mem_append]
    exact ⟨fun h r hr => hr.elim (h.1 r) (h.2 r), fun h => ⟨fun r hr => h r (.inl hr), fun r hr => h r (.inr hr)⟩⟩
  | fdc kvs =>
    show ltVs n _ ∧ ltVs n _ ↔ _
    rw [ltVs_refs, ltVs_refs]
    unfold refsO
    simp only [List.mem_append]
    exact ⟨fun h r hr => hr.elim (h.1 r) (h.2 r), fun h => ⟨fun r hr => h r (.inl hr), fun r hr => h r (.inr hr)⟩⟩
  | set xs => exact ltVs_refs
  | ins c fs => exact ltVs_refs
mutual
theorem refs_ren {f : Nat → Nat} : ∀ {v : Val}, refsV (renV f v) = (refsV v).map f
  | .tup xs => by unfold renV refsV; exact refss_ren
  | .ref i => by unfold renV refsV; simp
  | .non => by unfold renV refsV; simp
  | .bl _ => by unfold renV refsV; simp
  | .int _ => by unfold renV refsV; simp
  | .str _ => by unfold renV refsV; simp
  | .fn _ => by unfold renV refsV; simp
theorem refss_ren {f : Nat → Nat} : ∀ {xs : List Val}, refsVs (renVs f xs) = (refsVs xs).map f
  | [] => by unfold renVs refsVs; simp
  | x :: xs => by
    unfold renVs refsVs
    rw [refs_ren, refss_ren, List.map_append]
end
theorem refs_mem {r : Nat} : ∀ {xs : List Val} {x : Val}, r ∈ refsV x → x ∈ xs → r ∈ refsVs xs
  | y :: ys, x, h, hx => by
    unfold refsVs
    rcases List.mem_cons.mp hx with rfl | hx
    · exact List.mem_append_left _ h
    · exact List.mem_append_right _ (refs_mem h hx)
theorem renVs_map (f : Nat → Nat) : ∀ xs : List Val, renVs f xs = xs.map (renV f)
  | [] => rfl
  | x :: xs => by unfold renVs; rw [renVs_map f xs]; rfl
theorem refsO_ren {f : Nat → Nat} {o : Ob} : refsO (renO f o) = (refsO o).map f := by
  cases o with
  | lst xs => exact refss_ren
  | rol xs => exact refss_ren
  | dct kvs =>
    show refsVs ((kvs.map fun p => (renV f p.1, renV f p.2)).map (·.1)) ++ refsVs ((kvs.map fun p => (renV f p.1, renV f p.2)).map (·.2)) = (refsVs (kvs.map (·.1)) ++ refsVs (kvs.map (·.2))).map f
    rw [List.map_append, ← refss_ren, ← refss_ren, renVs_map, renVs_map, List.map_map, List.map_map, List.map_map, List.map_map]
    rfl
  | fdc kvs =>
    show refsVs ((kvs.map fun p => (renV f p.1, renV f p.2)).map (·.1)) ++ refsVs ((kvs.map fun p => (renV f p.1, renV f p.2)).map (·.2)) = (refsVs (kvs.map (·.1)) ++ refsVs (kvs.map (·.2))).map f
    rw [List.map_append, ← refss_ren, ← refss_ren, renVs_map, renVs_map, List.map_map, List.map_map, List.map_map, List.map_map]
    rfl
  | set xs => exact refss_ren
  | ins c fs =>
    show refsVs ((fs.map fun p => (p.1, renV f p.2)).map (·.2)) = (refsVs (fs.map (·.2))).map f
    rw [← refss_ren, renVs_map, List.map_map, List.map_map]
    rfl
mutual
theorem ren_same {f : Nat → Nat} : ∀ {v : Val}, (∀ r ∈ refsV v, f r = r) → renV f v = v
  | .tup xs, h => by unfold renV; rw [rens_same (by unfold refsV at h; exact h)]
  | .ref i, h => by unfold renV; rw [h i (by unfold refsV; simp)]
  | .non, _ => rfl
  | .bl _, _ => rfl
  | .int _, _ => rfl
  | .str _, _ => rfl
  | .fn _, _ => rfl
theorem rens_same {f : Nat → Nat} : ∀ {xs : List Val}, (∀ r ∈ refsVs xs, f r = r) → renVs f xs = xs
  | [], _ => rfl
  | x :: xs, h => by
    unfold renVs
    unfold refsVs at h
    rw [ren_same fun r hr => h r (List.mem_append_left _ hr), rens_same fun r hr => h r (List.mem_append_right _ hr)]
end
section
variable {K : PySem.W.Frag} {FV : Glo}
mutual
theorem VR.ren {loc loc' : Nat → Addr} {H : Hp} {f : Nat → Nat} : ∀ {v : Val} {w : V}, (∀ r ∈ refsV v, loc' (f r) = loc r) → VR K FV loc H v w → VR K FV loc' H (renV f v) w
  | _, _, _, .non => .non
  | _, _, _, .bl b => .bl b
  | _, _, _, .int i => .int i
  | _, _, _, .str x => .str x
  | _, _, h, .tup s r => by unfold renV; exact .tup s (VRs.ren (by unfold refsV at h; exact h) r)
  | .ref i, _, h, .ref _ => by
    unfold renV
    rw [← h i (by unfold refsV; simp)]
    exact .ref _
  | _, _, _, .fn h => .fn h
theorem VRs.ren {loc loc' : Nat → Addr} {H : Hp} {f : Nat → Nat} : ∀ {v : List Val} {w : List V}, (∀ r ∈ refsVs v, loc' (f r) = loc r) → VRs K FV loc H v w → VRs K FV loc' H (renVs f v) w
  | _, _, _, .nil => .nil
  | _, _, h, .cons a r => by
    unfold renVs
    unfold refsVs at h
    exact .cons (VR.ren (fun r hr => h r (List.mem_append_left _ hr)) a) (VRs.ren (fun r hr => h r (List.mem_append_right _ hr)) r)
end
mutual
theorem key_refs : ∀ {k : Val} {h : NestedKey}, keyV k = some h → refsV k = []
  | .int _, _, _ => rfl
  | .str _, _, _ => rfl
  | .non, _, _ => rfl
  | .bl _, _, _ => rfl
  | .tup xs, _, q => by
    unfold keyV at q
    obtain ⟨hs, h1, _⟩ := Option.map_eq_some_iff.mp q
    unfold refsV
    exact keys_refs h1
  | .ref _, _, q => by simp [keyV] at q
  | .fn _, _, q => by simp [keyV] at q
theorem keys_refs : ∀ {ks : List Val} {hs : List NestedKey}, keyVs ks = some hs → refsVs ks = []
  | [], _, _ => rfl
  | x :: xs, _, q => by
    unfold keyVs at q
    split at q
    · rename_i h1 h2
      unfold refsVs
      rw [key_refs h1, keys_refs h2]; rfl
    · cases q
end
theorem key_ren {f : Nat → Nat} {k : Val} {h : NestedKey} (q : keyV k = some h) : renV f k = k := ren_same fun r hr => by rw [key_refs q] at hr; cases hr
theorem OR.ren {loc loc' : Nat → Addr} {H : Hp} {f : Nat → Nat} {a : Addr} {o : Ob} (h : ∀ r ∈ refsO o, loc' (f r) = loc r) (q : OR K FV loc H a o) : OR K FV loc' H a (renO f o) := by
  cases o with
  | lst xs =>
    obtain ⟨ys, h1, r⟩ := q
    exact ⟨ys, h1, r.ren h⟩
  | rol xs =>
    obtain ⟨ys, h1, r⟩ := q
    exact ⟨ys, h1, r.ren h⟩
  | dct kvs =>
    obtain ⟨T, rfl, h1, h2, h3, r⟩ := q
    refine ⟨T.map fun t => { t with v := renV f t.v }, ?_, ?_, by simpa using h2, by simpa [Function.comp_def] using h3, fun t ht => ?_⟩
    · rw [List.map_map, List.map_map]
      apply List.map_congr_left
      intro t ht
      show (renV f t.k, renV f t.v) = (t.k, renV f t.v)
      rw [key_ren (r t ht).1.key]
    · rw [h1, List.map_map]; rfl
    · obtain ⟨u, hu, rfl⟩ := List.mem_map.mp ht
      obtain ⟨o, a, b⟩ := r u hu
      have e1 := VR.ren (f := f) (loc' := loc') (fun r hr => by rw [key_refs o.key] at hr; cases hr) a
      rw [key_ren o.key] at e1
      refine ⟨⟨o.key, o.dep, o.rk, o.rv⟩, e1, VR.ren (fun r hr => h r ?_) b⟩
      unfold refsO
      refine List.mem_append_right _ (refs_mem hr ?_)
      exact List.mem_map.mpr ⟨_, List.mem_map.mpr ⟨u, hu, rfl⟩, rfl⟩
  | fdc kvs =>
    obtain ⟨od, T, rfl, h1, h2, h3, r⟩ := q
    refine ⟨od, T.map fun t => { t with v := renV f t.v }, ?_, ?_, by simpa using h2, by simpa [Function.comp_def] using h3, fun t ht => ?_⟩
    · rw [List.map_map, List.map_map]
      apply List.map_congr_left
      intro t ht
      show (renV f t.k, renV f t.v) = (t.k, renV f t.v)
      rw [key_ren (r t ht).1.key]
    · rw [h1, List.map_map]; rfl
    · obtain ⟨u, hu, rfl⟩ := List.mem_map.mp ht
      obtain ⟨o, a, b⟩ := r u hu
      have e1 := VR.ren (f := f) (loc' := loc') (fun r hr => by rw [key_refs o.key] at hr; cases hr) a
      rw [key_ren o.key] at e1
      refine ⟨⟨o.key, o.dep, o.rk, o.rv⟩, e1, VR.ren (fun r hr => h r ?_) b⟩
      unfold refsO
      refine List.mem_append_right _ (refs_mem hr ?_)
      exact List.mem_map.mpr ⟨_, List.mem_map.mpr ⟨u, hu, rfl⟩, rfl⟩
  | set xs =>
    obtain ⟨ks, rfl, h1⟩ := q
    exact ⟨ks, by rw [renVs_map, List.map_map]; exact List.map_congr_left fun k _ => by cases k <;> rfl, h1⟩
  | ins c fs => exact q
theorem renO_mt {f : Nat → Nat} {o : Ob} : (renO f o).mt ↔ o.mt := by cases o <;> exact Iff.rfl
theorem Ctx.lts {F : Fm} {S : Sto} {H : Hp} {P : List (Val × V)} (c : Ctx K FV F S H P) : ∀ (i : Nat) (o : Ob), S[i]? = some o → o.lt S.length := by
  obtain ⟨loc, c⟩ := c
  exact c.lts
/-- THE SWEEP is sound -/
theorem Ctx.gc {F : Fm} {S S' : Sto} {H : Hp} {P : List (Val × V)} {v : Val} {w : V} {R : List Nat} (c : Ctx K FV F S' H ((v, w) :: P)) (hlt : ∀ (i : Nat) (o : Ob), S[i]? = some o → o.lt S.length) (hP : ∀ p ∈ P, ltV S.length p.1) (g : GcOk S S' v R) :
    Ctx K FV F (gcS S S' R) H ((renV (numOf S.length R) v, w) :: P) := by
  obtain ⟨loc, c⟩ := c
  let n := S.length
  let num := numOf n R
  obtain ⟨loc', hl1, hl2⟩ : ∃ loc' : Nat → Addr, (∀ i, i < n → loc' i = loc i) ∧ ∀ i, loc' (n + i) = loc (R.getD i 0) :=
    ⟨fun i => if i < n then loc i else loc (R.getD (i - n) 0), fun i hi => by simp [hi], fun i => by
      show (if n + i < n then loc (n + i) else loc (R.getD (n + i - n) 0)) = _
      rw [if_neg (by omega), Nat.add_sub_cancel_left]⟩
  have hnum : ∀ r, r < n ∨ r ∈ R → loc' (num r) = loc r := fun r hr => by
    show loc' (numOf n R r) = loc r
    unfold numOf
    by_cases hn : r < n
    · rw [if_pos hn]; exact hl1 r hn
    · rw [if_neg hn, hl2]
      have hm : r ∈ R := hr.resolve_left hn
      have hi := List.idxOf_lt_length_of_mem hm
      congr 1
      rw [List.getD_eq_getElem?_getD, List.getElem?_eq_getElem hi]
      simp
  have numlt : ∀ r, r < n ∨ r ∈ R → num r < n + R.length := fun r hr => by
    show numOf n R r < _
    unfold numOf
    by_cases hn : r < n
    · rw [if_pos hn]; omega
    · rw [if_neg hn]
      have := List.idxOf_lt_length_of_mem (hr.resolve_left hn)
      omega
  have hlen : (gcS S S' R).length = n + R.length := by
    have := g.le
    simp [gcS, n]
    omega
  have htk : ∀ i, i < n → (S'.take n)[i]? = S'[i]? := fun i hi => by rw [List.getElem?_take]; simp [hi]
  have tlen : (S'.take n).length = n := by have := g.le; simp [n]; omega
  have split : ∀ i o, (gcS S S' R)[i]? = some o → (i < n ∧ S'[i]? = some o ∧ ∀ r ∈ refsO o, r < n) ∨ ∃ j oj, i = n + j ∧ j < R.length ∧ S'[R.getD j 0]? = some oj ∧ oj.mt ∧ (∀ r ∈ refsO oj, r < n ∨ r ∈ R) ∧ o = renO num oj := fun i o h => by
    unfold gcS at h
    by_cases hi : i < n
    · left
      rw [List.getElem?_append_left (by rw [tlen]; exact hi), htk i hi] at h
      refine ⟨hi, h, ?_⟩
      have hs : i < S.length := hi
      obtain ⟨o', h1, h2⟩ := g.old i _ (List.getElem?_eq_getElem hs)
      rw [h] at h1
      cases h1
      rcases h2 with rfl | h2
      · exact lt_refs.mp (hlt i _ (List.getElem?_eq_getElem hs))
      · exact h2
    · right
      rw [List.getElem?_append_right (by rw [tlen]; omega), tlen, List.getElem?_map] at h
      obtain ⟨r, hr, rfl⟩ := Option.map_eq_some_iff.mp h
      obtain ⟨hj, er⟩ := List.getElem?_eq_some_iff.mp hr
      have hm : r ∈ R := by rw [← er]; exact List.getElem_mem hj
      obtain ⟨_, oj, h1, h2, h3⟩ := g.new r hm
      refine ⟨i - n, oj, by omega, hj, ?_, h2, h3, by rw [h1]; rfl⟩
      rw [List.getD_eq_getElem?_getD, List.getElem?_eq_getElem hj]
      simp [er, h1]
  refine ⟨loc', fun i o h => ?_, fun i o h => ?_, fun i j o o' h h' m m' e => ?_, fun p hp => ?_, fun p hp => ⟨(c.frm p hp).1, fun i o h m e => ?_⟩, c.frn⟩
  · rcases split i o h with ⟨hi, h1, h2⟩ | ⟨j, oj, rfl, hj, h1, _, h3, rfl⟩
    · rw [hl1 i hi]
      exact (c.obs i o h1).loc (lt_refs.mpr h2) fun k hk => (hl1 k hk).symm
    · rw [hl2]
      exact (c.obs _ oj h1).ren fun r hr => hnum r (h3 r hr)
  · rw [hlen]
    rcases split i o h with ⟨hi, h1, h2⟩ | ⟨j, oj, rfl, hj, h1, _, h3, rfl⟩
    · exact lt_refs.mpr fun r hr => Nat.lt_of_lt_of_le (h2 r hr) (Nat.le_add_right _ _)
    · rw [lt_refs, refsO_ren]
      intro r hr
      obtain ⟨q, hq, rfl⟩ := List.mem_map.mp hr
      exact numlt q (h3 q hq)
  · have getR : ∀ j, j < R.length → n ≤ R.getD j 0 := fun j hj => by
      have : R.getD j 0 ∈ R := by
        rw [List.getD_eq_getElem?_getD, List.getElem?_eq_getElem hj]
        exact List.getElem_mem hj
      exact (g.new _ this).1
    rcases split i o h with ⟨hi, h1, _⟩ | ⟨a, oa, rfl, ha, h1, ma, _, rfl⟩ <;> rcases split j o' h' with ⟨hj, h2, _⟩ | ⟨b, ob, rfl, hb, h2, mb, _, rfl⟩
    · rw [hl1 i hi, hl1 j hj] at e
      exact c.inj i j o o' h1 h2 m m' e
    · rw [hl1 i hi, hl2] at e
      have := c.inj i _ o ob h1 h2 m mb e
      have := getR b hb
      omega
    · rw [hl1 j hj, hl2] at e
      have := c.inj _ j oa o' h1 h2 ma m' e
      have := getR a ha
      omega
    · rw [hl2, hl2] at e
      have h3 := c.inj _ _ oa ob h1 h2 ma mb e
      rw [List.getD_eq_getElem?_getD, List.getD_eq_getElem?_getD, List.getElem?_eq_getElem ha, List.getElem?_eq_getElem hb] at h3
      have h4 : R[a] = R[b] := by simpa using h3
      rw [(List.getElem_inj g.nd).mp h4]
  · rw [hlen]
    rcases List.mem_cons.mp hp with rfl | hp
    · refine ⟨VR.ren (fun r hr => hnum r (g.val r hr)) (c.vals _ List.mem_cons_self).1, ?_⟩
      rw [ltV_refs, refs_ren]
      intro r hr
      obtain ⟨q, hq, rfl⟩ := List.mem_map.mp hr
      exact numlt q (g.val q hq)
    · exact ⟨VR.mono (fun _ _ h => h) (fun k hk => (hl1 k hk).symm) (hP p hp) (c.vals p (List.mem_cons_of_mem _ hp)).1, (hP p hp).mono (Nat.le_add_right _ _)⟩
  · rcases split i o h with ⟨hi, h1, _⟩ | ⟨a, oa, rfl, ha, h1, ma, _, rfl⟩
    · rw [hl1 i hi] at e
      exact (c.frm p hp).2 i o h1 m e
    · rw [hl2] at e
      exact (c.frm p hp).2 _ oa h1 (by cases oa <;> first | trivial | exact m) e
theorem Ctx.gcM {F : Fm} {S S' S'' : Sto} {H : Hp} {P : List (Val × V)} {v v' : Val} {w : V} (c : Ctx K FV F S' H ((v, w) :: P)) (hlt : ∀ (i : Nat) (o : Ob), S[i]? = some o → o.lt S.length) (hP : ∀ p ∈ P, ltV S.length p.1) (h : MP.gcM S (.ok v S') = .ok v' S'') :
    Ctx K FV F S'' H ((v', w) :: P) := by
  unfold MP.gcM at h
  simp only at h
  split at h
  · rename_i hg
    cases h
    exact c.gc hlt hP hg
  · cases h
    exact c
end
end MP
set_option linter.all false
set_option Elab.async false
set_option maxHeartbeats 2000000
set_option pp.deepTerms false
set_option pp.deepTerms.threshold 9
/-! what the values of the store are in the model: keys, data, == -/
namespace MP
open PySem L2 PySem.Spec PyProof.Rows
theorem stx_inj {a b : Tx} (h : stx a = stx b) : a = b := by
  have h1 : (stx a).cps.toList = (stx b).cps.toList := by rw [h]
  simpa [stx] using h1
def vOf : Value → Option V
  | .none => some .non
  | .bool b => some (.bl b)
  | .int i _ => some (.int i)
  | .str x _ => some (.str x)
  | .bytes b _ => some (.byt b)
  | .float b _ => some (.flt b)
  | .ref a => some (.ref a)
  | .type n => some (.ty n)
  | _ => none
theorem vOf_rel {w : V} {u : Value} (h : RelV w u) : vOf u = some w := by
  cases w with
  | non => cases h; rfl
  | bl b => cases h; rfl
  | int i => obtain ⟨t, rfl⟩ := h; rfl
  | str x => obtain ⟨t, rfl⟩ := h; rfl
  | byt b => obtain ⟨t, rfl⟩ := h; rfl
  | flt b => obtain ⟨t, rfl⟩ := h; rfl
  | ref a => cases h; rfl
  | ty n => cases h; rfl
theorem relv_inj {w w' : V} {u : Value} (h : RelV w u) (h' : RelV w' u) : w = w' := Option.some.inj ((vOf_rel h).symm.trans (vOf_rel h'))
section
variable {X : Cx} {FV : Glo} {pins : List (Addr × Obj)} {σ : L2.St} {H : Hp} {s : Shared} {F : Fm} {S : Sto} {P : List (Val × V)} {loc : Nat → Addr}
mutual
theorem vr_key (I : Inv X pins σ H s) : ∀ (v : Val) (w : V) (u : Value) (k : NestedKey), VR X.K FV loc H v w → RelV w u → keyV v = some k → NestedIs s.heap k u
  | .non, _, _, _, h, r, q => by cases h; cases r; cases q; exact .none
  | .bl b, _, _, _, h, r, q => by cases h; cases r; cases q; exact .bool rfl
  | .int i, _, _, _, h, r, q => by cases h; obtain ⟨t, rfl⟩ := r; cases q; exact .int i t
  | .str x, _, _, _, h, r, q => by cases h; obtain ⟨t, rfl⟩ := r; cases q; exact .text _ t
  | .tup xs, _, _, _, h, r, q => by
    cases h with
    | tup hs hv =>
      cases r
      unfold keyV at q
      obtain ⟨ks, hk, rfl⟩ := Option.map_eq_some_iff.mp q
      obtain ⟨its, rv, ⟨o, ho, hc, n, hd⟩, _⟩ := I.tuple hs
      exact .tup ho hc hd (vrs_key I xs _ its ks hv rv hk)
  | .ref _, _, _, _, _, _, q => by simp [keyV] at q
  | .fn _, _, _, _, _, _, q => by simp [keyV] at q
theorem vrs_key (I : Inv X pins σ H s) : ∀ (vs : List Val) (ws : List V) (us : List Value) (ks : List NestedKey), VRs X.K FV loc H vs ws → Vals ws us → keyVs vs = some ks → NestedAll s.heap ks us
  | [], _, _, _, h, r, q => by cases h; cases r; cases q; exact .nil
  | v :: vs, _, _, _, h, r, q => by
    cases h with
    | cons h1 h2 =>
      cases r with
      | cons r1 r2 =>
        unfold keyVs at q
        split at q
        · rename_i k1 k2
          cases q
          exact .cons (vr_key I v _ _ _ h1 r1 k1) (vrs_key I vs _ _ _ h2 r2 k2)
        · cases q
end
theorem keyD_some {v : Val} {k : NestedKey} (h : keyD v = some k) : keyV v = some k ∧ k.depth ≤ 8 := by
  unfold keyD at h
  split at h
  · rename_i k' hk
    split at h
    · cases h; exact ⟨hk, by assumption⟩
    · cases h
  · cases h
theorem keyIn_of (I : Inv X pins σ H s) (c : Ctx X.K FV F S H P) {v : Val} {w : V} {u : Value} {k : NestedKey} (h : (v, w) ∈ P) (r : RelV w u) (hk : keyD v = some k) : KeyIn s.heap k u := by
  obtain ⟨loc, c⟩ := c
  obtain ⟨h1, h2⟩ := keyD_some hk
  exact ⟨vr_key I v w u k (c.vals _ h).1 r h1, h2⟩
/-- what the heap has of a dict -/
theorem dct_there {xs : List NE} {a : Addr} {w : World} (I : Inv X pins σ H s) (h : H a = some (dctO w a xs) ∨ ∃ od, H a = some (.frz od (dctO w a xs))) : (a == sysModules) = false ∧ ∃ o es ep, s.heap.get? a = some o ∧ o.ExactDict ∧ o.data = .dict es ep ∧ es.toList = xs.map (entN w) := by
  rcases h with h | ⟨od, h⟩
  · exact (I.hok a _ h).1
  · exact (I.hok a _ h).2.1
theorem dctN_of (I : Inv X pins σ H s) (hw : FV.w = X.w) {T : List DE} {a : Addr} (h : H a = some (dctO FV.w a (T.map DE.ne)) ∨ ∃ od, H a = some (.frz od (dctO FV.w a (T.map DE.ne)))) (hn : (T.map DE.nk).Nodup) (ho : ∀ t ∈ T, t.Ok)
    (c : Ctx X.K FV F S H P) (hP : ∀ t ∈ T, ∀ q ∈ t.held, q ∈ P) : (a == sysModules) = false ∧ DictN X.w s.heap a (T.map DE.ne) := by
  obtain ⟨h1, h2⟩ := dct_there I h
  rw [hw] at h2
  refine ⟨h1, h2, fun x hx => ?_, ?_⟩
  · obtain ⟨t, ht, rfl⟩ := List.mem_map.mp hx
    obtain ⟨loc, c⟩ := c
    exact ⟨vr_key I t.k t.kw t.ku t.nk (c.vals _ (hP t ht _ List.mem_cons_self)).1 (ho t ht).rk (ho t ht).key, (ho t ht).dep⟩
  · rw [List.map_map]
    exact hn
theorem dct_new {w w2 : World} {a : Addr} {xs : List NE} {P' : Program} {H' : Hp} {h' : Heap} (hs : (a == sysModules) = false) (m : ∃ o es ep, h'.get? a = some o ∧ o.ExactDict ∧ o.data = .dict es ep ∧ es.toList = xs.map (entN w)) : ObjOk P' w2 H' h' a (dctO w a xs) := by
  obtain ⟨o, es, ep, h1, h2, h3, h4⟩ := id m
  exact ⟨⟨hs, m⟩, ⟨o, h1⟩, fun g g' q k => ⟨q.1, let ⟨o, es, ep, e1, e2⟩ := q.2; ⟨o, es, ep, k o e1, e2⟩⟩⟩
/-- the dict at a, written -/
theorem Inv.putD (I : Inv X pins σ H s) {a : Addr} {xs ys : List NE} {h' : Heap} (h : H a = some (dctO X.w a xs)) (hs : (a == sysModules) = false) (m : DictN X.w h' a ys) (sb : Heap.SameBut a s.heap h') (t : Nat) :
    Inv X pins σ (upd H a (dctO X.w a ys)) { s with heap := h', toks := t } := by
  obtain ⟨o, es, ep, h1, h2⟩ := m.ex
  exact I.write (by rw [h]; trivial) (.inl rfl) (fun b ob hb e => (sb.2 b hb).trans e) ⟨o, h1⟩ (dct_new hs m.ex)
/-! ### == -/
inductive KR (K : PySem.W.Frag) (FV : Glo) (loc : Nat → Addr) (H : Hp) : Kd → V → Prop
  | non : KR K FV loc H .non .non
  | bl (b : Bool) : KR K FV loc H (.num (if b then 1 else 0)) (.bl b)
  | int (i : Int) : KR K FV loc H (.num i) (.int i)
  | txt (x : Tx) : KR K FV loc H (.txt x) (.str (stx x))
  | lst {a : Addr} {xs : List Val} {ys : List V} : SqL K H a ys → VRs K FV loc H xs ys → KR K FV loc H (.lst xs) (.ref a)
  | tup {a : Addr} {xs : List Val} {ys : List V} : SqT K H a ys → VRs K FV loc H xs ys → KR K FV loc H (.tup xs) (.ref a)
theorem kr_of (c : CtxL X.K FV F loc S H P) {v : Val} {w : V} {k : Kd} (h : VR X.K FV loc H v w) (hk : kdV S v = some k) : KR X.K FV loc H k w := by
  cases h with
  | non => cases hk; exact .non
  | bl b => cases hk; exact .bl b
  | int i => cases hk; exact .int i
  | str x => cases hk; exact .txt x
  | tup hs hv => cases hk; exact .tup hs hv
  | ref i =>
    simp only [kdV] at hk
    split at hk
    · rename_i xs hs
      cases hk
      obtain ⟨ys, h1, r⟩ := c.obs _ _ hs
      exact .lst (SqL.of h1) r
    · rename_i xs hs
      cases hk
      obtain ⟨ys, h1, r⟩ := c.obs _ _ hs
      exact .lst h1.sq r
    · cases hk
  | fn _ => cases hk
theorem optAll_len {α β : Type} {f : α → Option β} : ∀ {xs : List α} {ys : List β}, optAll f xs = some ys → ys.length = xs.length
  | [], ys, h => by unfold optAll at h; cases h; rfl
  | x :: xs, ys, h => by
    unfold optAll at h
    split at h
    · rename_i h1 h2; cases h; simp [optAll_len h2]
    · cases h
theorem optAll_get {α β : Type} {f : α → Option β} : ∀ {xs : List α} {ys : List β}, optAll f xs = some ys → ∀ (j : Nat) (x : α) (y : β), xs[j]? = some x → ys[j]? = some y → f x = some y
  | [], ys, h, j, x, y, hx, _ => by simp at hx
  | z :: xs, ys, h, j, x, y, hx, hy => by
    unfold optAll at h
    split at h
    · rename_i b bs h1 h2
      cases h
      cases j with
      | zero => simp at hx hy; subst hx; subst hy; exact h1
      | succ j => exact optAll_get h2 j x y (by simpa using hx) (by simpa using hy)
    · cases h
theorem VRs.get {xs : List Val} {ys : List V} : ∀ {j : Nat} {x : Val} {y : V}, VRs X.K FV loc H xs ys → xs[j]? = some x → ys[j]? = some y → VR X.K FV loc H x y := fun {j x y} h hx hy =>
  h.zip (x, y) (List.mem_iff_getElem?.mpr ⟨j, by rw [List.getElem?_zip_eq_some]; exact ⟨hx, hy⟩⟩)
theorem beq_dec {α : Type} [BEq α] [LawfulBEq α] [DecidableEq α] (a b : α) : (a == b) = decide (a = b) := by
  by_cases h : a = b
  · subst h; simp
  · rw [decide_eq_false h]; exact beq_eq_false_iff_ne.mpr h
theorem stx_beq (a b : Tx) : (stx a == stx b) = decide (a = b) := by
  by_cases h : a = b
  · subst h; simp
  · rw [decide_eq_false h]
    cases q : (stx a == stx b) with
    | false => rfl
    | true => exact absurd (stx_inj (eq_of_beq q)) h
theorem all_range {bs : List Bool} {n : Nat} (h : bs.length = n) : (List.range n).all (fun j => bs.getD j true) = bs.all id := by
  subst h
  rw [Bool.eq_iff_iff, List.all_eq_true, List.all_eq_true]
  constructor
  · intro q b hb
    obtain ⟨j, hj, rfl⟩ := List.getElem_of_mem hb
    have := q j (List.mem_range.mpr hj)
    rw [List.getD_eq_getElem?_getD, List.getElem?_eq_getElem hj] at this
    simpa using this
  · intro q j hj
    have hl := List.mem_range.mp hj
    rw [List.getD_eq_getElem?_getD, List.getElem?_eq_getElem hl]
    simpa using q _ (List.getElem_mem hl)
/-- both readings of == -/
def EqB (A : Around) (s : Shared) (u u' : Value) (b : Bool) : Prop := SeqAt.RcAt A s u u' b ∧ SeqAt.EqAt A s u u' b ∧ SeqAt.RcNeAt A s u u' (!b)
theorem eqs_some {f : Val × Val → Option Bool} {xs ys : List Val} {b : Bool} (h : eqs f xs ys = some b) : ∃ bs, optAll f (xs.zip ys) = some bs ∧ b = (bs.all id && xs.length == ys.length) := by
  unfold eqs at h
  split at h
  · cases h; exact ⟨_, by assumption, rfl⟩
  · cases h
/-- of the very same value it is true -/
theorem eqd_same (I : Inv X pins σ H s) (c : CtxL X.K FV F loc S H P) : ∀ (n : Nat) (x y : Val) (w : V) (b : Bool), VR X.K FV loc H x w → VR X.K FV loc H y w → eqD n S x y = some b → b = true
  | 0, _, _, _, _, _, _, h => by simp [eqD] at h
  | n + 1, x, y, w, b, hx, hy, h => by
    have lists : ∀ {xs ys : List Val} {vs : List V}, VRs X.K FV loc H xs vs → VRs X.K FV loc H ys vs → eqs (fun p => eqD n S p.1 p.2) xs ys = some b → b = true := fun {xs ys vs} r r' q => by
      obtain ⟨bs, h1, rfl⟩ := eqs_some q
      have hl : xs.length = ys.length := r.length.trans r'.length.symm
      have hb := optAll_len h1
      rw [List.length_zip, hl, Nat.min_self] at hb
      simp only [hl, beq_self_eq_true, Bool.and_true, List.all_eq_true]
      intro z hz
      obtain ⟨j, hj, rfl⟩ := List.getElem_of_mem hz
      have l1 : j < xs.length := by omega
      have l2 : j < ys.length := by omega
      have l3 : j < vs.length := by rw [← r'.length]; exact l2
      refine eqd_same I c n xs[j] ys[j] vs[j] bs[j] (VRs.get r (List.getElem?_eq_getElem l1) (List.getElem?_eq_getElem l3)) (VRs.get r' (List.getElem?_eq_getElem l2) (List.getElem?_eq_getElem l3)) ?_
      exact optAll_get h1 j (xs[j], ys[j]) bs[j] (by rw [List.getElem?_zip_eq_some]; exact ⟨List.getElem?_eq_getElem l1, List.getElem?_eq_getElem l2⟩) (List.getElem?_eq_getElem hj)
    unfold eqD at h
    cases k1 : kdV S x with
    | none => rw [k1] at h; simp at h
    | some a1 =>
      cases k2 : kdV S y with
      | none => rw [k1, k2] at h; cases a1 <;> simp at h
      | some a2 =>
        rw [k1, k2] at h
        have r1 := kr_of c hx k1
        have r2 := kr_of c hy k2
        cases r1 with
        | non => cases r2; simp at h; exact h
        | bl b1 => cases r2; simp at h; exact h
        | int i => cases r2; simp at h; exact h
        | txt x1 =>
          generalize hq : V.str (stx x1) = q at r2
          cases r2 with
          | txt x2 =>
            have := stx_inj (V.str.inj hq)
            subst this
            simp at h; exact h
          | _ => cases hq
        | lst s1 v1 =>
          cases r2 with
          | lst s2 v2 => rw [I.list_inj s2 s1] at v2; exact lists v1 v2 h
          | tup s2 v2 =>
            obtain ⟨_, _, ⟨o1, _, e1, e2, _⟩, _⟩ := I.list s1
            obtain ⟨_, _, ⟨o2, e3, e4, _⟩, _⟩ := I.tuple s2
            rw [e1] at e3; cases e3; rw [e2] at e4; injection e4 with e5; exact absurd e5 (by decide)
        | tup s1 v1 =>
          cases r2 with
          | tup s2 v2 => rw [I.tuple_inj s2 s1] at v2; exact lists v1 v2 h
          | lst s2 v2 =>
            obtain ⟨_, _, ⟨o1, _, e1, e2, _⟩, _⟩ := I.list s2
            obtain ⟨_, _, ⟨o2, e3, e4, _⟩, _⟩ := I.tuple s1
            rw [e1] at e3; cases e3; rw [e2] at e4; injection e4 with e5; exact absurd e5 (by decide)
/-- == of two values -/
theorem eqd_run (I : Inv X pins σ H s) (c : CtxL X.K FV F loc S H P) : ∀ (n : Nat) (A : Around) (x y : Val) (w w' : V) (u u' : Value) (b : Bool), A.units + n < cLine → VR X.K FV loc H x w → VR X.K FV loc H y w' → RelV w u → RelV w' u' → eqD n S x y = some b → EqB A s u u' b
  | 0, _, _, _, _, _, _, _, _, _, _, _, _, _, h => by simp [eqD] at h
  | n + 1, A, x, y, w, w', u, u', b, hu0, hx, hy, r1, r2, h => by
    have hu : A.units < cLine := by omega
    have items : ∀ {xs ys : List Val} {vs vs' : List V} {its its' : List Value} {bs : List Bool}, VRs X.K FV loc H xs vs → VRs X.K FV loc H ys vs' → Vals vs its → Vals vs' its' → optAll (fun p => eqD n S p.1 p.2) (xs.zip ys) = some bs →
        ∀ j (h1 : j < its.toArray.size) (h2 : j < its'.toArray.size), SeqAt.EqAt A.in1 s its.toArray[j] its'.toArray[j] (bs.getD j true) := fun {xs ys vs vs' its its' bs} v1 v2 q1 q2 ho j h1 h2 => by
      have h1' : j < its.length := by simpa using h1
      have h2' : j < its'.length := by simpa using h2
      have l1 : j < vs.length := by rw [q1.length]; exact h1'
      have l2 : j < vs'.length := by rw [q2.length]; exact h2'
      have l3 : j < xs.length := by rw [v1.length]; exact l1
      have l4 : j < ys.length := by rw [v2.length]; exact l2
      have lb : j < bs.length := by rw [optAll_len ho, List.length_zip]; omega
      obtain ⟨z1, e1, q1'⟩ := q1.get (List.getElem?_eq_getElem l1)
      obtain ⟨z2, e2, q2'⟩ := q2.get (List.getElem?_eq_getElem l2)
      rw [List.getElem?_eq_getElem h1'] at e1
      rw [List.getElem?_eq_getElem h2'] at e2
      have hb := optAll_get ho j (xs[j], ys[j]) bs[j] (by rw [List.getElem?_zip_eq_some]; exact ⟨List.getElem?_eq_getElem l3, List.getElem?_eq_getElem l4⟩) (List.getElem?_eq_getElem lb)
      have := (eqd_run I c n A.in1 xs[j] ys[j] vs[j] vs'[j] z1 z2 bs[j] (by show A.units + 1 + n < cLine; omega) (VRs.get v1 (List.getElem?_eq_getElem l3) (List.getElem?_eq_getElem l1)) (VRs.get v2 (List.getElem?_eq_getElem l4) (List.getElem?_eq_getElem l2)) q1' q2' hb).2.1
      rw [List.getD_eq_getElem?_getD, List.getElem?_eq_getElem lb]
      simp only [List.getElem_toArray, Option.getD_some]
      rw [Option.some.inj e1, Option.some.inj e2]
      exact this
    have fin : ∀ {a a' : Addr} {b : Bool}, (SeqAt.RcAt A s (.ref a) (.ref a') b ∧ SeqAt.RcNeAt A s (.ref a) (.ref a') (!b)) → (a = a' → b = true) → EqB A s (.ref a) (.ref a') b := fun {a a' b} q e => by
      refine ⟨q.1, ?_, q.2⟩
      replace q := q.1
      by_cases z : a = a'
      · subst z
        rw [e rfl]
        exact .same _
      · exact .of_refs z q
    have h0 := h
    unfold eqD at h
    cases k1 : kdV S x with
    | none => rw [k1] at h; simp at h
    | some a1 =>
      cases k2 : kdV S y with
      | none => rw [k1, k2] at h; cases a1 <;> simp at h
      | some a2 =>
        rw [k1, k2] at h
        have g1 := kr_of c hx k1
        have g2 := kr_of c hy k2
        cases g1 with
        | non =>
          cases r1
          cases g2 with
          | non =>
            cases r2
            simp only [Option.some.injEq] at h
            subst h
            exact ⟨SeqAt.RcAt.none_none, SeqAt.EqAt.same _, SeqAt.RcNeAt.none_none⟩
          | bl b2 =>
            cases r2
            simp only [Option.some.injEq] at h
            subst h
            exact ⟨SeqAt.RcAt.none_bool _, SeqAt.EqAt.none_bool _, SeqAt.RcNeAt.none_bool _⟩
          | int i2 =>
            obtain ⟨t2, rfl⟩ := r2
            simp only [Option.some.injEq] at h
            subst h
            exact ⟨SeqAt.RcAt.none_int _ _, SeqAt.EqAt.none_int _ _, SeqAt.RcNeAt.none_int _ _⟩
          | txt x2 =>
            obtain ⟨t2, rfl⟩ := r2
            simp only [Option.some.injEq] at h
            subst h
            exact ⟨SeqAt.RcAt.none_str _ _, SeqAt.EqAt.none_str _ _, SeqAt.RcNeAt.none_str _ _⟩
          | lst s2 v2 =>
            cases r2
            obtain ⟨its2, rv2, hl2, _⟩ := I.list s2
            simp only [Option.some.injEq] at h
            subst h
            exact ⟨SeqAt.RcAt.none_list  hl2.isList hu, SeqAt.EqAt.none_list  hl2.isList hu, SeqAt.RcNeAt.none_list  hl2.isList hu⟩
          | tup s2 v2 =>
            cases r2
            obtain ⟨its2, rv2, ht2, _⟩ := I.tuple s2
            simp only [Option.some.injEq] at h
            subst h
            exact ⟨SeqAt.RcAt.none_tuple  ht2 hu, SeqAt.EqAt.none_tuple  ht2 hu, SeqAt.RcNeAt.none_tuple  ht2 hu⟩
        | bl b1 =>
          cases r1
          cases g2 with
          | non =>
            cases r2
            simp only [Option.some.injEq] at h
            subst h
            exact ⟨SeqAt.RcAt.bool_none _, SeqAt.EqAt.bool_none _, SeqAt.RcNeAt.bool_none _⟩
          | bl b2 =>
            cases r2
            simp only [Option.some.injEq] at h
            subst h
            have e : (b1 == b2) = decide ((if b1 = true then (1 : Int) else 0) = (if b2 = true then 1 else 0)) := by cases b1 <;> cases b2 <;> rfl
            rw [← e]
            exact ⟨SeqAt.RcAt.bool_bool _ _, SeqAt.EqAt.bool_bool _ _, SeqAt.RcNeAt.bool_bool _ _⟩
          | int i2 =>
            obtain ⟨t2, rfl⟩ := r2
            simp only [Option.some.injEq] at h
            subst h
            rw [← beq_dec]
            exact ⟨SeqAt.RcAt.bool_int _ _ _, SeqAt.EqAt.bool_int _ _ _, SeqAt.RcNeAt.bool_int _ _ _⟩
          | txt x2 =>
            obtain ⟨t2, rfl⟩ := r2
            simp only [Option.some.injEq] at h
            subst h
            exact ⟨SeqAt.RcAt.bool_str _ _ _, SeqAt.EqAt.bool_str _ _ _, SeqAt.RcNeAt.bool_str _ _ _⟩
          | lst s2 v2 =>
            cases r2
            obtain ⟨its2, rv2, hl2, _⟩ := I.list s2
            simp only [Option.some.injEq] at h
            subst h
            exact ⟨SeqAt.RcAt.bool_list _ hl2.isList hu, SeqAt.EqAt.bool_list _ hl2.isList hu, SeqAt.RcNeAt.bool_list _ hl2.isList hu⟩
          | tup s2 v2 =>
            cases r2
            obtain ⟨its2, rv2, ht2, _⟩ := I.tuple s2
            simp only [Option.some.injEq] at h
            subst h
            exact ⟨SeqAt.RcAt.bool_tuple _ ht2 hu, SeqAt.EqAt.bool_tuple _ ht2 hu, SeqAt.RcNeAt.bool_tuple _ ht2 hu⟩
        | int i1 =>
          obtain ⟨t1, rfl⟩ := r1
          cases g2 with
          | non =>
            cases r2
            simp only [Option.some.injEq] at h
            subst h
            exact ⟨SeqAt.RcAt.int_none _ _, SeqAt.EqAt.int_none _ _, SeqAt.RcNeAt.int_none _ _⟩
          | bl b2 =>
            cases r2
            simp only [Option.some.injEq] at h
            subst h
            rw [← beq_dec]
            exact ⟨SeqAt.RcAt.int_bool _ _ _, SeqAt.EqAt.int_bool _ _ _, SeqAt.RcNeAt.int_bool _ _ _⟩
          | int i2 =>
            obtain ⟨t2, rfl⟩ := r2
            simp only [Option.some.injEq] at h
            subst h
            rw [← beq_dec]
            exact ⟨SeqAt.RcAt.int_int _ _ _ _, SeqAt.EqAt.int_int _ _ _ _, SeqAt.RcNeAt.int_int _ _ _ _⟩
          | txt x2 =>
            obtain ⟨t2, rfl⟩ := r2
            simp only [Option.some.injEq] at h
            subst h
            exact ⟨SeqAt.RcAt.int_str _ _ _ _, SeqAt.EqAt.int_str _ _ _ _, SeqAt.RcNeAt.int_str _ _ _ _⟩
          | lst s2 v2 =>
            cases r2
            obtain ⟨its2, rv2, hl2, _⟩ := I.list s2
            simp only [Option.some.injEq] at h
            subst h
            exact ⟨SeqAt.RcAt.int_list _ _ hl2.isList hu, SeqAt.EqAt.int_list _ _ hl2.isList hu, SeqAt.RcNeAt.int_list _ _ hl2.isList hu⟩
          | tup s2 v2 =>
            cases r2
            obtain ⟨its2, rv2, ht2, _⟩ := I.tuple s2
            simp only [Option.some.injEq] at h
            subst h
            exact ⟨SeqAt.RcAt.int_tuple _ _ ht2 hu, SeqAt.EqAt.int_tuple _ _ ht2 hu, SeqAt.RcNeAt.int_tuple _ _ ht2 hu⟩
        | txt x1 =>
          obtain ⟨t1, rfl⟩ := r1
          cases g2 with
          | non =>
            cases r2
            simp only [Option.some.injEq] at h
            subst h
            exact ⟨SeqAt.RcAt.str_none _ _, SeqAt.EqAt.str_none _ _, SeqAt.RcNeAt.str_none _ _⟩
          | bl b2 =>
            cases r2
            simp only [Option.some.injEq] at h
            subst h
            exact ⟨SeqAt.RcAt.str_bool _ _ _, SeqAt.EqAt.str_bool _ _ _, SeqAt.RcNeAt.str_bool _ _ _⟩
          | int i2 =>
            obtain ⟨t2, rfl⟩ := r2
            simp only [Option.some.injEq] at h
            subst h
            exact ⟨SeqAt.RcAt.str_int _ _ _ _, SeqAt.EqAt.str_int _ _ _ _, SeqAt.RcNeAt.str_int _ _ _ _⟩
          | txt x2 =>
            obtain ⟨t2, rfl⟩ := r2
            simp only [Option.some.injEq] at h
            subst h
            rw [← stx_beq]
            exact ⟨SeqAt.RcAt.str_str _ _ _ _, SeqAt.EqAt.str_str _ _ _ _, SeqAt.RcNeAt.str_str _ _ _ _⟩
          | lst s2 v2 =>
            cases r2
            obtain ⟨its2, rv2, hl2, _⟩ := I.list s2
            simp only [Option.some.injEq] at h
            subst h
            exact ⟨SeqAt.RcAt.str_list _ _ hl2.isList hu, SeqAt.EqAt.str_list _ _ hl2.isList hu, SeqAt.RcNeAt.str_list _ _ hl2.isList hu⟩
          | tup s2 v2 =>
            cases r2
            obtain ⟨its2, rv2, ht2, _⟩ := I.tuple s2
            simp only [Option.some.injEq] at h
            subst h
            exact ⟨SeqAt.RcAt.str_tuple _ _ ht2 hu, SeqAt.EqAt.str_tuple _ _ ht2 hu, SeqAt.RcNeAt.str_tuple _ _ ht2 hu⟩
        | lst s1 v1 =>
          cases r1
          obtain ⟨its1, rv1, hl1, _⟩ := I.list s1
          cases g2 with
          | non =>
            cases r2
            simp only [Option.some.injEq] at h
            subst h
            exact ⟨SeqAt.RcAt.list_none  hl1.isList hu, SeqAt.EqAt.list_none  hl1.isList hu, SeqAt.RcNeAt.list_none  hl1.isList hu⟩
          | bl b2 =>
            cases r2
            simp only [Option.some.injEq] at h
            subst h
            exact ⟨SeqAt.RcAt.list_bool _ hl1.isList hu, SeqAt.EqAt.list_bool _ hl1.isList hu, SeqAt.RcNeAt.list_bool _ hl1.isList hu⟩
          | int i2 =>
            obtain ⟨t2, rfl⟩ := r2
            simp only [Option.some.injEq] at h
            subst h
            exact ⟨SeqAt.RcAt.list_int _ _ hl1.isList hu, SeqAt.EqAt.list_int _ _ hl1.isList hu, SeqAt.RcNeAt.list_int _ _ hl1.isList hu⟩
          | txt x2 =>
            obtain ⟨t2, rfl⟩ := r2
            simp only [Option.some.injEq] at h
            subst h
            exact ⟨SeqAt.RcAt.list_str _ _ hl1.isList hu, SeqAt.EqAt.list_str _ _ hl1.isList hu, SeqAt.RcNeAt.list_str _ _ hl1.isList hu⟩
          | lst s2 v2 =>
            cases r2
            obtain ⟨its2, rv2, hl2, _⟩ := I.list s2
            obtain ⟨bs, ho, rfl⟩ := eqs_some h
            refine fin ?_ fun e => eqd_same I c (n + 1) _ _ _ _ hx (e ▸ hy) h0
            have n1 : its1.length = _ := rv1.length.symm.trans v1.length.symm
            have n2 : its2.length = _ := rv2.length.symm.trans v2.length.symm
            by_cases hl : its1.length = its2.length
            · have hb : bs.length = its1.toArray.size := by rw [optAll_len ho, List.length_zip, ← n1, ← n2, hl]; simp [hl]
              have := SeqAt.RcAt.lists (e := fun j => bs.getD j true) hl1.isList hl2.isList (by simpa using hl) hu (items v1 v2 rv1 rv2 ho)
              have this2 := SeqAt.RcNeAt.lists (e := fun j => bs.getD j true) hl1.isList hl2.isList (by simpa using hl) hu (items v1 v2 rv1 rv2 ho)
              rw [all_range hb] at this this2
              rw [← n1, ← n2, hl]
              exact ⟨by simpa using this, by simpa using this2⟩
            · have := SeqAt.RcAt.lists_lengths hl1.isList hl2.isList (by simpa using hl) hu
              have hf : (its1.length == its2.length) = false := by simpa using hl
              rw [← n1, ← n2, hf, Bool.and_false]
              exact ⟨this, SeqAt.RcNeAt.lists_lengths hl1.isList hl2.isList (by simpa using hl) hu⟩
          | tup s2 v2 =>
            cases r2
            obtain ⟨its2, rv2, ht2, _⟩ := I.tuple s2
            simp only [Option.some.injEq] at h
            subst h
            exact ⟨SeqAt.RcAt.list_tuple  hl1.isList ht2 hu, SeqAt.EqAt.list_tuple  hl1.isList ht2 hu, SeqAt.RcNeAt.list_tuple  hl1.isList ht2 hu⟩
        | tup s1 v1 =>
          cases r1
          obtain ⟨its1, rv1, ht1, _⟩ := I.tuple s1
          cases g2 with
          | non =>
            cases r2
            simp only [Option.some.injEq] at h
            subst h
            exact ⟨SeqAt.RcAt.tuple_none  ht1 hu, SeqAt.EqAt.tuple_none  ht1 hu, SeqAt.RcNeAt.tuple_none  ht1 hu⟩
          | bl b2 =>
            cases r2
            simp only [Option.some.injEq] at h
            subst h
            exact ⟨SeqAt.RcAt.tuple_bool _ ht1 hu, SeqAt.EqAt.tuple_bool _ ht1 hu, SeqAt.RcNeAt.tuple_bool _ ht1 hu⟩
          | int i2 =>
            obtain ⟨t2, rfl⟩ := r2
            simp only [Option.some.injEq] at h
            subst h
            exact ⟨SeqAt.RcAt.tuple_int _ _ ht1 hu, SeqAt.EqAt.tuple_int _ _ ht1 hu, SeqAt.RcNeAt.tuple_int _ _ ht1 hu⟩
          | txt x2 =>
            obtain ⟨t2, rfl⟩ := r2
            simp only [Option.some.injEq] at h
            subst h
            exact ⟨SeqAt.RcAt.tuple_str _ _ ht1 hu, SeqAt.EqAt.tuple_str _ _ ht1 hu, SeqAt.RcNeAt.tuple_str _ _ ht1 hu⟩
          | lst s2 v2 =>
            cases r2
            obtain ⟨its2, rv2, hl2, _⟩ := I.list s2
            simp only [Option.some.injEq] at h
            subst h
            exact ⟨SeqAt.RcAt.tuple_list  ht1 hl2.isList hu, SeqAt.EqAt.tuple_list  ht1 hl2.isList hu, SeqAt.RcNeAt.tuple_list  ht1 hl2.isList hu⟩
          | tup s2 v2 =>
            cases r2
            obtain ⟨its2, rv2, ht2, _⟩ := I.tuple s2
            obtain ⟨bs, ho, rfl⟩ := eqs_some h
            refine fin ?_ fun e => eqd_same I c (n + 1) _ _ _ _ hx (e ▸ hy) h0
            have n1 : its1.length = _ := rv1.length.symm.trans v1.length.symm
            have n2 : its2.length = _ := rv2.length.symm.trans v2.length.symm
            have hb : bs.length = min its1.toArray.size its2.toArray.size := by rw [optAll_len ho, List.length_zip, ← n1, ← n2]; simp
            have := SeqAt.RcAt.tuples (e := fun j => bs.getD j true) ht1 ht2 hu (items v1 v2 rv1 rv2 ho)
            have this2 := SeqAt.RcNeAt.tuples (e := fun j => bs.getD j true) ht1 ht2 hu (items v1 v2 rv1 rv2 ho)
            rw [all_range hb] at this this2
            rw [← n1, ← n2]
            exact ⟨by simpa using this, by simpa using this2⟩
end
end MP
set_option linter.all false
set_option Elab.async false
set_option maxHeartbeats 2000000
set_option pp.deepTerms false
set_option pp.deepTerms.threshold 9
/-! in; data -/
namespace MP
open PySem L2 PySem.Spec PyProof.Rows
section
variable {X : Cx} {FV : Glo} {pins : List (Addr × Obj)} {σ : L2.St} {H : Hp} {s : Shared} {F : Fm} {S : Sto} {P : List (Val × V)} {loc : Nat → Addr}
theorem not_both (I : Inv X pins σ H s) {a : Addr} {xs ys : List V} (h1 : SqL X.K H a xs) (h2 : SqT X.K H a ys) : False := by
  obtain ⟨_, _, ⟨o1, _, e1, e2, _⟩, _⟩ := I.list h1
  obtain ⟨_, _, ⟨o2, e3, e4, _⟩, _⟩ := I.tuple h2
  rw [e1] at e3; cases e3; rw [e2] at e4; injection e4 with e5; exact absurd e5 (by decide)
/-- the kinds of one value -/
theorem kr_two (I : Inv X pins σ H s) {a b : Kd} {w : V} (h1 : KR X.K FV loc H a w) (h2 : KR X.K FV loc H b w) :
    a = b ∨ (∃ xs ys vs, a = .lst xs ∧ b = .lst ys ∧ VRs X.K FV loc H xs vs ∧ VRs X.K FV loc H ys vs) ∨ ∃ xs ys vs, a = .tup xs ∧ b = .tup ys ∧ VRs X.K FV loc H xs vs ∧ VRs X.K FV loc H ys vs := by
  cases h1 with
  | non => cases h2; exact .inl rfl
  | bl b1 => cases h2; exact .inl rfl
  | int i => cases h2; exact .inl rfl
  | txt x1 =>
    generalize hq : V.str (stx x1) = q at h2
    cases h2 with
    | txt x2 =>
      have := stx_inj (V.str.inj hq)
      subst this
      exact .inl rfl
    | _ => cases hq
  | lst s1 v1 =>
    cases h2 with
    | lst s2 v2 => rw [I.list_inj s2 s1] at v2; exact .inr (.inl ⟨_, _, _, rfl, rfl, v1, v2⟩)
    | tup s2 v2 => exact (not_both I s1 s2).elim
  | tup s1 v1 =>
    cases h2 with
    | tup s2 v2 => rw [I.tuple_inj s2 s1] at v2; exact .inr (.inr ⟨_, _, _, rfl, rfl, v1, v2⟩)
    | lst s2 v2 => exact (not_both I s2 s1).elim
theorem eqd_cong (I : Inv X pins σ H s) (c : CtxL X.K FV F loc S H P) : ∀ (n : Nat) (x x' y : Val) (w : V) (b b' : Bool), VR X.K FV loc H x w → VR X.K FV loc H x' w → eqD n S x y = some b → eqD n S x' y = some b' → b = b'
  | 0, _, _, _, _, _, _, _, _, h, _ => by simp [eqD] at h
  | n + 1, x, x', y, w, b, b', hx, hx', h, h' => by
    have lists : ∀ {xs xs' ys : List Val} {vs : List V}, VRs X.K FV loc H xs vs → VRs X.K FV loc H xs' vs → eqs (fun p => eqD n S p.1 p.2) xs ys = some b → eqs (fun p => eqD n S p.1 p.2) xs' ys = some b' → b = b' := fun {xs xs' ys vs} r r' q q' => by
      obtain ⟨bs, h1, rfl⟩ := eqs_some q
      obtain ⟨bs', h1', rfl⟩ := eqs_some q'
      have hl : xs.length = xs'.length := r.length.trans r'.length.symm
      have hb := optAll_len h1
      have hb' := optAll_len h1'
      rw [List.length_zip] at hb hb'
      have : bs = bs' := by
        apply List.ext_getElem (by omega)
        intro j j1 j2
        have l1 : j < xs.length := by omega
        have l2 : j < xs'.length := by omega
        have l3 : j < vs.length := by rw [← r.length]; exact l1
        have l4 : j < ys.length := by omega
        exact eqd_cong I c n xs[j] xs'[j] ys[j] vs[j] bs[j] bs'[j] (VRs.get r (List.getElem?_eq_getElem l1) (List.getElem?_eq_getElem l3)) (VRs.get r' (List.getElem?_eq_getElem l2) (List.getElem?_eq_getElem l3))
          (optAll_get h1 j (xs[j], ys[j]) bs[j] (by rw [List.getElem?_zip_eq_some]; exact ⟨List.getElem?_eq_getElem l1, List.getElem?_eq_getElem l4⟩) (List.getElem?_eq_getElem j1))
          (optAll_get h1' j (xs'[j], ys[j]) bs'[j] (by rw [List.getElem?_zip_eq_some]; exact ⟨List.getElem?_eq_getElem l2, List.getElem?_eq_getElem l4⟩) (List.getElem?_eq_getElem j2))
      rw [this, hl]
    unfold eqD at h h'
    cases k1 : kdV S x with
    | none => rw [k1] at h; simp at h
    | some a1 =>
      cases k1' : kdV S x' with
      | none => rw [k1'] at h'; simp at h'
      | some a1' =>
        rw [k1] at h
        rw [k1'] at h'
        rcases kr_two I (kr_of c hx k1) (kr_of c hx' k1') with rfl | ⟨xs, ys, vs, rfl, rfl, v1, v2⟩ | ⟨xs, ys, vs, rfl, rfl, v1, v2⟩
        · rw [h] at h'; exact Option.some.inj h'
        · cases k2 : kdV S y with
          | none => rw [k2] at h; simp at h
          | some a2 =>
            rw [k2] at h h'
            cases a2 with
            | lst zs => exact lists v1 v2 h h'
            | _ => simp at h h'; rw [h, h']
        · cases k2 : kdV S y with
          | none => rw [k2] at h; simp at h
          | some a2 =>
            rw [k2] at h h'
            cases a2 with
            | tup zs => exact lists v1 v2 h h'
            | _ => simp at h h'; rw [h, h']
open Classical in
/-- what each item answers -/
theorem any_eq (I : Inv X pins σ H s) (c : CtxL X.K FV F loc S H P) {A : Around} (hu : A.units + 60 < cLine) {x : Val} {w : V} {u : Value} (hx : VR X.K FV loc H x w) (r : RelV w u) {ys : List Val} {vs : List V} {its : List Value} {bs : List Bool} (hv : VRs X.K FV loc H ys vs) (rv : Vals vs its)
    (ho : optAll (fun y => eqD 60 S y x) ys = some bs) : ∃ e : Value → Bool, (∀ z, z ∈ its → SeqAt.EqAt A s z u (e z)) ∧ its.any e = bs.any id ∧ ∀ (j : Nat) (z : Value), its[j]? = some z → bs[j]? = some (e z) := by
  have hl := optAll_len ho
  have l1 := hv.length
  have l2 := rv.length
  have at_ : ∀ j (h : j < its.length), ∃ y v, ys[j]? = some y ∧ vs[j]? = some v ∧ VR X.K FV loc H y v ∧ RelV v its[j] ∧ eqD 60 S y x = some (bs[j]'(by omega)) := fun j h => by
    have a1 : j < ys.length := by omega
    have a2 : j < vs.length := by omega
    obtain ⟨z, e, q⟩ := rv.get (List.getElem?_eq_getElem a2)
    rw [List.getElem?_eq_getElem h] at e
    cases e
    exact ⟨ys[j], vs[j], List.getElem?_eq_getElem a1, List.getElem?_eq_getElem a2, VRs.get hv (List.getElem?_eq_getElem a1) (List.getElem?_eq_getElem a2), q, optAll_get ho j _ _ (List.getElem?_eq_getElem a1) (List.getElem?_eq_getElem (by omega))⟩
  let e : Value → Bool := fun z => decide (∃ j : Nat, its[j]? = some z ∧ bs[j]? = some true)
  have he : ∀ j (h : j < its.length), e its[j] = bs[j]'(by omega) := fun j h => by
    have hb : j < bs.length := by omega
    obtain ⟨y, v, _, _, y1, y2, y3⟩ := at_ j h
    by_cases q : ∃ k : Nat, its[k]? = some its[j] ∧ bs[k]? = some true
    · obtain ⟨k, k1, k2⟩ := id q
      obtain ⟨hk, ek⟩ := List.getElem?_eq_some_iff.mp k1
      obtain ⟨y', v', _, _, z1, z2, z3⟩ := at_ k hk
      rw [ek] at z2
      have ev := relv_inj z2 y2
      subst ev
      obtain ⟨hk2, ek2⟩ := List.getElem?_eq_some_iff.mp k2
      have := eqd_cong I c 60 y y' x v' _ _ y1 z1 y3 z3
      show decide _ = _
      rw [decide_eq_true q, this, ek2]
    · show decide _ = _
      rw [decide_eq_false q]
      cases hbj : bs[j] with
      | false => rfl
      | true => exact absurd ⟨j, List.getElem?_eq_getElem h, by rw [List.getElem?_eq_getElem hb, hbj]⟩ q
  refine ⟨e, fun z hz => ?_, ?_, fun j z hz => ?_⟩
  · obtain ⟨j, hj, rfl⟩ := List.getElem_of_mem hz
    obtain ⟨y, v, _, _, y1, y2, y3⟩ := at_ j hj
    rw [he j hj]
    exact (eqd_run I c 60 A y x v w its[j] u _ hu y1 hx y2 r y3).2.1
  · have : its.map e = bs := by
      apply List.ext_getElem (by simp; omega)
      intro j j1 j2
      rw [List.getElem_map]
      exact he j (by simpa using j1)
    rw [← this, List.any_map]
    rfl
  · obtain ⟨hj, ez⟩ := List.getElem?_eq_some_iff.mp hz
    rw [← ez, he j hj, List.getElem?_eq_getElem (by omega)]
/-! ### data -/
/-- where sys.modules stands, a dict stands -/
def SmOk (h : Heap) : Prop := ∃ o, h.get? sysModules = some o ∧ o.cls = .type "dict"
theorem ne_sm (I : Inv X pins σ H s) (sm : SmOk X.base) {a : Addr} {xs : List V} (h : SqL X.K H a xs) : a ≠ sysModules := fun e => by
  subst e
  obtain ⟨o, h1, h2⟩ := sm
  obtain ⟨_, _, ⟨o1, _, e1, e2, _⟩, _⟩ := I.list h
  rw [I.bk _ _ h1] at e1
  cases e1
  rw [h2] at e2; injection e2 with e5; exact absurd e5 (by decide)
theorem readsAll_of {h : Heap} : ∀ {us : List Value} {ds : List PyData}, us.length = ds.length → (∀ (j : Nat) (u : Value) (d : PyData), us[j]? = some u → ds[j]? = some d → ∃ as, Reads h u d as ∧ sysModules ∉ as) → ∃ as, ReadsAll h us ds as ∧ sysModules ∉ as
  | [], [], _, _ => ⟨[], .nil, by simp⟩
  | u :: us, d :: ds, hl, q => by
    obtain ⟨as, a1, a2⟩ := q 0 u d rfl rfl
    obtain ⟨bs, b1, b2⟩ := readsAll_of (us := us) (ds := ds) (by simpa using hl) fun j u' d' h1 h2 => q (j + 1) u' d' (by simpa using h1) (by simpa using h2)
    exact ⟨as ++ bs, .cons a1 b1, by simp [a2, b2]⟩
  | [], _ :: _, hl, _ => by simp at hl
  | _ :: _, [], hl, _ => by simp at hl
theorem vr_data (I : Inv X pins σ H s) (sm : SmOk X.base) (c : CtxL X.K FV F loc S H P) : ∀ (n : Nat) (v : Val) (w : V) (u : Value) (d : PyData), VR X.K FV loc H v w → RelV w u → datV n S v = some d → ∃ as, Reads s.heap u d as ∧ sysModules ∉ as
  | 0, _, _, _, _, _, _, h => by simp [datV] at h
  | n + 1, v, w, u, d, hv, r, h => by
    have items : ∀ {xs : List Val} {vs : List V} {its : List Value} {ds : List PyData}, VRs X.K FV loc H xs vs → Vals vs its → optAll (datV n S) xs = some ds → ∃ as, ReadsAll s.heap its ds as ∧ sysModules ∉ as := fun {xs vs its ds} v1 q1 ho => by
      refine readsAll_of (by rw [optAll_len ho, v1.length, q1.length]) fun j z e hz he => ?_
      have lz := (List.getElem?_eq_some_iff.mp hz).1
      have l1 : j < vs.length := by rw [q1.length]; exact lz
      have l2 : j < xs.length := by rw [v1.length]; exact l1
      obtain ⟨z', e1, q2⟩ := q1.get (List.getElem?_eq_getElem l1)
      rw [hz] at e1
      cases e1
      exact vr_data I sm c n xs[j] vs[j] z e (VRs.get v1 (List.getElem?_eq_getElem l2) (List.getElem?_eq_getElem l1)) q2 (optAll_get ho j _ _ (List.getElem?_eq_getElem l2) he)
    cases hv with
    | non => cases r; cases h; exact ⟨_, .none, by simp⟩
    | bl b => cases r; cases h; exact ⟨_, .bool b, by simp⟩
    | int i => obtain ⟨t, rfl⟩ := r; cases h; exact ⟨_, .int i t, by simp⟩
    | str x => obtain ⟨t, rfl⟩ := r; cases h; exact ⟨_, .str _ t, by simp⟩
    | tup hs hv =>
      cases r
      simp only [datV] at h
      obtain ⟨ds, hd, rfl⟩ := Option.map_eq_some_iff.mp h
      obtain ⟨its, rv, ⟨o, ho, hc, k, hk⟩, _⟩ := I.tuple hs
      obtain ⟨as, q1, q2⟩ := items hv rv hd
      exact ⟨_, .tuple ho hc hk (by simpa using q1), q2⟩
    | ref i =>
      cases r
      have seq : ∀ {xs : List Val} {vs : List V}, SqL X.K H (loc i) vs → VRs X.K FV loc H xs vs → (optAll (datV n S) xs).map PyData.list = some d → ∃ as, Reads s.heap (.ref (loc i)) d as ∧ sysModules ∉ as := fun {xs vs} hs hv h => by
        obtain ⟨ds, hd, rfl⟩ := Option.map_eq_some_iff.mp h
        obtain ⟨its, rv, ⟨o, k, ho, hc, _, hk⟩, _⟩ := I.list hs
        obtain ⟨as, q1, q2⟩ := items hv rv hd
        refine ⟨_, .list ho hc hk (by simpa using q1), fun hm => ?_⟩
        rcases List.mem_cons.mp hm with e | hm
        · exact ne_sm I sm hs e.symm
        · exact q2 hm
      simp only [datV] at h
      split at h
      · rename_i xs hs
        obtain ⟨ys, h1, r⟩ := c.obs _ _ hs
        exact seq (SqL.of h1) r h
      · rename_i xs hs
        obtain ⟨ys, h1, r⟩ := c.obs _ _ hs
        exact seq h1.sq r h
      · rename_i kvs hs
        split at h
        · rename_i ks vs hk hv
          cases h
          obtain ⟨T, rfl, h1, h2, h3, r⟩ := c.obs _ _ hs
          obtain ⟨hsm, o, es, ep, e1, e2, e3, e4⟩ := dct_there I (.inl h1)
          have lk := optAll_len hk
          have lv := optAll_len hv
          rw [List.length_map] at lk lv
          have zk : (ks.zip vs).map (·.1) = ks := by rw [List.map_fst_zip]; omega
          have zv : (ks.zip vs).map (·.2) = vs := by rw [List.map_snd_zip]; omega
          have entry : ∀ (j : Nat) (t : DE), T[j]? = some t → es.toList[j]? = some (entN FV.w t.ne) := fun j t ht => by rw [e4, List.getElem?_map, List.getElem?_map, ht]; rfl
          have lt : ∀ (j : Nat) (e : DictEntry), es.toList[j]? = some e → ∃ t, T[j]? = some t ∧ e = entN FV.w t.ne := fun j e he => by
            rw [e4, List.map_map, List.getElem?_map] at he
            obtain ⟨t, ht, rfl⟩ := Option.map_eq_some_iff.mp he
            exact ⟨t, ht, rfl⟩
          have hlen : es.toList.length = T.length := by rw [e4]; simp
          obtain ⟨as, k1, k2⟩ := readsAll_of (h := s.heap) (us := es.toList.map (·.key)) (ds := ks) (by rw [List.length_map, hlen, lk]) fun j z d hz hd => by
            rw [List.getElem?_map] at hz
            obtain ⟨e, he, rfl⟩ := Option.map_eq_some_iff.mp hz
            obtain ⟨t, ht, rfl⟩ := lt j e he
            exact vr_data I sm c n t.k t.kw t.ku d (r t (List.mem_of_getElem? ht)).2.1 (r t (List.mem_of_getElem? ht)).1.rk (optAll_get hk j t.kv d (by rw [List.getElem?_map, ht]; rfl) hd)
          obtain ⟨bs, v1, v2⟩ := readsAll_of (h := s.heap) (us := es.toList.map (·.val)) (ds := vs) (by rw [List.length_map, hlen, lv]) fun j z d hz hd => by
            rw [List.getElem?_map] at hz
            obtain ⟨e, he, rfl⟩ := Option.map_eq_some_iff.mp hz
            obtain ⟨t, ht, rfl⟩ := lt j e he
            exact vr_data I sm c n t.v t.vw t.vu d (r t (List.mem_of_getElem? ht)).2.2 (r t (List.mem_of_getElem? ht)).1.rv (optAll_get hv j t.kv d (by rw [List.getElem?_map, ht]; rfl) hd)
          refine ⟨_, .dict e1 e2.1 e3 (by rw [zk]; exact k1) (by rw [zv]; exact v1), fun hm => ?_⟩
          rcases List.mem_append.mp hm with hm | hm
          · rcases List.mem_cons.mp hm with e | hm
            · rw [← e] at hsm; simp at hsm
            · exact k2 hm
          · exact v2 hm
        · cases h
      · cases h
    | fn _ => cases h
theorem depth_le : ∀ (n : Nat) (v : Val) (d : PyData), datV n S v = some d → d.depth ≤ n
  | 0, _, _, h => by simp [datV] at h
  | n + 1, v, d, h => by
    have all : ∀ {xs : List Val} {ds : List PyData}, optAll (datV n S) xs = some ds → PyData.depthAll ds ≤ n := fun {xs} => by
      induction xs with
      | nil => intro ds h; unfold optAll at h; cases h; simp [PyData.depthAll]
      | cons x xs ih =>
        intro ds h
        unfold optAll at h
        split at h
        · rename_i h1 h2
          cases h
          have := depth_le n x _ h1
          have := ih h2
          simp only [PyData.depthAll]
          omega
        · cases h
    cases v with
    | non => cases h; simp [PyData.depth]
    | bl b => cases h; simp [PyData.depth]
    | int i => cases h; simp [PyData.depth]
    | str x => cases h; simp [PyData.depth]
    | fn f => cases h
    | tup xs =>
      simp only [datV] at h
      obtain ⟨ds, hd, rfl⟩ := Option.map_eq_some_iff.mp h
      have := all hd
      simp only [PyData.depth]
      omega
    | ref i =>
      simp only [datV] at h
      split at h
      · obtain ⟨ds, hd, rfl⟩ := Option.map_eq_some_iff.mp h
        have := all hd
        simp only [PyData.depth]
        omega
      · obtain ⟨ds, hd, rfl⟩ := Option.map_eq_some_iff.mp h
        have := all hd
        simp only [PyData.depth]
        omega
      · split at h
        · rename_i kvs hs ks vs hk hv
          cases h
          have kv : ∀ (kvs : List (Val × Val)) (ks vs : List PyData), optAll (fun p => datV n S p.1) kvs = some ks → optAll (fun p => datV n S p.2) kvs = some vs → PyData.depthKv (ks.zip vs) ≤ n := fun kvs => by
            induction kvs with
            | nil => intro ks vs h h'; unfold optAll at h; cases h; simp [PyData.depthKv]
            | cons p kvs ih =>
              intro ks vs h h'
              unfold optAll at h h'
              split at h
              · rename_i h1 h2
                cases h
                split at h'
                · rename_i h3 h4
                  cases h'
                  have a1 := depth_le n p.1 _ h1
                  have a2 := depth_le n p.2 _ h3
                  have := ih _ _ h2 h4
                  rw [List.zip_cons_cons]
                  simp only [PyData.depthKv]
                  omega
                · cases h'
              · cases h
          have := kv _ _ _ hk hv
          simp only [PyData.depth]
          omega
        · cases h
      · cases h
/-- repr(x) -/
theorem repr_run (I : Inv X pins σ H s) (sm : SmOk X.base) (hg : X.A.guards = some []) (hu : X.A.units + 100 < cLine) (c : CtxL X.K FV F loc S H P) {v : Val} {w : V} {u : Value} {t : Tx} {Q : Value → Shared → Prop} {E : Value → Shared → Prop} (hv : VR X.K FV loc H v w) (r : RelV w u) (h : reprV S v = some t)
    (q : ∀ h' k tk, (∀ b o, s.heap.get? b = some o → h'.get? b = some o) → Q (.str (stx t) k) { s with heap := h', toks := tk }) : wpAny (model X.prog X.w) X.A (call (.builtin "repr") [u]) Q E s := by
  unfold reprV at h
  split at h
  · rename_i d hd
    split at h
    · rename_i hz
      cases h
      have e : stx d.shown.cps.toList = d.shown := by simp [stx]
      rw [e] at q
      obtain ⟨as, rd, hn⟩ := vr_data I sm c 60 v w u d hv r hd
      have dp := depth_le 60 v d hd
      have kp : ∀ k, Q (.str d.shown k) { s with toks := s.toks + 1 } := fun k => q s.heap k _ fun _ _ z => z
      cases rd with
      | none => exact PySem.P.repr_of_none (kp _)
      | bool b => exact PySem.P.repr_of_bool (kp _)
      | int i tk => exact PySem.P.repr_of_int (by simpa [PyData.showable] using hz.1) (kp _)
      | str x tk => exact PySem.P.repr_of_str (kp _) (by simpa [PyData.shown] using hz.2)
      | list a1 a2 a3 a4 => exact repr_of_reads' (.list a1 a2 a3 a4) hz.1 (fun _ => hn) hg (by omega) (fun _ _ z => z) q hz.2
      | tuple a1 a2 a3 a4 => exact repr_of_reads' (.tuple a1 a2 a3 a4) hz.1 (fun _ => hn) hg (by omega) (fun _ _ z => z) q hz.2
      | dict a1 a2 a3 a4 a5 => exact repr_of_reads' (.dict a1 a2 a3 a4 a5) hz.1 (fun _ => hn) hg (by omega) (fun _ _ z => z) q hz.2
    · cases h
  · cases h
end
end MP
set_option linter.all false
set_option Elab.async false
set_option maxRecDepth 100000
set_option maxHeartbeats 4000000
/-! a tuple once, and not at all -/
namespace MP
open PySem L2 PySem.Spec PyProof.Rows
theorem tuple_once (l : Addr) (items : Array Value) (n : Nat) (dd : Option Addr) (sl : Array (Option Value)) (u : Tok) :
    Meets (Builtin.«tuple.__mul__» ⟨[.ref l, .int 1 u], []⟩) (fun _ R s => s.heap.get? l = some { cls := .type "tuple", dict := dd, data := .seq items n, slots := sl } ∧
      R (.ok (.ret (Value.ref l))) s) :=
  .of_wp fun prog w A R s h => by
    obtain ⟨hp, g, d, tk, os⟩ := s
    obtain ⟨hl, h⟩ := h
    have f1 := AutoSeq1.idx_int
    wp_walk using wpAny_loadPart' hl
    exact ⟨_, rfl, h⟩
theorem tuple_never (l : Addr) (items : Array Value) (n : Nat) (dd : Option Addr) (sl : Array (Option Value)) (x : Int) (u : Tok) (hx : x ≤ 0) (hx2 : -(2 ^ 63) ≤ x) (hi : items.isEmpty = false) :
    Meets (Builtin.«tuple.__mul__» ⟨[.ref l, .int x u], []⟩) (fun _ R s => s.heap.get? l = some { cls := .type "tuple", dict := dd, data := .seq items n, slots := sl } ∧
      R (.ok (.ret (Value.ref s.heap.objs.size))) { s with heap := s.heap.push { cls := Value.type "tuple", data := Data.seq #[] }, toks := s.toks }) :=
  .of_wp fun prog w A R s h => by
    obtain ⟨hp, g, d, tk, os⟩ := s
    obtain ⟨hl, h⟩ := h
    have f1 := AutoSeq1.idx_int
    have c0 : (decide (x < -(2 ^ 63)) || decide (x ≥ 2 ^ 63)) = false := by
      rw [decide_eq_false (by omega), decide_eq_false (by omega)] <;> rfl
    have c1 : (items.isEmpty || x == 1) = false := by rw [hi, Bool.false_or]; exact beq_eq_false_iff_ne.mpr (by omega)
    have c2 : (decide (x ≤ 0) || items.isEmpty) = true := by rw [decide_eq_true hx]; rfl
    wp_walk using wpAny_loadPart' hl
    repeat (first
      | (refine wpAny_ite_false (decide_eq_false (by rw [c0]; exact Bool.false_ne_true)) ?_; wp_walk using wpAny_loadPart' hl)
      | (refine wpAny_ite_false (decide_eq_false (by rw [c1]; exact Bool.false_ne_true)) ?_; wp_walk using wpAny_loadPart' hl)
      | (refine wpAny_ite_true (decide_eq_true c2) ?_; wp_walk using wpAny_loadPart' hl))
    exact ⟨_, rfl, h⟩
section
variable {X : Cx}
/-- a tuple, few times -/
def rRepF (K : PySem.W.Frag) : R2 := fun x y H Q => ∃ l k xs, x = .ref l ∧ y = .int k ∧ SqT K H l xs ∧ xs ≠ [] ∧ -(2 ^ 63) ≤ k ∧ k ≤ 1 ∧
  (k = 1 → Q (.ref l) H) ∧ (k ≤ 0 → ∀ p, H p = none → Q (.ref p) (upd H p (.tup [])))
theorem op_repF : OpR X (binaryOp .Mult) (rRepF X.K) := by
  intro pins s σ H x y v u Q I rx ry h
  obtain ⟨l, k, xs, rfl, rfl, hT, hne, h0, h1, q1, q0⟩ := h
  cases rx
  obtain ⟨t, rfl⟩ := ry
  obtain ⟨its, r, ⟨⟨cls, dd, data, sl⟩, ho, hc, n, hd⟩, hs⟩ := I.tuple hT
  simp only at hc hd
  subst hc hd
  have hi : its.toArray.isEmpty = false := by
    cases r with
    | nil => exact absurd rfl hne
    | cons _ _ => rfl
  by_cases hk : k = 1
  · subst hk
    exact wpAny_binaryOp_repeat_ref (T := "tuple") (U := "int") (by decide) ⟨_, ho, rfl⟩ (fun s' => typeIs_int s' 1 t) noFill_tuple_mul F.fills_int_mul F.slot_int_rmul repeat_tuple F.slot_int_index.lookup
      (call_meets F.slot_int_rmul (typeIs_int s 1 t) F.entry_int_rmul (F.args_int_rmul_2 _ _) (int_rmul_tuple 1 t l its.toArray n dd sl)
        ⟨ho, rfl, ⟨_, ho, rfl⟩, call_meets F.slot_tuple_mul ⟨_, ho, rfl⟩ F.entry_tuple_mul (F.args_tuple_mul_2 _ _) (tuple_once l its.toArray n dd sl t) ⟨ho, .ref l, H, I, rfl, q1 rfl⟩⟩)
  · have hk0 : k ≤ 0 := by omega
    refine wpAny_binaryOp_repeat_ref (T := "tuple") (U := "int") (by decide) ⟨_, ho, rfl⟩ (fun s' => typeIs_int s' k t) noFill_tuple_mul F.fills_int_mul F.slot_int_rmul repeat_tuple F.slot_int_index.lookup
      (call_meets F.slot_int_rmul (typeIs_int s k t) F.entry_int_rmul (F.args_int_rmul_2 _ _) (int_rmul_tuple k t l its.toArray n dd sl)
        ⟨ho, rfl, ⟨_, ho, rfl⟩, call_meets F.slot_tuple_mul ⟨_, ho, rfl⟩ F.entry_tuple_mul (F.args_tuple_mul_2 _ _) (tuple_never l its.toArray n dd sl k t hk0 h0 hi) ⟨ho, ?_⟩⟩)
    refine ⟨.ref s.heap.objs.size, _, I.laid (t' := s.toks) (o := .tup []) (fun b ob q => Heap.get?_push_of_some _ q) (Nat.le_refl _) ?_, rfl, q0 hk0 _ (I.hok.fresh (Nat.le_refl _))⟩
    exact ⟨Nat.zero_le _, [], .nil, IsTup.new _ _⟩
end
end MP
set_option linter.all false
set_option Elab.async false
set_option maxHeartbeats 1000000
namespace MP
open PySem L2 PySem.Spec PyProof.Rows
/-- the frame's values are held -/
def EnvOk (ρ : Env) (σ : L2.St) (P : List (Val × V)) : Prop := ρ.length = σ.length ∧ ∀ (i : Nat) (v : Val), ρ[i]? = some (some v) → ∃ w, σ[i]? = some (some w) ∧ (v, w) ∈ P
theorem EnvOk.sup {ρ : Env} {σ : L2.St} {P P' : List (Val × V)} (e : EnvOk ρ σ P) (h : ∀ p ∈ P, p ∈ P') : EnvOk ρ σ P' :=
  ⟨e.1, fun i v hi => let ⟨w, h1, h2⟩ := e.2 i v hi; ⟨w, h1, h _ h2⟩⟩
theorem EnvOk.cons {ρ : Env} {σ : L2.St} {P : List (Val × V)} {p : Val × V} (e : EnvOk ρ σ P) : EnvOk ρ σ (p :: P) := e.sup fun _ h => List.mem_cons_of_mem _ h
theorem EnvOk.app {ρ : Env} {σ : L2.St} {P R : List (Val × V)} (e : EnvOk ρ σ P) : EnvOk ρ σ (R ++ P) := e.sup fun _ h => List.mem_append_right _ h
section
variable (K : PySem.W.Frag) (FV : Glo) (φ : Nat → List Val → M Val)
/-- an expression's reading, by its meaning -/
def RD (m : ME) : TE := fun σ H Q => ∃ F ρ S P v S', EnvOk ρ σ P ∧ Ctx K FV F S H P ∧ meanE φ m ρ S = .ok v S' ∧ ∀ w H', Ctx K FV F S' H' ((v, w) :: P) → Q w H'
def RT (m : ME) : TT := fun σ H Q => ∃ F ρ S P b S', EnvOk ρ σ P ∧ Ctx K FV F S H P ∧ bnd (meanE φ m ρ) truV S = .ok b S' ∧ ∀ H', Ctx K FV F S' H' P → Q b H'
def RA (ms : List ME) : TA := fun σ H Q => ∃ F ρ S P vs S', EnvOk ρ σ P ∧ Ctx K FV F S H P ∧ meanL φ ms ρ S = .ok vs S' ∧ ∀ ws H', vs.length = ws.length → Ctx K FV F S' H' (vs.zip ws ++ P) → Q ws H'
end
theorem bnd_ok {α β : Type} {m : M α} {f : α → M β} {S S' : Sto} {b : β} (h : bnd m f S = .ok b S') : ∃ a S1, m S = .ok a S1 ∧ f a S1 = .ok b S' := by
  unfold bnd at h
  cases e : m S with
  | ok a S1 => rw [e] at h; exact ⟨a, S1, rfl, h⟩
  | exc c v S1 => rw [e] at h; cases h
  | bad => rw [e] at h; cases h
theorem ret_ok {α : Type} {a b : α} {S S' : Sto} (h : ret a S = .ok b S') : a = b ∧ S = S' := by
  unfold ret at h; cases h; exact ⟨rfl, rfl⟩
theorem stop_ok {α : Type} {b : α} {S S' : Sto} (h : (stop : M α) S = .ok b S') : False := by
  unfold stop at h; cases h
/-- a two-place operation on values, by its meaning -/
def rO (K : PySem.W.Frag) (FV : Glo) (f : Val → Val → M Val) : R2 := fun vx vy H Q => ∃ F S P x y z S', f x y S = .ok z S' ∧ Ctx K FV F S H P ∧ (x, vx) ∈ P ∧ (y, vy) ∈ P ∧ ∀ w H', Ctx K FV F S' H' ((z, w) :: P) → Q w H'
def OpI (X : Cx) (FV : Glo) (g : Value → Value → Sem Value) (f : Val → Val → M Val) : Prop := OpR X g (rO X.K FV f)
/-- what a context must have -/
structure XOk (X : Cx) (FV : Glo) : Prop where
  w : FV.w = X.w
  calm : X.calm = true
  room : X.A.units + 100 < cLine
  gd : X.A.guards = some []
  sm : SmOk X.base
section
variable {X : Cx} {FV : Glo}
theorem Ctx.bare {F : Fm} {S : Sto} {H : Hp} {P : List (Val × V)} (c : Ctx X.K FV F S H P) {p : Val × V} (h : p ∈ P) : Ctx X.K FV F S H (p :: P) := c.sub fun q hq => by
  rcases List.mem_cons.mp hq with rfl | hq
  · exact h
  · exact hq
theorem back2 {F : Fm} {S : Sto} {H : Hp} {P R : List (Val × V)} {a : Val × V} (h : Ctx X.K FV F S H (a :: (R ++ P))) : Ctx X.K FV F S H (a :: P) := h.sub fun p hp => by
  rcases List.mem_cons.mp hp with rfl | hp
  · exact List.mem_cons_self
  · exact List.mem_cons_of_mem _ (List.mem_append_right _ hp)
theorem back3 {F : Fm} {S : Sto} {H : Hp} {P R R' : List (Val × V)} {a : Val × V} (h : Ctx X.K FV F S H (a :: (R' ++ (R ++ P)))) : Ctx X.K FV F S H (a :: P) := back2 (back2 h)
theorem mul_cps (a : Tx) (k : Int) : stx (PySem.Txt.mul (stx a) k).cps.toList = PySem.Txt.mul (stx a) k := by simp [stx]
theorem zip_rep {xs : List Val} {ys : List V} {P : List (Val × V)} (hl : xs.length = ys.length) (h : ∀ q ∈ xs.zip ys, q ∈ P) : ∀ k : Nat, (List.replicate k xs).flatten.length = (List.replicate k ys).flatten.length ∧ ∀ q ∈ (List.replicate k xs).flatten.zip (List.replicate k ys).flatten, q ∈ P
  | 0 => by simp
  | k + 1 => by
    obtain ⟨h1, h2⟩ := zip_rep hl h k
    rw [List.replicate_succ, List.replicate_succ, List.flatten_cons, List.flatten_cons]
    refine ⟨by rw [List.length_append, List.length_append, hl, h1], fun q hq => ?_⟩
    rw [List.zip_append hl] at hq
    rcases List.mem_append.mp hq with hq | hq
    · exact h q hq
    · exact h2 q hq
theorem zip_cat {xs xs' : List Val} {ys ys' : List V} {P : List (Val × V)} (hl : xs.length = ys.length) (h : ∀ q ∈ xs.zip ys, q ∈ P) (h' : ∀ q ∈ xs'.zip ys', q ∈ P) : ∀ q ∈ (xs ++ xs').zip (ys ++ ys'), q ∈ P := fun q hq => by
  rw [List.zip_append hl] at hq
  rcases List.mem_append.mp hq with hq | hq
  · exact h q hq
  · exact h' q hq
/-- a tuple that stands already -/
theorem Ctx.oldTup {F : Fm} {S : Sto} {H : Hp} {P : List (Val × V)} (c : Ctx X.K FV F S H P) {a : Addr} {xs : List Val} {ys : List V} (hs : SqT X.K H a ys) (hl : xs.length = ys.length) (h : ∀ q ∈ xs.zip ys, q ∈ P) : Ctx X.K FV F S H ((.tup xs, .ref a) :: P) := by
  have hlt := zip_lt (fun p hp => c.lt hp) hl h
  obtain ⟨loc, c⟩ := c
  refine ⟨loc, c.obs, c.lts, c.inj, fun p hp => ?_, c.frm, c.frn⟩
  rcases List.mem_cons.mp hp with rfl | hp
  · exact ⟨.tup hs (VRs.of_zip hl fun q hq => (c.vals q (h q hq)).1), by show ltV _ (.tup xs); unfold ltV; exact hlt⟩
  · exact c.vals p hp
theorem opi_bin (xo : XOk X FV) (o : Operator) : OpI X FV (binaryOp o) (binV o) := by
  intro pins s σ H vx vy u1 u2 Q I r1 r2 ⟨F, S, P, x, y, z, S', h, c, hx, hy, q⟩
  unfold binV at h
  split at h
  · obtain ⟨rfl, rfl⟩ := ret_ok h
    exact op_add pins s σ H _ _ _ _ _ I r1 r2 ⟨_, _, c.int hx, c.int hy, q _ _ (c.addInt _)⟩
  · obtain ⟨rfl, rfl⟩ := ret_ok h
    exact op_sub pins s σ H _ _ _ _ _ I r1 r2 ⟨_, _, c.int hx, c.int hy, q _ _ (c.addInt _)⟩
  · split at h
    · cases h
      rename_i hc
      exact op_mul pins s σ H _ _ _ _ _ I r1 r2 ⟨_, _, c.int hx, c.int hy, hc, q _ _ (c.addInt _)⟩
    · cases h
  · split at h
    · cases h
      rename_i hc
      exact op_modN pins s σ H _ _ _ _ _ I r1 r2 ⟨_, _, c.int hx, c.int hy, hc, q _ _ (c.addInt _)⟩
    · cases h
  · split at h
    · cases h
      rename_i hc
      exact op_fdivN pins s σ H _ _ _ _ _ I r1 r2 ⟨_, _, c.int hx, c.int hy, hc, q _ _ (c.addInt _)⟩
    · cases h
  · split at h
    · cases h
      rename_i hc
      exact op_pow pins s σ H _ _ _ _ _ I r1 r2 ⟨_, _, c.int hx, c.int hy, hc, q _ _ (c.addInt _)⟩
    · cases h
  · split at h
    · cases h
      rename_i a b hc
      refine op_add_str pins s σ H _ _ _ _ _ I r1 r2 ⟨_, _, c.str hx, c.str hy, ?_, ?_⟩
      · simpa [stx, Str.length] using hc
      · have e : stx a ++ stx b = stx (a ++ b) := by show Str.mk _ = Str.mk _; simp [stx]
        rw [e]
        exact q _ _ (c.addStr _)
    · cases h
  · split at h
    · cases h
      rename_i xs ys hc
      obtain ⟨a, vs, rfl, ha, la, c1⟩ := c.tup hx
      obtain ⟨b, us, rfl, hb, lb, c2⟩ := c1.tup (List.mem_append_right _ hy)
      have zx : ∀ q ∈ xs.zip vs, q ∈ ys.zip us ++ (xs.zip vs ++ P) := fun q hq => List.mem_append_right _ (List.mem_append_left _ hq)
      have zy : ∀ q ∈ ys.zip us, q ∈ ys.zip us ++ (xs.zip vs ++ P) := fun q hq => List.mem_append_left _ hq
      have hll : (xs ++ ys).length = (vs ++ us).length := by rw [List.length_append, List.length_append, la, lb]
      refine op_catA pins s σ H _ _ _ _ _ I r1 r2 ⟨a, b, vs, us, rfl, rfl, ha, hb, by rw [← la, ← lb]; exact hc, fun e => ?_, fun _ e => ?_, fun _ _ p hp => ?_⟩
      · subst e
        have e0 : xs = [] := List.length_eq_zero_iff.mp la
        subst e0
        exact q _ _ (c.bare hy)
      · subst e
        have e0 : ys = [] := List.length_eq_zero_iff.mp lb
        subst e0
        rw [List.append_nil] at q
        exact q _ _ (c.bare hx)
      · exact q _ _ (back3 (c2.newTup hp hll (zip_cat la zx zy)))
    · cases h
  · rename_i i j
    split at h
    · rename_i xs ys hs1 hs2
      split at h
      · cases h
        rename_i hc
        obtain ⟨a, vs, rfl, ha, la, c1⟩ := c.lst hx hs1
        obtain ⟨b, us, rfl, hb, lb, c2⟩ := c1.lst (List.mem_append_right _ hy) hs2
        have zx : ∀ q ∈ xs.zip vs, q ∈ ys.zip us ++ (xs.zip vs ++ P) := fun q hq => List.mem_append_right _ (List.mem_append_left _ hq)
        have zy : ∀ q ∈ ys.zip us, q ∈ ys.zip us ++ (xs.zip vs ++ P) := fun q hq => List.mem_append_left _ hq
        have hll : (xs ++ ys).length = (vs ++ us).length := by rw [List.length_append, List.length_append, la, lb]
        exact op_cat pins s σ H _ _ _ _ _ I r1 r2 ⟨a, b, vs, us, rfl, rfl, ha, hb, by rw [← la, ← lb]; exact hc, fun p hp => q _ _ (back3 (c2.newLst hp hll (zip_cat la zx zy)))⟩
      · cases h
    · cases h
  · split at h
    · cases h
      rename_i a k hc
      have e1 := c.str hx
      have e2 := c.int hy
      subst e1; subst e2
      obtain ⟨t1, rfl⟩ := r1
      obtain ⟨t2, rfl⟩ := r2
      refine PySem.SB.mul (mulOk_of 16 1048576 (by simpa [stx, Str.length] using hc.1) (by simpa using hc.2.2) hc.2.1 (by decide) (by decide)) fun t' k' => ⟨.str _, H, I.tok _, ⟨t', rfl⟩, ?_⟩
      have := q _ H (c.addStr _)
      rw [mul_cps] at this
      exact this
    · cases h
  · split at h
    · cases h
      rename_i xs k hc
      obtain ⟨a, vs, rfl, ha, la, c1⟩ := c.tup hx
      have e2 := c.int hy
      subst e2
      obtain ⟨h1, h2⟩ := zip_rep (P := xs.zip vs ++ P) la (fun q hq => List.mem_append_left _ hq) k.toNat
      by_cases hk : k ≤ 1
      · refine op_repF pins s σ H _ _ _ _ _ I r1 r2 ⟨a, k, vs, rfl, rfl, ha, ?_, hc.2.1, hk, fun e => ?_, fun e p hp => ?_⟩
        · intro e
          subst e
          exact hc.1 (List.length_eq_zero_iff.mp la)
        · subst e
          have er : rep 1 xs = xs := by simp [rep]
          rw [er] at q
          exact q _ _ (c.bare hx)
        · have er : rep k xs = [] := by
            have : k.toNat = 0 := by omega
            simp [rep, this]
          rw [er] at q
          exact q _ _ (c.newTup hp (xs := []) (ys := []) rfl (by simp))
      refine op_repT pins s σ H _ _ _ _ _ I r1 r2 ⟨a, k, vs, rfl, rfl, ha, ?_, by omega, hc.2.2.1, by rw [← la]; exact hc.2.2.2, fun p hp => q _ _ (back2 (c1.newTup hp h1 h2))⟩
      intro e
      subst e
      exact hc.1 (List.length_eq_zero_iff.mp la)
    · cases h
  · rename_i i k
    split at h
    · rename_i xs hs1
      split at h
      · cases h
        rename_i hc
        obtain ⟨a, vs, rfl, ha, la, c1⟩ := c.lst hx hs1
        have e2 := c.int hy
        subst e2
        obtain ⟨h1, h2⟩ := zip_rep (P := xs.zip vs ++ P) la (fun q hq => List.mem_append_left _ hq) k.toNat
        exact op_rep pins s σ H _ _ _ _ _ I r1 r2 ⟨a, k, vs, rfl, rfl, ha, hc.1, hc.2.1, by rw [← la]; exact hc.2.2, fun p hp => q _ _ (back2 (c1.newLst hp h1 h2))⟩
      · cases h
    · cases h
  · exact (stop_ok h).elim
theorem bl1_ok {o : Option Bool} {S S' : Sto} {z : Val} (h : bl1 o S = .ok z S') : ∃ b, o = some b ∧ z = .bl b ∧ S' = S := by
  unfold bl1 at h
  cases o with
  | none => cases h
  | some b => cases h; exact ⟨b, rfl, rfl, rfl⟩
theorem keyS_val : ∀ k : Key, keyS (kVal k) = some k
  | .inl i => rfl
  | .inr x => by show some (Sum.inr (stx x.cps.toList)) = _; cases x; simp [stx]
/-- x in y, or not: the answer -/
theorem in_run (xo : XOk X FV) {pins : List (Addr × Obj)} {s : Shared} {σ : L2.St} {H : Hp} {F : Fm} {S : Sto} {P : List (Val × V)} {x y : Val} {vx vy : V} {u1 u2 : Value} {b : Bool} (I : Inv X pins σ H s) (c : Ctx X.K FV F S H P) (hx : (x, vx) ∈ P) (hy : (y, vy) ∈ P) (r1 : RelV vx u1) (r2 : RelV vy u2) (h : inV x y S = some b) (neg : Bool) {Q : VK}
    (q : Q (.bl (if neg then !b else b)) H) : wpAny (model X.prog X.w) X.A (compareOp (if neg then .NotIn else .In) u1 u2) (EP X pins σ Q) X.xe s := by
  have room := xo.room
  have lists : ∀ ys : List Val, seqV S y = some ys → ((optAll (fun u => eqD 60 S u x) ys).map fun bs => bs.any id) = some b → wpAny (model X.prog X.w) X.A (compareOp (if neg then .NotIn else .In) u1 u2) (EP X pins σ Q) X.xe s := fun ys hs ho => by
    obtain ⟨bs, hb, rfl⟩ := Option.map_eq_some_iff.mp ho
    obtain ⟨loc, cl⟩ := c
    have fin : ∀ b', b' = (if neg then !bs.any id else bs.any id) → EP X pins σ Q (.bool b') s := fun b' e => ⟨.bl b', H, I, rfl, by rw [e]; exact q⟩
    have vx1 := (cl.vals _ hx).1
    have vy1 := (cl.vals _ hy).1
    have seqL : ∀ {a : Addr} {vs : List V}, u2 = .ref a → SqL X.K H a vs → VRs X.K FV loc H ys vs → wpAny (model X.prog X.w) X.A (compareOp (if neg then .NotIn else .In) u1 u2) (EP X pins σ Q) X.xe s := fun {a vs} e hq hv => by
      subst e
      obtain ⟨its, rv, pl, _⟩ := I.list hq
      obtain ⟨e, he, ha, _⟩ := any_eq I cl (A := X.A.in1) (by show X.A.units + 1 + 60 < cLine; omega) vx1 r1 hv rv hb
      cases neg with
      | false => exact SeqAt.in_listAt e pl.isList (fun z hz => he z (by simpa using hz)) (fin _ (by simpa using ha))
      | true => exact SeqAt.notIn_listAt e pl.isList (fun z hz => he z (by simpa using hz)) (fin _ (by simpa using ha))
    cases vy1 with
    | non => simp [seqV] at hs
    | bl _ => simp [seqV] at hs
    | int _ => simp [seqV] at hs
    | str _ => simp [seqV] at hs
    | fn _ => simp [seqV] at hs
    | tup hq hv =>
      cases hs
      cases r2
      obtain ⟨its, rv, pl, _⟩ := I.tuple hq
      obtain ⟨e, he, ha, _⟩ := any_eq I cl (A := X.A.in1) (by show X.A.units + 1 + 60 < cLine; omega) vx1 r1 hv rv hb
      cases neg with
      | false => exact SeqAt.in_tupleAt e pl (fun z hz => he z (by simpa using hz)) (fin _ (by simpa using ha))
      | true => exact SeqAt.notIn_tupleAt e pl (fun z hz => he z (by simpa using hz)) (fin _ (by simpa using ha))
    | ref i =>
      simp only [seqV] at hs
      split at hs
      · rename_i xs h1
        cases hs
        obtain ⟨vs, h2, hv⟩ := cl.obs _ _ h1
        exact seqL r2 (SqL.of h2) hv
      · rename_i xs h1
        cases hs
        obtain ⟨vs, h2, hv⟩ := cl.obs _ _ h1
        exact seqL r2 h2.sq hv
      · cases hs
  have dict : ∀ (kvs : List (Val × Val)) (k : NestedKey), dctV S y = some kvs → keyD x = some k → b = (atK kvs k).isSome → wpAny (model X.prog X.w) X.A (compareOp (if neg then .NotIn else .In) u1 u2) (EP X pins σ Q) X.xe s := fun kvs k hd hk e => by
    subst e
    have kin := keyIn_of I c hx r1 hk
    have go : ∀ {a : Addr} {T : List DE}, u2 = .ref a → kvs = T.map DE.kv → (a == sysModules) = false ∧ DictN X.w s.heap a (T.map DE.ne) → (∀ t ∈ T, t.Ok) → wpAny (model X.prog X.w) X.A (compareOp (if neg then .NotIn else .In) u1 u2) (EP X pins σ Q) X.xe s := fun {a T} e1 e2 m ho => by
      subst e1; subst e2
      have at_ : (atN (T.map DE.ne) k).isSome = (atK (T.map DE.kv) k).isSome := by
        unfold atN atK
        rw [Option.isSome_map, Option.isSome_map, Bool.eq_iff_iff, List.find?_isSome, List.find?_isSome]
        constructor
        · rintro ⟨z, hz, ez⟩
          obtain ⟨t, ht, rfl⟩ := List.mem_map.mp hz
          refine ⟨t.kv, List.mem_map.mpr ⟨t, ht, rfl⟩, ?_⟩
          have : t.nk = k := of_decide_eq_true ez
          simp [DE.kv, (ho t ht).key, this]
        · rintro ⟨z, hz, ez⟩
          obtain ⟨t, ht, rfl⟩ := List.mem_map.mp hz
          refine ⟨t.ne, List.mem_map.mpr ⟨t, ht, rfl⟩, ?_⟩
          have : keyV t.k = some k := of_decide_eq_true ez
          rw [(ho t ht).key] at this
          exact decide_eq_true (Option.some.inj this)
      rw [← at_] at q
      cases neg with
      | false => exact inN (by omega) m.1 kin m.2 ⟨.bl _, H, I.tok _, rfl, q⟩
      | true => exact notInN (by omega) m.1 kin m.2 ⟨.bl _, H, I.tok _, rfl, q⟩
    unfold dctV at hd
    split at hd
    · rename_i i
      split at hd
      · rename_i us hs
        cases hd
        obtain ⟨a, T, rfl, e2, h3, h4, h5, h6, h7⟩ := c.dct hy hs
        exact go r2 e2 (dctN_of I xo.w (.inl h3) h5 h6 h7 fun t ht q hq => List.mem_append_left _ (List.mem_flatMap.mpr ⟨t, ht, hq⟩)) h6
      · rename_i us hs
        cases hd
        obtain ⟨a, od, T, rfl, e2, h3, h4, h5, h6, h7⟩ := c.fdc hy hs
        exact go r2 e2 (dctN_of I xo.w (.inr ⟨od, h3⟩) h5 h6 h7 fun t ht q hq => List.mem_append_left _ (List.mem_flatMap.mpr ⟨t, ht, hq⟩)) h6
      · cases hd
    · cases hd
  have sets : ∀ (xs : List Val) (k : Key), setV S y = some xs → keyS x = some k → b = (xs.any fun u => decide (keyS u = some k)) → wpAny (model X.prog X.w) X.A (compareOp (if neg then .NotIn else .In) u1 u2) (EP X pins σ Q) X.xe s := fun xs k hd hk e => by
    subst e
    unfold setV at hd
    split at hd
    · split at hd
      · rename_i hs
        cases hd
        obtain ⟨a, ks, rfl, rfl, e3⟩ := c.setC hy hs
        have G := (I.hok a _ e3).1
        cases r2
        have isk : keyIs k u1 = true := by
          obtain ⟨loc, cl⟩ := c
          have v1 := (cl.vals _ hx).1
          cases v1 <;> simp [keyS] at hk <;> subst hk <;> obtain ⟨t, rfl⟩ := r1
          · exact keyIs_int _ _
          · exact keyIs_str _ _
        obtain ⟨nd, o, es, ep, t, ho, hxx, hd, gd, pm, few, fit, _⟩ := G
        have SO : s.heap.SetOf (mixKind X.prog X.w) a (fun j => ks.any fun i => decide (i = j)) es.size := by
          rw [xo.w] at gd
          refine ⟨o, es, ep, t, ho, hxx, hd, goodK_elems gd, fun j => ?_, few, fit, rfl⟩
          rw [any_key, ← pm.mem_iff, List.mem_map]
          exact ⟨fun ⟨e, he, q⟩ => ⟨e, he, (goodK_is (gd e he)).mpr q⟩, fun ⟨e, he, q⟩ => ⟨e, he, (goodK_is (gd e he)).mp q⟩⟩
        have ea : ((ks.map kVal).any fun u => decide (keyS u = some k)) = (ks.any fun i => decide (i = k)) := by
          rw [Bool.eq_iff_iff, List.any_eq_true, any_key]
          constructor
          · rintro ⟨u, hu, e⟩
            obtain ⟨j, hj, rfl⟩ := List.mem_map.mp hu
            have e1 : keyS (kVal j) = some j := keyS_val j
            rw [decide_eq_true_eq, e1] at e
            cases e
            exact hj
          · intro hj
            exact ⟨_, List.mem_map.mpr ⟨k, hj, rfl⟩, by rw [decide_eq_true_eq]; exact keyS_val k⟩
        rw [ea] at q
        cases neg with
        | false => exact wpAny_inSet_of (knd := mixKind X.prog X.w) isk (keyIs_scan isk) SO ⟨.bl _, H, I.tok _, rfl, q⟩
        | true => exact wpAny_notInSet_of (knd := mixKind X.prog X.w) isk (keyIs_scan isk) SO ⟨.bl _, H, I.tok _, rfl, q⟩
      · cases hd
    · cases hd
  unfold inV at h
  split at h
  · rename_i z
    split at h
    · rename_i d
      cases h
      have e1 := c.str hx
      have e2 := c.str hy
      subst e1; subst e2
      have e3 : (stx z).cps.toList = z := by simp [stx]
      cases neg with
      | false => exact op_in_sign pins s σ H _ _ _ _ _ I r1 r2 ⟨d, stx z, rfl, rfl, by rw [e3]; exact q⟩
      | true => exact op_notIn_sign pins s σ H _ _ _ _ _ I r1 r2 ⟨d, stx z, rfl, rfl, by rw [e3]; exact q⟩
    · cases h
  · split at h
    · rename_i ys hs
      exact lists ys hs h
    · split at h
      · rename_i kvs hd
        obtain ⟨k, hk, rfl⟩ := Option.map_eq_some_iff.mp h
        exact dict kvs k hd hk rfl
      · split at h
        · rename_i xs k hd hk
          cases h
          exact sets xs k hd hk rfl
        · cases h
theorem is_cases {F : Fm} {S : Sto} {H : Hp} {P : List (Val × V)} (c : Ctx X.K FV F S H P) {x y : Val} {vx vy : V} (hx : (x, vx) ∈ P) (hy : (y, vy) ∈ P) {b : Bool} (h : isV x y = some b) :
    (vy = .non ∧ b = decide (vx = .non)) ∨ ∃ a b', vx = .bl a ∧ vy = .bl b' ∧ b = decide (a = b') := by
  unfold isV at h
  split at h
  · left
    have e := c.non hy
    subst e
    refine ⟨rfl, ?_⟩
    split at h
    · cases h; rw [c.non hx]; rfl
    · cases h
    · rename_i n1 n2
      cases h
      obtain ⟨loc, cl⟩ := c
      have v := (cl.vals _ hx).1
      cases v with
      | non => exact absurd rfl n1
      | fn _ => exact absurd rfl (n2 _)
      | _ => rfl
  · right
    split at h
    · cases h
      exact ⟨_, _, c.bl hx, c.bl hy, rfl⟩
    · cases h
  · cases h
theorem cps_stx (i : Tx) : (stx i).cps.toList = i := by simp [stx]
theorem opi_cmp (xo : XOk X FV) (o : CmpOp) : OpI X FV (compareOp o) (cmpV o) := by
  intro pins s σ H vx vy u1 u2 Q I r1 r2 ⟨F, S, P, x, y, z, S', h, c, hx, hy, q⟩
  have room := xo.room
  cases o with
  | Lt =>
    simp only [cmpV] at h
    split at h
    · obtain ⟨rfl, rfl⟩ := ret_ok h
      exact op_lt pins s σ H _ _ _ _ _ I r1 r2 ⟨_, _, c.int hx, c.int hy, q _ _ (c.addBl _)⟩
    · obtain ⟨rfl, rfl⟩ := ret_ok h
      exact op_lt_str pins s σ H _ _ _ _ _ I r1 r2 ⟨_, _, c.str hx, c.str hy, by rw [cps_stx, cps_stx]; exact q _ _ (c.addBl _)⟩
    · exact (stop_ok h).elim
  | LtE =>
    simp only [cmpV] at h
    split at h
    · obtain ⟨rfl, rfl⟩ := ret_ok h
      exact op_le pins s σ H _ _ _ _ _ I r1 r2 ⟨_, _, c.int hx, c.int hy, q _ _ (c.addBl _)⟩
    · obtain ⟨rfl, rfl⟩ := ret_ok h
      exact op_le_str pins s σ H _ _ _ _ _ I r1 r2 ⟨_, _, c.str hx, c.str hy, by rw [cps_stx, cps_stx]; exact q _ _ (c.addBl _)⟩
    · exact (stop_ok h).elim
  | Gt =>
    simp only [cmpV] at h
    split at h
    · obtain ⟨rfl, rfl⟩ := ret_ok h
      exact op_gt pins s σ H _ _ _ _ _ I r1 r2 ⟨_, _, c.int hx, c.int hy, q _ _ (c.addBl _)⟩
    · obtain ⟨rfl, rfl⟩ := ret_ok h
      exact op_gt_str pins s σ H _ _ _ _ _ I r1 r2 ⟨_, _, c.str hx, c.str hy, by rw [cps_stx, cps_stx]; exact q _ _ (c.addBl _)⟩
    · exact (stop_ok h).elim
  | GtE =>
    simp only [cmpV] at h
    split at h
    · obtain ⟨rfl, rfl⟩ := ret_ok h
      exact op_ge pins s σ H _ _ _ _ _ I r1 r2 ⟨_, _, c.int hx, c.int hy, q _ _ (c.addBl _)⟩
    · obtain ⟨rfl, rfl⟩ := ret_ok h
      exact op_ge_str pins s σ H _ _ _ _ _ I r1 r2 ⟨_, _, c.str hx, c.str hy, by rw [cps_stx, cps_stx]; exact q _ _ (c.addBl _)⟩
    · exact (stop_ok h).elim
  | Eq =>
    obtain ⟨b, h1, rfl, rfl⟩ := bl1_ok (show bl1 (eqD 60 S x y) S = _ from h)
    obtain ⟨loc, cl⟩ := id c
    exact (eqd_run I cl 60 X.A x y vx vy u1 u2 b (by omega) (cl.vals _ hx).1 (cl.vals _ hy).1 r1 r2 h1).1 _ _ _ _ ⟨.bl b, H, I, rfl, q _ _ (c.addBl b)⟩
  | NotEq =>
    obtain ⟨b', h1, rfl, rfl⟩ := bl1_ok (show bl1 ((eqD 60 S x y).map fun b => !b) S = _ from h)
    obtain ⟨b, h2, rfl⟩ := Option.map_eq_some_iff.mp h1
    obtain ⟨loc, cl⟩ := id c
    exact (eqd_run I cl 60 X.A x y vx vy u1 u2 b (by omega) (cl.vals _ hx).1 (cl.vals _ hy).1 r1 r2 h2).2.2 _ _ _ _ ⟨.bl _, H, I, rfl, q _ _ (c.addBl _)⟩
  | In =>
    obtain ⟨b, h1, rfl, rfl⟩ := bl1_ok (show bl1 (inV x y S) S = _ from h)
    exact in_run xo I c hx hy r1 r2 h1 false (q _ _ (c.addBl b))
  | NotIn =>
    obtain ⟨b', h1, rfl, rfl⟩ := bl1_ok (show bl1 ((inV x y S).map fun b => !b) S = _ from h)
    obtain ⟨b, h2, rfl⟩ := Option.map_eq_some_iff.mp h1
    exact in_run xo I c hx hy r1 r2 h2 true (q _ _ (c.addBl (!b)))
  | Is =>
    obtain ⟨b, h1, rfl, rfl⟩ := bl1_ok (show bl1 (isV x y) S = _ from h)
    rcases is_cases c hx hy h1 with ⟨e1, e2⟩ | ⟨a, b', e1, e2, e3⟩
    · exact op_isN pins s σ H _ _ _ _ _ I r1 r2 ⟨e1, by rw [← e2]; exact q _ _ (c.addBl _)⟩
    · exact op_isBl pins s σ H _ _ _ _ _ I r1 r2 ⟨a, b', e1, e2, by rw [← e3]; exact q _ _ (c.addBl _)⟩
  | IsNot =>
    obtain ⟨b', h1, rfl, rfl⟩ := bl1_ok (show bl1 ((isV x y).map fun b => !b) S = _ from h)
    obtain ⟨b, h2, rfl⟩ := Option.map_eq_some_iff.mp h1
    rcases is_cases c hx hy h2 with ⟨e1, e2⟩ | ⟨a, b', e1, e2, e3⟩
    · exact op_notN pins s σ H _ _ _ _ _ I r1 r2 ⟨e1, by rw [← e2]; exact q _ _ (c.addBl _)⟩
    · exact op_notBl pins s σ H _ _ _ _ _ I r1 r2 ⟨a, b', e1, e2, by rw [← e3]; exact q _ _ (c.addBl _)⟩
/-- a value's truth -/
theorem tru_of {F : Fm} {S S' : Sto} {H : Hp} {P : List (Val × V)} {x : Val} {w : V} {b : Bool} (c : Ctx X.K FV F S H P) (hx : (x, w) ∈ P) (h : truV x S = .ok b S') : S' = S ∧ TruV X.K w H b := by
  unfold truV at h
  split at h
  · cases h; have e := c.non hx; subst e; exact ⟨rfl, rfl⟩
  · cases h; have e := c.bl hx; subst e; exact ⟨rfl, rfl⟩
  · cases h; have e := c.int hx; subst e; exact ⟨rfl, rfl⟩
  · cases h
/-! ### the translation -/
structure TC where
  N : List Str
  names : List (Str × NameKind)
  fns : List (Str × Nat)
  cons : List (Str × Val)
  blts : List Str
  kt : List Site
def kwNames : List Keyword → Option (List Str)
  | [] => some []
  | k :: ks => match k.arg, kwNames ks with
    | some n, some ns => some (n :: ns)
    | _, _ => none
def trK : Const → Option Val
  | .none => some .non
  | .bool b => some (.bl b)
  | .int i => some (.int i)
  | .str s => some (.str s.cps.toList)
  | _ => none
def trL (f : Expr → Option ME) : List Expr → Option (List ME)
  | [] => some []
  | e :: es => match f e, trL f es with
    | some m, some ms => some (m :: ms)
    | _, _ => none
def trO (f : Expr → Option ME) : Option Expr → Option (List ME)
  | none => some []
  | some e => (f e).map fun m => [m]
def trD (f : Expr → Option ME) : List (Option Expr) → List Expr → Option (List ME)
  | [], [] => some []
  | some k :: ks, v :: vs => match f k, f v, trD f ks vs with
    | some m, some m', some ms => some (m :: m' :: ms)
    | _, _, _ => none
  | _, _ => none
def bfTab : List (String × Nat × BF) := [("len", 1, .len), ("abs", 1, .abs), ("int", 1, .int), ("all", 1, .all), ("sum", 1, .sum), ("repr", 1, .repr), ("list", 1, .list), ("tuple", 1, .tuple), ("sorted", 1, .sorted), ("max", 2, .max2), ("min", 2, .min2), ("set", 1, .set), ("dict", 1, .dict)]
def bfOf (x : Str) (n : Nat) : Option BF := (bfTab.find? fun p => (x == Str.ofString p.1) && p.2.1 == n).map (·.2.2)
def tyTab : List (String × TyR) := [("int", .int), ("bool", .bool), ("str", .str), ("list", .list), ("tuple", .tuple), ("dict", .dict)]
def tyOf (x : Str) : Option TyR := (tyTab.find? fun p => x == Str.ofString p.1).map (·.2)
def bmTab : List (String × BM) := [("append", .append), ("pop", .pop), ("insert", .insert), ("extend", .extend), ("clear", .clear), ("reverse", .reverse), ("join", .join), ("index", .index), ("count", .count), ("get", .get), ("setdefault", .setdefault)]
def bmOf (x : Str) : Option BM := (bmTab.find? fun p => x == Str.ofString p.1).map (·.2)
def isTupE : Expr → Bool
  | .Tuple .. => true
  | _ => false
/-- the receiver is no super() -/
def baseOk : Expr → Bool
  | .Call (.Name x _) [] [] _ => x != "super"
  | _ => true
def plainIxB : Expr → Bool
  | .Slice .. => false
  | _ => true
def trAnd (f : Expr → Option ME) : List Expr → Option ME
  | [] => none
  | [e] => f e
  | e :: es => match f e, trAnd f es with
    | some m, some ms => some (.and m ms)
    | _, _ => none
def trOr (f : Expr → Option ME) : List Expr → Option ME
  | [] => none
  | [e] => f e
  | e :: es => match f e, trOr f es with
    | some m, some ms => some (.or m ms)
    | _, _ => none
def plainNm (x : Str) : Bool := !(x == ("__debug__" : Str)) && !(x == ("__classdict__" : Str)) && !(x == ("__name__" : Str))
def trN (Γ : TC) (x : Str) : Option ME := if plainNm x then match Γ.names.lookup x with
    | some .local => (Γ.N.findIdx? (· == x)).map .var
    | some .cell => (Γ.N.findIdx? (· == x)).map .var
    | some .free => (Γ.N.findIdx? (· == x)).map .var
    | some .globalImplicit => match Γ.cons.lookup x with
      | some v => some (.con v)
      | none => (Γ.fns.lookup x).map fun f => .con (.fn f)
    | _ => none
  else none
def trT : Nat → TC → Expr → Option Tg
  | 0, _, _ => none
  | n + 1, Γ, e => match e with
    | .Name x _ => if plainNm x then match Γ.names.lookup x with
        | some .local => (Γ.N.findIdx? (· == x)).map .nm
        | some .cell => (Γ.N.findIdx? (· == x)).map .nm
        | _ => none
      else none
    | .Tuple es _ _ => (trTs n Γ es).map .tp
    | _ => none
where trTs : Nat → TC → List Expr → Option (List Tg)
  | 0, _, _ => none
  | _ + 1, _, [] => some []
  | n + 1, Γ, e :: es => match trT n Γ e, trTs n Γ es with
    | some t, some ts => some (t :: ts)
    | _, _ => none
/-- the names that a target stores, with their places -/
def ownT : Nat → TC → Expr → List (Str × Nat)
  | 0, _, _ => []
  | n + 1, Γ, e => match e with
    | .Name x _ => match Γ.N.findIdx? (· == x) with
      | some i => [(x, i)]
      | none => []
    | .Tuple es _ _ => es.flatMap (ownT n Γ)
    | _ => []
def isB (Γ : TC) (x : Str) (b : Str) : Bool := (x == b) && decide (Γ.names.lookup x = some .globalImplicit) && Γ.blts.contains b
def blkScope (Γ : TC) : Scope := { kind := .function, names := Γ.names, isGenerator := false, isCoroutine := false }
/-- b(x.items()), b(x.values()) -/
def trVw (f : Expr → Option ME) (b : BF) : List Expr → Option ME
  | [.Call (.Attribute o name apos) [] [] cpos] => if baseOk o && (apos.endLine == cpos.line) && (name == "items" || name == "values") then (f o).map (.vw (name == "items") b) else none
  | _ => none
def trE : Nat → TC → Expr → Option ME
  | 0, _, _ => none
  | n + 1, Γ, e => match e with
    | .Constant k _ _ => (trK k).map .con
    | .Name x _ => trN Γ x
    | .BinOp a o b _ => match trE n Γ a, trE n Γ b with
      | some x, some y => some (.bin o x y)
      | _, _ => none
    | .UnaryOp .USub a _ => (trE n Γ a).map .neg
    | .UnaryOp .Not a _ => (trE n Γ a).map .not
    | .BoolOp .And es _ => trAnd (trE n Γ) es
    | .BoolOp .Or es _ => trOr (trE n Γ) es
    | .IfExp c a b _ => match trE n Γ c, trE n Γ a, trE n Γ b with
      | some z, some x, some y => some (.ite z x y)
      | _, _, _ => none
    | .Compare a [o] [b] _ => match trE n Γ a, trE n Γ b with
      | some x, some y => some (.cmp o x y)
      | _, _ => none
    | .Compare a [o, o'] [b, c] _ => match trE n Γ a, trE n Γ b, trE n Γ c with
      | some x, some y, some z => some (.chn o o' x y z)
      | _, _, _ => none
    | .Tuple es _ _ => (trL (trE n Γ) es).map .tup
    | .List es _ => (trL (trE n Γ) es).map .lst
    | .Dict ks vs _ => if ks.length ≤ 15 then (trD (trE n Γ) ks vs).map .dct else none
    | .Subscript a (.Slice lo hi none _) _ => match trE n Γ a, trO (trE n Γ) lo, trO (trE n Γ) hi with
      | some x, some l, some h => some (.sl x l h)
      | _, _, _ => none
    | .Subscript a (.Slice none none (some (.UnaryOp .USub (.Constant (.int 1) _ _) _)) _) _ => (trE n Γ a).map .rev
    | .Subscript a i _ => if plainIxB i then match trE n Γ a, trE n Γ i with
      | some x, some y => some (.ix x y)
      | _, _ => none
      else none
    | .Call (.Name "isinstance" _) [a, .Name t _] [] _ => if isB Γ "isinstance" "isinstance" && isB Γ t t then match trE n Γ a, tyOf t with
      | some x, some T => some (.isi x T)
      | _, _ => none
      else none
    | .Call (.Attribute o name apos) es [] cpos => if baseOk o && (apos.endLine == cpos.line) && decide (es.length < 29) then match trE n Γ o, bmOf name, trL (trE n Γ) es with
      | some x, some m, some ms => some (.mtd m x ms)
      | _, _, _ => none
      else none
    | .Call (.Name x _) as [] _ => if isB Γ x x then match bfOf x as.length, trL (trE n Γ) as with
      | some b, some ms => some (.blt b ms)
      | some b, none => trVw (trE n Γ) b as
      | _, _ => none
      else if plainNm x then match Γ.names.lookup x, Γ.fns.lookup x, trL (trE n Γ) as with
      | some .globalImplicit, some f, some ms => some (.cal f ms)
      | _, _, _ => none
      else none
    | .Call (.Name x _) as (kw :: kws) _ => if plainNm x then match Γ.names.lookup x, Γ.fns.lookup x, trL (trE n Γ) as, trL (trE n Γ) ((kw :: kws).map (·.value)), kwNames (kw :: kws) with
      | some .globalImplicit, some f, some ms, some ms2, some ks => (Γ.kt.find? fun st => st.f == f && st.n == as.length && st.ks == ks).map fun st => .calk f (ms ++ ms2) st.perm
      | _, _, _, _, _ => none
      else none
    | .ListComp elt [⟨tg, it, cs, 0⟩] sc _ =>
      if blkC Γ.N (blkScope Γ) sc (ownT n { Γ with names := sc.names } tg) then match trE n { Γ with names := sc.names } elt, trT n { Γ with names := sc.names } tg, trI n Γ tg it, cs with
        | some m, some t, some i, [] => some (.lc m t i [])
        | some m, some t, some i, [c] => (trE n { Γ with names := sc.names } c).map fun k => .lc m t i [k]
        | _, _, _, _ => none
      else none
    | .ListComp elt [⟨tg, it, [], 0⟩, ⟨tg1, it1, cs1, 0⟩] sc _ =>
      if blkC Γ.N (blkScope Γ) sc (ownT n { Γ with names := sc.names } tg ++ ownT n { Γ with names := sc.names } tg1) then match trE n { Γ with names := sc.names } elt, trT n { Γ with names := sc.names } tg, trI n Γ tg it, trT n { Γ with names := sc.names } tg1, trI n { Γ with names := sc.names } tg1 it1, cs1 with
        | some m, some t, some i, some t1, some i1, [] => some (.lc2 m t i [] t1 i1 [])
        | some m, some t, some i, some t1, some i1, [c] => (trE n { Γ with names := sc.names } c).map fun k => .lc2 m t i [] t1 i1 [k]
        | _, _, _, _, _, _ => none
      else none
    | _ => none
where trI : Nat → TC → Expr → Expr → Option IT
  | 0, _, _, _ => none
  | n + 1, Γ, tg, e => match e with
    | .Call (.Name x _) [a] [] _ => if isB Γ x "range" then (trE n Γ a).map .rng1 else if isB Γ x "enumerate" && isTupE tg then (trE n Γ a).map .enu else (trE n Γ e).map .ex
    | .Call (.Name x _) [a, b] [] _ => if isB Γ x "range" then match trE n Γ a, trE n Γ b with
        | some m, some k => some (.rng2 m k)
        | _, _ => none
      else if isB Γ x "zip" && isTupE tg then match trE n Γ a, trE n Γ b with
        | some m, some k => some (.zip m k)
        | _, _ => none
      else (trE n Γ e).map .ex
    | .Call (.Name x _) [a, b, c] [] _ => if isB Γ x "range" then match trE n Γ a, trE n Γ b, trE n Γ c with
        | some m, some k, some l => some (.rng3 m k l)
        | _, _, _ => none
      else (trE n Γ e).map .ex
    | .Call (.Attribute o name apos) [] [] cpos => if baseOk o && (apos.endLine == cpos.line) && (name == "items") && isTupE tg then (trE n Γ o).map .itm else if baseOk o && (apos.endLine == cpos.line) && (name == "values") then (trE n Γ o).map .vls else (trE n Γ e).map .ex
    | _ => (trE n Γ e).map .ex
end
end MP
set_option linter.all false
set_option Elab.async false
set_option maxHeartbeats 2000000
set_option pp.deepTerms false
set_option pp.deepTerms.threshold 9
/-! the built-in functions -/
namespace MP
open PySem L2 PySem.Spec PyProof.Rows
def rC (K : PySem.W.Frag) (FV : Glo) (f : List Val → M Val) : List V → Hp → VK → Prop := fun ws H Q => ∃ F S P xs v S', f xs S = .ok v S' ∧ xs.length = ws.length ∧ Ctx K FV F S H P ∧ (∀ q ∈ xs.zip ws, q ∈ P) ∧ ∀ w H', Ctx K FV F S' H' ((v, w) :: P) → Q w H'
section
variable {X : Cx} {FV : Glo} {pins : List (Addr × Obj)} {σ : L2.St} {H : Hp} {s : Shared} {F : Fm} {S : Sto} {P : List (Val × V)}
/-- one argument -/
theorem rc1 {x : Val} {ws : List V} {us : List Value} (hl : [x].length = ws.length) (hz : ∀ q ∈ [x].zip ws, q ∈ P) (r : Vals ws us) : ∃ w u, ws = [w] ∧ us = [u] ∧ (x, w) ∈ P ∧ RelV w u := by
  cases r with
  | nil => simp at hl
  | cons r1 r2 =>
    cases r2 with
    | nil => exact ⟨_, _, rfl, rfl, hz _ (by simp), r1⟩
    | cons _ _ => simp at hl
theorem rc2 {x y : Val} {ws : List V} {us : List Value} (hl : [x, y].length = ws.length) (hz : ∀ q ∈ [x, y].zip ws, q ∈ P) (r : Vals ws us) : ∃ w w' u u', ws = [w, w'] ∧ us = [u, u'] ∧ (x, w) ∈ P ∧ (y, w') ∈ P ∧ RelV w u ∧ RelV w' u' := by
  cases r with
  | nil => simp at hl
  | cons r1 r2 =>
    cases r2 with
    | nil => simp at hl
    | cons r2 r3 =>
      cases r3 with
      | nil => exact ⟨_, _, _, _, rfl, rfl, hz _ (by simp), hz _ (by simp), r1, r2⟩
      | cons _ _ => simp at hl
/-- a list or a tuple -/
theorem seq_of (c : Ctx X.K FV F S H P) {x : Val} {w : V} {xs : List Val} (hx : (x, w) ∈ P) (h : seqV S x = some xs) : ∃ a ys, w = .ref a ∧ xs.length = ys.length ∧ Ctx X.K FV F S H (xs.zip ys ++ P) ∧ ((SqL X.K H a ys ∧ ∃ i, x = .ref i) ∨ (SqT X.K H a ys ∧ x = .tup xs)) := by
  unfold seqV at h
  split at h
  · cases h
    obtain ⟨a, ys, e, h1, h2, h3⟩ := c.tup hx
    exact ⟨a, ys, e, h2, h3, .inr ⟨h1, rfl⟩⟩
  · split at h
    · rename_i hs
      cases h
      obtain ⟨a, ys, e, h1, h2, h3⟩ := c.lst hx hs
      exact ⟨a, ys, e, h2, h3, .inl ⟨SqL.of h1, _, rfl⟩⟩
    · rename_i hs
      cases h
      obtain ⟨a, ys, e, h1, h2, h3⟩ := c.rol hx hs
      exact ⟨a, ys, e, h2, h3, .inl ⟨h1, _, rfl⟩⟩
    · cases h
  · cases h
/-- a dict -/
theorem dct_of (I : Inv X pins σ H s) (xo : XOk X FV) (c : Ctx X.K FV F S H P) {x : Val} {w : V} {kvs : List (Val × Val)} (hx : (x, w) ∈ P) (h : dctV S x = some kvs) : ∃ (a : Addr) (T : List DE), w = .ref a ∧ kvs = T.map DE.kv ∧ (a == sysModules) = false ∧ DictN X.w s.heap a (T.map DE.ne) ∧ T.length ≤ sizeLine ∧ (T.map DE.nk).Nodup ∧ (∀ t ∈ T, t.Ok) ∧
    Ctx X.K FV F S H (T.flatMap DE.held ++ P) ∧ ∀ t ∈ T, ∀ q ∈ t.held, q ∈ T.flatMap DE.held ++ P := by
  have hh : ∀ T : List DE, ∀ t ∈ T, ∀ q ∈ t.held, q ∈ T.flatMap DE.held ++ P := fun T t ht q hq => List.mem_append_left _ (List.mem_flatMap.mpr ⟨t, ht, hq⟩)
  unfold dctV at h
  split at h
  · split at h
    · rename_i us hs
      cases h
      obtain ⟨a, T, e1, e2, h3, h4, h5, h6, h7⟩ := c.dct hx hs
      obtain ⟨m1', m2'⟩ := dctN_of I xo.w (.inl h3) h5 h6 h7 (hh T)
      exact ⟨a, T, e1, e2, m1', m2', h4, h5, h6, h7, hh T⟩
    · rename_i us hs
      cases h
      obtain ⟨a, od, T, e1, e2, h3, h4, h5, h6, h7⟩ := c.fdc hx hs
      obtain ⟨m1', m2'⟩ := dctN_of I xo.w (.inr ⟨od, h3⟩) h5 h6 h7 (hh T)
      exact ⟨a, T, e1, e2, m1', m2', h4, h5, h6, h7, hh T⟩
    · cases h
  · cases h
theorem DictN.raw {w : World} {h : Heap} {a : Addr} {xs : List NE} (m : DictN w h a xs) : ∃ es ep, h.DictRaw a es ep ∧ es.toList = xs.map (entN w) := by
  obtain ⟨o, es, ep, h1, h2, h3, h4⟩ := m.ex
  exact ⟨es, ep, ⟨o, h1, h2, h3⟩, h4⟩
theorem all_ofs {α : Type} {f : Val → Option α} {g : α → V} {loc : Nat → Addr} (hf : ∀ (v : Val) (w : V) (a : α), VR X.K FV loc H v w → f v = some a → w = g a) : ∀ {xs : List Val} {ys : List V} {as : List α}, VRs X.K FV loc H xs ys → optAll f xs = some as → ys = as.map g
  | [], _, as, h, q => by unfold optAll at q; cases q; cases h; rfl
  | x :: xs, _, as, h, q => by
    cases h with
    | cons h1 h2 =>
      unfold optAll at q
      split at q
      · rename_i q1 q2
        cases q
        rw [List.map_cons, hf _ _ _ h1 q1, all_ofs hf h2 q2]
      · cases q
theorem blOf_rel {loc : Nat → Addr} (v : Val) (w : V) (b : Bool) (h : VR X.K FV loc H v w) (q : blOf v = some b) : w = .bl b := by
  cases h <;> simp [blOf] at q
  subst q; rfl
theorem intOf_rel {loc : Nat → Addr} (v : Val) (w : V) (b : Int) (h : VR X.K FV loc H v w) (q : intOf v = some b) : w = .int b := by
  cases h <;> simp [intOf] at q
  subst q; rfl
theorem stx_of_cps (z : Str) : stx z.cps.toList = z := by cases z; simp [stx]
theorem strOf_rel {loc : Nat → Addr} (v : Val) (w : V) (b : Tx) (h : VR X.K FV loc H v w) (q : strOf v = some b) : w = .str (stx b) := by
  cases h <;> simp [strOf] at q
  subst q; rfl
theorem vrs_of {xs : List Val} {ys : List V} (c : Ctx X.K FV F S H P) (hl : xs.length = ys.length) (h : ∀ q ∈ xs.zip ys, q ∈ P) : ∃ loc, VRs X.K FV loc H xs ys := by
  obtain ⟨loc, c⟩ := c
  exact ⟨loc, VRs.of_zip hl fun q hq => (c.vals q (h q hq)).1⟩
theorem zin {xs : List Val} {ys : List V} : ∀ q ∈ xs.zip ys, q ∈ xs.zip ys ++ P := fun q hq => List.mem_append_left _ hq
/-- len(d) of a dict -/
theorem len_dct {A : Around} {E : Value → Shared → Prop} {prog : Program} {w : World} {d : Addr} {es : Array DictEntry} {ep : Nat} {Q : Value → Shared → Prop} (hs : (d == sysModules) = false) (hm : s.heap.DictRaw d es ep) (hz : es.size ≤ sizeLine)
    (h : ∀ t, Q (.int es.size t) { s with toks := s.toks + 1 + 1 }) : wpAny (model prog w) A (call (.builtin "len") [.ref d]) Q E s := by
  have hl : (sizeLine : Nat) < 2 ^ 62 := by decide
  refine Calls.call_function_entry kind_len plain_len entry_len (args_len1 _) ?_
  unfold Builtin.«len»
  refine wpAny_bind (wpAny_pure (show wpAny _ _ _ _ _ _ from ?_))
  refine wpAny_bind (wpAny_callSpecial?_slot (name := Str.ofString "__len__") hm.typeIs PySem.F.slot_dict_len (call_len_raw hs hm ?_))
  refine wpAny_bind (wpAny_holding (wpAny_pure ?_))
  refine wpAny_bind (wpAny_letGo ?_)
  dsimp only
  rw [if_neg (by omega), if_neg (by omega)]
  exact wpAny_bind (wpAny_mkInt (wpAny_pure ⟨_, rfl, h _⟩))
/-- the items behind a sort -/
theorem each_of {α β : Type} {R : α → β → Prop} : ∀ {xs : List α} {ys : List β}, xs.length = ys.length → (∀ (j : Nat) (x : α) (y : β), xs[j]? = some x → ys[j]? = some y → R x y) → PySem.W.EachIs R xs ys
  | [], [], _, _ => .nil
  | x :: xs, y :: ys, h, q => .cons (q 0 x y rfl rfl) (each_of (by simpa using h) fun j a b h1 h2 => q (j + 1) a b (by simpa using h1) (by simpa using h2))
  | [], _ :: _, h, _ => by simp at h
  | _ :: _, [], h, _ => by simp at h
theorem of_each {α β : Type} {R : α → β → Prop} : ∀ {xs : List α} {ys : List β}, PySem.W.EachIs R xs ys → xs.length = ys.length ∧ ∀ (j : Nat) (x : α) (y : β), xs[j]? = some x → ys[j]? = some y → R x y
  | _, _, .nil => ⟨rfl, fun j x y h _ => by simp at h⟩
  | _, _, .cons h r => ⟨by simp [(of_each r).1], fun j x y h1 h2 => by
      cases j with
      | zero => simp at h1 h2; subst h1; subst h2; exact h
      | succ j => exact (of_each r).2 j x y (by simpa using h1) (by simpa using h2)⟩
/-- a value of the list that a sort has, its reading -/
def SR (xs : List (Val × V)) (v : Value) (x : Val) : Prop := ∃ w, (x, w) ∈ xs ∧ RelV w v
theorem sr_list {xs : List (Val × V)} : ∀ {out : List Value} {bs : List Val}, PySem.W.EachIs (SR xs) out bs → ∃ ws : List V, Vals ws out ∧ bs.length = ws.length ∧ ∀ q ∈ bs.zip ws, q ∈ xs
  | _, _, .nil => ⟨[], .nil, rfl, by simp⟩
  | _, _, .cons h r => by
    obtain ⟨w, h1, h2⟩ := h
    obtain ⟨ws, r1, r2, r3⟩ := sr_list r
    refine ⟨w :: ws, .cons h2 r1, by simp [r2], fun q hq => ?_⟩
    rw [List.zip_cons_cons] at hq
    rcases List.mem_cons.mp hq with rfl | hq
    · exact h1
    · exact r3 q hq
theorem sr_of {xs : List Val} {ys : List V} {us : List Value} (hl : xs.length = ys.length) (rv : Vals ys us) : PySem.W.EachIs (SR (xs.zip ys)) us xs :=
  each_of (by rw [hl, rv.length]) fun j u x hu hx => by
    have l1 : j < ys.length := by rw [rv.length]; exact (List.getElem?_eq_some_iff.mp hu).1
    obtain ⟨u', e, r⟩ := rv.get (List.getElem?_eq_getElem l1)
    rw [hu] at e
    cases e
    exact ⟨ys[j], List.mem_iff_getElem?.mpr ⟨j, List.getElem?_zip_eq_some.mpr ⟨hx, List.getElem?_eq_getElem l1⟩⟩, r⟩
theorem data_of (I : Inv X pins σ H s) (xo : XOk X FV) (c : Ctx X.K FV F S H P) {xs : List Val} {ys : List V} {us : List Value} (h : ∀ q ∈ xs.zip ys, q ∈ P) (hd : ∀ v ∈ xs, ∃ d, datV 20 S v = some d) (hl : xs.length = ys.length) (rv : Vals ys us) :
    PySem.W.EachIs (fun v b => ∃ as, Reads s.heap v ((datV 20 S b).getD .none) as) us xs :=
  each_of (by rw [hl, rv.length]) fun j u x hu hx => by
    have l1 : j < ys.length := by rw [rv.length]; exact (List.getElem?_eq_some_iff.mp hu).1
    obtain ⟨u', e, r⟩ := rv.get (List.getElem?_eq_getElem l1)
    rw [hu] at e
    cases e
    obtain ⟨loc, cl⟩ := c
    obtain ⟨d, hd⟩ := hd x (List.mem_of_getElem? hx)
    obtain ⟨as, q, _⟩ := vr_data I xo.sm cl 20 x ys[j] u d (cl.vals _ (h (x, ys[j]) (List.mem_iff_getElem?.mpr ⟨j, List.getElem?_zip_eq_some.mpr ⟨hx, List.getElem?_eq_getElem l1⟩⟩))).1 r hd
    exact ⟨as, by rw [hd]; exact q⟩
theorem dp20 {x : Val} : ((datV 20 S x).getD .none).depth ≤ 20 := by
  cases h : datV 20 S x with
  | none => simp [PyData.depth]
  | some d => exact depth_le 20 x d h
/-- sorted(xs), a list -/
theorem sorted_seq (I : Inv X pins σ H s) (xo : XOk X FV) (c : Ctx X.K FV F S H P) {a : Addr} {xs : List Val} {ys : List V} {Q : VK} (hq : SqL X.K H a ys) (hl : xs.length = ys.length) (h : ∀ q ∈ xs.zip ys, q ∈ P) (ok : srtOk S xs)
    (q : ∀ w H', Ctx X.K FV F (S ++ [.lst (srtD S xs)]) H' ((.ref S.length, w) :: P) → Q w H') : wpAny (model X.prog X.w) X.A (call (.builtin "sorted") [.ref a]) (EP X pins σ Q) X.xe s := by
  obtain ⟨its, rv, pl, _⟩ := I.list hq
  have room := xo.room
  refine PySem.W.sorted_data (enc := fun v => (datV 20 S v).getD .none) (R := SR (xs.zip ys)) pl.isList (sr_of hl rv) (data_of I xo c h ok.2.1 hl rv) ok.2.2.1 ok.2.2.2 ok.1 (fun b _ => by have := dp20 (S := S) (x := b); omega) fun out ho e => ?_
  obtain ⟨ws, r1, r2, r3⟩ := sr_list e
  obtain ⟨k, hk⟩ := sortedAll_at s.heap its out.toArray
  have hz : ws.length ≤ sizeLine := by rw [r1.length, ho]; exact ok.1
  have hf : H (s.heap.objs.size + 1) = none := I.hok.fresh (Nat.le_succ _)
  refine ⟨.ref (s.heap.objs.size + 1), upd H (s.heap.objs.size + 1) (.lst ws), I.laid (t' := s.toks) (fun _ _ z => sortedAll_old z) (Nat.le_succ _) ⟨hz, out, k, r1, hk⟩, rfl, q _ _ ?_⟩
  exact (c.newLst hf r2 (fun p hp => h p (r3 p hp))).sub fun p hp => by
    rcases List.mem_cons.mp hp with rfl | hp
    · exact List.mem_cons_self
    · exact List.mem_cons_of_mem _ hp
theorem reads_lt {h : Heap} {v : Value} {d : PyData} {as : List Addr} (r : Reads h v d as) : ∀ a ∈ as, a < h.objs.size := by
  refine Reads.rec (motive_1 := fun _ _ as _ => ∀ a ∈ as, a < h.objs.size) (motive_2 := fun _ _ as _ => ∀ a ∈ as, a < h.objs.size) ?_ ?_ ?_ ?_ ?_ ?_ ?_ ?_ ?_ r
  · intro a h; cases h
  · intro _ a h; cases h
  · intro _ _ a h; cases h
  · intro _ _ a h; cases h
  · intro a o vs n xs as h1 h2 h3 h4 ih b hb
    rcases List.mem_cons.mp hb with rfl | hb
    · exact Heap.lt_size h1
    · exact ih b hb
  · intro a o vs n xs as h1 h2 h3 h4 ih b hb
    exact ih b hb
  · intro a o es n kvs as bs h1 h2 h3 h4 h5 ih1 ih2 b hb
    rcases List.mem_append.mp hb with hb | hb
    · rcases List.mem_cons.mp hb with rfl | hb
      · exact Heap.lt_size h1
      · exact ih1 b hb
    · exact ih2 b hb
  · intro a h; cases h
  · intro v vs d ds as bs _ _ ih1 ih2 b hb
    rcases List.mem_append.mp hb with hb | hb
    · exact ih1 b hb
    · exact ih2 b hb
/-- the keys of a dict, as a sort or a list has them -/
theorem keys_vals {T : List DE} {w : World} {es : Array DictEntry} {acc : Array Value} (he : es.toList = (T.map DE.ne).map (entN w)) (ho : ∀ t ∈ T, t.Ok) (ha : ItemsOf (fun i v => ∃ hi : i < es.size, v = es[i].key) acc es.size) : Vals (T.map DE.kw) acc.toList := by
  have hsz : es.size = T.length := by rw [← Array.length_toList, he]; simp
  have : acc.toList = T.map DE.ku := by
    apply List.ext_getElem?
    intro j
    by_cases hj : j < T.length
    · have h1 : j < acc.size := by rw [ha.1, hsz]; exact hj
      obtain ⟨hi, e⟩ := ha.2 j acc[j] (Array.getElem?_eq_getElem h1)
      rw [List.getElem?_map, List.getElem?_eq_getElem hj, Array.getElem?_toList, Array.getElem?_eq_getElem h1, e]
      have h2 : es.toList[j]? = some (entN w T[j].ne) := by rw [he, List.getElem?_map, List.getElem?_map, List.getElem?_eq_getElem hj]; rfl
      rw [Array.getElem?_toList, Array.getElem?_eq_getElem hi] at h2
      rw [Option.some.inj h2]
      rfl
    · rw [List.getElem?_eq_none (by rw [Array.length_toList, ha.1, hsz]; omega), List.getElem?_eq_none (by simp; omega)]
  rw [this]
  have go : ∀ T : List DE, (∀ t ∈ T, t.Ok) → Vals (T.map DE.kw) (T.map DE.ku) := fun T => by
    induction T with
    | nil => intro _; exact .nil
    | cons t T ih => intro h; exact .cons (h t List.mem_cons_self).rk (ih fun u hu => h u (List.mem_cons_of_mem _ hu))
  exact go T ho
theorem keys_zip {T : List DE} (h : ∀ t ∈ T, ∀ q ∈ t.held, q ∈ P) : ((T.map DE.kv).map (·.1)).length = (T.map DE.kw).length ∧ ∀ q ∈ ((T.map DE.kv).map (·.1)).zip (T.map DE.kw), q ∈ P := by
  refine ⟨by simp, fun q hq => ?_⟩
  rw [List.map_map, List.zip_map_left, List.zip_map_right] at hq
  simp only [List.mem_map] at hq
  obtain ⟨⟨a, b⟩, ⟨⟨c, d⟩, hcd, e1⟩, e2⟩ := hq
  have hd : c = d := by
    obtain ⟨j, hj, e⟩ := List.getElem_of_mem hcd
    rw [List.getElem_zip] at e
    cases e; rfl
  subst hd
  cases e1
  cases e2
  exact h c (List.of_mem_zip hcd).1 _ List.mem_cons_self
/-- sorted(d) of a dict: its keys -/
theorem sorted_dct (I : Inv X pins σ H s) (xo : XOk X FV) (c : Ctx X.K FV F S H P) {a : Addr} {T : List DE} {Q : VK} (hs : (a == sysModules) = false) (m : DictN X.w s.heap a (T.map DE.ne)) (hz : T.length ≤ sizeLine) (ho : ∀ t ∈ T, t.Ok) (h : ∀ t ∈ T, ∀ q ∈ t.held, q ∈ P) (ok : srtOk S ((T.map DE.kv).map (·.1)))
    (q : ∀ w H', Ctx X.K FV F (S ++ [.lst (srtD S ((T.map DE.kv).map (·.1)))]) H' ((.ref S.length, w) :: P) → Q w H') : wpAny (model X.prog X.w) X.A (call (.builtin "sorted") [.ref a]) (EP X pins σ Q) X.xe s := by
  obtain ⟨es, ep, raw, he⟩ := m.raw
  have hsz : es.size = T.length := by rw [← Array.length_toList, he]; simp
  have room := xo.room
  refine Calls.call_function_entry kind_sorted plain_sorted entry_sorted (args_sorted1 _) ?_
  unfold Builtin.«sorted»
  refine wpAny_bind (wpAny_pure (show wpAny _ _ _ _ _ _ from ?_))
  refine wpAny_bind (PySem.W.kdu_collect (A := X.A.in1) (PySem.KdlSrc.rawDict (ep := ep) hs) (I.ok.hd xo.calm) raw (by rw [hsz]; exact hz) fun h' tk acc hk hacc => ?_)
  have rv := keys_vals he ho hacc
  have hal : acc.toList.length = T.length := by rw [← rv.length]; simp
  have I1 : Inv X pins σ H { s with heap := h', toks := tk } := I.kept hk
  refine wpAny_bind (wpAny_newList ?_ (by rw [hal]; exact hz))
  have hoL : (h'.push (seqObj "list" acc.toList.toArray 0)).get? h'.objs.size = some (seqObj "list" acc.toList.toArray 0) := Heap.get?_push_size _ rfl
  obtain ⟨z1, z2⟩ := keys_zip h
  have er := data_of I1 xo c z2 ok.2.1 z1 rv
  have keep : ∀ b o, h'.get? b = some o → (h'.push (seqObj "list" acc.toList.toArray 0)).get? b = some o := fun b o e => Heap.get?_push_of_some _ e
  refine wpAny_bind (wpAny_holding (PySem.W.list_sort_data (s := { s with heap := h'.push (seqObj "list" acc.toList.toArray 0), toks := tk }) (enc := fun v => (datV 20 S v).getD .none) (R := SR (((T.map DE.kv).map (·.1)).zip (T.map DE.kw))) hoL (sr_of z1 rv) ?_ ok.2.2.1 ok.2.2.2 ok.1 (fun b _ => by have := dp20 (S := S) (x := b); show X.A.units + 1 + 1 + _ < cLine; omega) fun out hlen e => ?_))
  · refine er.mono fun v b ⟨as, r⟩ => ⟨as, PyProof.Rows.Reads.keeps keep r, fun hm => absurd (reads_lt r _ hm) (Nat.lt_irrefl _)⟩
  · obtain ⟨ws, r1, r2, r3⟩ := sr_list e
    obtain ⟨k, hk2⟩ := sortedHeap_at (vs := acc.toList) (out := out.toArray) hoL
    have hzw : ws.length ≤ sizeLine := by rw [r1.length, hlen]; exact ok.1
    have hf : H h'.objs.size = none := I1.hok.fresh (Nat.le_refl _)
    refine wpAny_pure ⟨_, rfl, .ref h'.objs.size, upd H h'.objs.size (.lst ws), I1.laid (t' := tk) (fun b u eb => ?_) (Nat.le_refl _) ⟨hzw, out, k, r1, hk2⟩, rfl, q _ _ ?_⟩
    · have hb : b < h'.objs.size := Heap.lt_size eb
      rw [sortedHeap_old (Nat.ne_of_lt hb) (by rw [size_push']; exact Nat.lt_succ_of_lt hb)]
      exact keep b u eb
    · exact (c.newLst hf r2 (fun p hp => z2 p (r3 p hp))).sub fun p hp => by
        rcases List.mem_cons.mp hp with rfl | hp
        · exact List.mem_cons_self
        · exact List.mem_cons_of_mem _ hp
/-- list(d) of a dict: its keys -/
theorem list_dct (I : Inv X pins σ H s) (xo : XOk X FV) (c : Ctx X.K FV F S H P) {a : Addr} {T : List DE} {Q : VK} (hs : (a == sysModules) = false) (m : DictN X.w s.heap a (T.map DE.ne)) (hz : T.length ≤ sizeLine) (ho : ∀ t ∈ T, t.Ok) (h : ∀ t ∈ T, ∀ q ∈ t.held, q ∈ P)
    (q : ∀ w H', Ctx X.K FV F (S ++ [.lst ((T.map DE.kv).map (·.1))]) H' ((.ref S.length, w) :: P) → Q w H') : wpAny (model X.prog X.w) X.A (call (.type "list") [.ref a]) (EP X pins σ Q) X.xe s := by
  obtain ⟨es, ep, raw, he⟩ := m.raw
  have hsz : es.size = T.length := by rw [← Array.length_toList, he]; simp
  refine PySem.W.kdl_call (PySem.KdlSrc.rawDict (ep := ep) hs) (I.ok.hd xo.calm) raw (by rw [hsz]; exact hz) fun h' tk acc k hk hS hacc => ?_
  have rv := keys_vals he ho hacc
  obtain ⟨z1, z2⟩ := keys_zip h
  have hf : H s.heap.objs.size = none := I.hok.fresh (Nat.le_refl _)
  refine ⟨.ref s.heap.objs.size, upd H s.heap.objs.size (.lst (T.map DE.kw)), I.laid hk (Nat.le_refl _) ⟨by simpa using hz, acc.toList, k, rv, by rw [Array.toArray_toList]; exact hS⟩, rfl, q _ _ ?_⟩
  exact c.newLst hf z1 z2
/-! ### sets -/
theorem key_rel {k : Key} {u : Value} (h : keyIs k u = true) : RelV (kV k) u := by
  rcases keyIs_shape h with ⟨i, t, rfl, rfl⟩ | ⟨x, t, rfl, rfl⟩ <;> exact ⟨t, rfl⟩
theorem rel_key {k : Key} {u : Value} (h : RelV (kV k) u) : keyIs k u = true := by
  cases k with
  | inl i => obtain ⟨t, rfl⟩ := h; exact keyIs_int i t
  | inr x => obtain ⟨t, rfl⟩ := h; exact keyIs_str x t
theorem Ctx.addKeys (c : Ctx X.K FV F S H P) : ∀ ks : List Key, Ctx X.K FV F S H ((ks.map kVal).zip (ks.map kV) ++ P)
  | [] => c
  | .inl i :: ks => (Ctx.addKeys c ks).addInt i
  | .inr x :: ks => by
    have := (Ctx.addKeys c ks).addStr x.cps.toList
    rw [stx_of_cps] at this
    exact this
theorem set_of (I : Inv X pins σ H s) (xo : XOk X FV) (c : Ctx X.K FV F S H P) {x : Val} {w : V} {xs : List Val} (hx : (x, w) ∈ P) (h : setV S x = some xs) : ∃ (a : Addr) (ks : List Key), w = .ref a ∧ xs = ks.map kVal ∧ SetG X.w s.heap a ks := by
  unfold setV at h
  split at h
  · split at h
    · rename_i hs
      cases h
      obtain ⟨a, ks, e1, e2, e3⟩ := c.setC hx hs
      have g := (I.hok a _ e3).1
      rw [← xo.w]
      exact ⟨a, ks, e1, e2, g⟩
    · cases h
  · cases h
theorem len_set (I : Inv X pins σ H s) {a : Addr} {ks : List Key} {Q : VK} (G : SetG X.w s.heap a ks) (q : Q (.int (ks.length : Nat)) H) : wpAny (model X.prog X.w) X.A (call (.builtin "len") [.ref a]) (EP X pins σ Q) X.xe s := by
  obtain ⟨nd, o, es, ep, t, ho, hx, hd, gd, pm, few, fit, _⟩ := G
  have hl : es.size = ks.length := by
    have := pm.length_eq
    rw [List.length_map, Array.length_toList] at this
    exact this
  have hb : scanBound < 2 ^ 62 := by decide
  exact call_len_set ho hx hd fit (by omega) ⟨.int _, H, I.tok _, ⟨_, by rw [hl]⟩, q⟩
theorem vals_out : ∀ {out : List Value}, (∀ v ∈ out, keyIs (keyE (0, v)) v = true) → Vals ((out.map fun v => keyE (0, v)).map kV) out
  | [], _ => .nil
  | v :: out, h => .cons (key_rel (h v List.mem_cons_self)) (vals_out fun u hu => h u (List.mem_cons_of_mem _ hu))
/-- sorted(x) of a set -/
theorem sorted_setG (I : Inv X pins σ H s) (xo : XOk X FV) (c : Ctx X.K FV F S H P) {a : Addr} {ks : List Key} {Q : VK} (G : SetG X.w s.heap a ks) (ok : srtSet S (ks.map kVal))
    (q : ∀ w H', Ctx X.K FV F (S ++ [.lst (srtD S (ks.map kVal))]) H' ((.ref S.length, w) :: P) → Q w H') : wpAny (model X.prog X.w) X.A (call (.builtin "sorted") [.ref a]) (EP X pins σ Q) X.xe s := by
  obtain ⟨nd, o, es, ep, t, ho, hx, hd, gd, pm, few, fit, ris, led⟩ := G
  have room := xo.room
  refine Calls.call_function_entry kind_sorted plain_sorted entry_sorted (args_sorted1 _) ?_
  unfold Builtin.«sorted»
  refine wpAny_bind (wpAny_pure (show wpAny _ _ _ _ _ _ from ?_))
  refine wpAny_bind (collect_set (A := X.A.in1) (I.ok.hd xo.calm) ⟨o, ho, hx.1, hd⟩ fit few ris led fun s1 out keep1 size1 gens1 os1 po => ?_)
  have good : ∀ v ∈ out, keyIs (keyE (0, v)) v = true := fun v hv => by
    obtain ⟨e, he, rfl⟩ := List.mem_map.mp (po.mem_iff.mp hv)
    exact (gd e he).is
  have rv := vals_out good
  have pk : (out.map fun v => keyE (0, v)).Perm ks := by
    refine (po.map _).trans ?_
    rw [List.map_map]
    exact pm
  generalize hks : (out.map fun v => keyE (0, v)) = ls at rv pk
  obtain ⟨ok1, e1⟩ := ok _ (pk.map kVal)
  have hlen : out.length = (ls.map kVal).length := by rw [← hks]; simp
  have hll : (ls.map kVal).length = (ls.map kV).length := by simp
  have er := data_of I xo (c.addKeys ls) (xs := ls.map kVal) (ys := ls.map kV) (fun q hq => List.mem_append_left _ hq) ok1.2.1 hll rv
  have hsz : out.length ≤ sizeLine := by rw [hlen]; exact ok1.1
  refine wpAny_bind (wpAny_newList ?_ hsz)
  have hoL : (s1.heap.push (seqObj "list" out.toArray 0)).get? s1.heap.objs.size = some (seqObj "list" out.toArray 0) := Heap.get?_push_size _ rfl
  have keep : ∀ b o, s.heap.get? b = some o → (s1.heap.push (seqObj "list" out.toArray 0)).get? b = some o := fun b o e => Heap.get?_push_of_some _ (keep1 b o e)
  refine wpAny_bind (wpAny_holding (PySem.W.list_sort_data (s := { s1 with heap := s1.heap.push (seqObj "list" out.toArray 0) }) (enc := fun v => (datV 20 S v).getD .none) (R := SR ((ls.map kVal).zip (ls.map kV))) hoL (sr_of hll rv) ?_ ok1.2.2.1 ok1.2.2.2 ok1.1 (fun b _ => by have := dp20 (S := S) (x := b); show X.A.units + 1 + 1 + _ < cLine; omega) fun out2 hl2 e => ?_))
  · refine er.mono fun v b ⟨as, r⟩ => ⟨as, PyProof.Rows.Reads.keeps keep r, fun hm => absurd (reads_lt r _ hm) (Nat.not_lt_of_le size1)⟩
  · obtain ⟨ws, r1, r2, r3⟩ := sr_list e
    obtain ⟨k, hk2⟩ := sortedHeap_at (vs := out) (out := out2.toArray) hoL
    have hzw : ws.length ≤ sizeLine := by rw [r1.length, hl2]; exact ok1.1
    have far : ∀ b u, s.heap.get? b = some u → (sortedHeap (s1.heap.push (seqObj "list" out.toArray 0)) s1.heap.objs.size out out2.toArray).get? b = some u := fun b u eb => by
      have hb : b < s1.heap.objs.size := Heap.lt_size (keep1 b u eb)
      rw [sortedHeap_old (Nat.ne_of_lt hb) (by rw [size_push']; exact Nat.lt_succ_of_lt hb)]
      exact keep b u eb
    have hf : H s1.heap.objs.size = none := I.hok.fresh size1
    have J : Inv X pins σ (upd H s1.heap.objs.size (.lst ws)) { s with heap := sortedHeap (s1.heap.push (seqObj "list" out.toArray 0)) s1.heap.objs.size out out2.toArray, gens := s1.gens, drawn := s1.drawn, toks := s1.toks } :=
      I.call (ch := []) (Un.laid far size1 hf) (I.hok.laid far size1 ⟨hzw, out2, k, r1, hk2⟩) (by rw [gens1]; exact I.bare) (fun _ z => nomatch z)
    have es : ({ s with heap := sortedHeap (s1.heap.push (seqObj "list" out.toArray 0)) s1.heap.objs.size out out2.toArray, gens := s1.gens, drawn := s1.drawn, toks := s1.toks } : Shared) = { s1 with heap := sortedHeap (s1.heap.push (seqObj "list" out.toArray 0)) s1.heap.objs.size out out2.toArray } := by
      cases s1; cases s; cases os1; rfl
    rw [es] at J
    refine wpAny_pure ⟨_, rfl, .ref s1.heap.objs.size, _, J, rfl, q _ _ ?_⟩
    have c1 := (c.addKeys ls).newLst hf r2 fun p hp => List.mem_append_left _ (r3 p hp)
    rw [← e1]
    exact c1.sub fun p hp => by
      rcases List.mem_cons.mp hp with rfl | hp
      · exact List.mem_cons_self
      · exact List.mem_cons_of_mem _ (List.mem_append_right _ hp)
theorem keyS_rel {loc : Nat → Addr} (v : Val) (w : V) (k : Key) (h : VR X.K FV loc H v w) (q : keyS v = some k) : w = kV k := by
  cases h <;> simp [keyS] at q <;> subst q <;> rfl
/-- set(xs), a list -/
theorem set_seq (I : Inv X pins σ H s) (xo : XOk X FV) (c : Ctx X.K FV F S H P) {a : Addr} {ks : List Key} {Q : VK} (hq : SqL X.K H a (ks.map kV)) (few : ks.length + 1 < scanBound)
    (q : ∀ w H', Ctx X.K FV F (S ++ [.set ((keysOf ks).map kVal)]) H' ((.ref S.length, w) :: P) → Q w H') : wpAny (model X.prog X.w) X.A (call (.type "set") [.ref a]) (EP X pins σ Q) X.xe s := by
  obtain ⟨its, rv, pl, hz⟩ := I.list hq
  have hl : its.toArray.size = ks.length := by rw [List.size_toArray, ← rv.length, List.length_map]
  refine call_setG (I.ok.hd xo.calm) pl.isList hl (fun i v hv => ?_) few fun h' tk G keep size => ?_
  · have hi : i < ks.length := by rw [← hl]; exact (Array.getElem?_eq_some_iff.mp hv).1
    refine ⟨ks[i], List.getElem?_eq_getElem hi, rel_key ?_⟩
    obtain ⟨u, e, r⟩ := rv.get (i := i) (x := kV ks[i]) (by rw [List.getElem?_map, List.getElem?_eq_getElem hi]; rfl)
    rw [List.getElem?_toArray] at hv
    rw [e] at hv
    cases hv
    exact r
  · have hf : H s.heap.objs.size = none := I.hok.fresh (Nat.le_refl _)
    refine ⟨.ref s.heap.objs.size, upd H s.heap.objs.size (setO FV.w s.heap.objs.size (keysOf ks)), I.laid keep (Nat.le_refl _) ?_, rfl, q _ _ (c.newSet hf _)⟩
    obtain ⟨_, o, _, _, _, ho, _⟩ := id G
    exact ⟨by rw [xo.w]; exact G, ⟨o, ho⟩, fun h1 h2 p k => by
      have p' : SetG FV.w h1 s.heap.objs.size (keysOf ks) := p
      exact p'.move k⟩
def bfV : BF → Value
  | .len => .builtin "len"
  | .abs => .builtin "abs"
  | .max2 => .builtin "max"
  | .min2 => .builtin "min"
  | .int => .type "int"
  | .bool => .type "bool"
  | .all => .builtin "all"
  | .sum => .builtin "sum"
  | .repr => .builtin "repr"
  | .list => .type "list"
  | .tuple => .type "tuple"
  | .sorted => .builtin "sorted"
  | .dict => .type "dict"
  | .str => .type "str"
  | .set => .type "set"
/-- THE BUILT-IN FUNCTIONS are sound -/
theorem blt_run (xo : XOk X FV) (b : BF) (hb : b ≠ .dict) : CallR X (bfV b) (rC X.K FV (bltV b)) := by
  intro pins s σ H ws us Q I r ⟨F, S, P, xs, v, S', h, hl, c, hz, q⟩
  unfold bltV at h
  split at h
  · cases h
    obtain ⟨w, u, rfl, rfl, hx, r1⟩ := rc1 hl hz r
    have e := c.int hx
    subst e
    exact call_abs pins s σ H _ _ Q I (.cons r1 .nil) ⟨_, rfl, q _ _ (c.addInt _)⟩
  · cases h
    obtain ⟨w, u, rfl, rfl, hx, r1⟩ := rc1 hl hz r
    have e := c.int hx
    subst e
    exact call_int1 pins s σ H _ _ Q I (.cons r1 .nil) (.inl ⟨_, rfl, q _ _ (c.addInt _)⟩)
  · cases h
    obtain ⟨w, u, rfl, rfl, hx, r1⟩ := rc1 hl hz r
    have e := c.bl hx
    subst e
    exact call_int1 pins s σ H _ _ Q I (.cons r1 .nil) (.inr ⟨_, rfl, q _ _ (c.addInt _)⟩)
  · cases h
    obtain ⟨w, w', u, u', rfl, rfl, hx, hy, r1, r2⟩ := rc2 hl hz r
    have e := c.int hx
    have e' := c.int hy
    subst e; subst e'
    exact call_max2 xo.calm pins s σ H _ _ Q I (.cons r1 (.cons r2 .nil)) ⟨_, _, rfl, q _ _ (c.addInt _)⟩
  · cases h
    obtain ⟨w, w', u, u', rfl, rfl, hx, hy, r1, r2⟩ := rc2 hl hz r
    have e := c.int hx
    have e' := c.int hy
    subst e; subst e'
    exact call_min2 xo.calm pins s σ H _ _ Q I (.cons r1 (.cons r2 .nil)) ⟨_, _, rfl, q _ _ (c.addInt _)⟩
  · obtain ⟨w, u, rfl, rfl, hx, r1⟩ := rc1 hl hz r
    split at h
    · rename_i n hn
      cases h
      unfold lenV at hn
      split at hn
      · split at hn
        · rename_i z hzl
          cases hn
          have e := c.str hx
          subst e
          refine call_len_str pins s σ H _ _ Q I (.cons r1 .nil) ⟨_, rfl, by simpa [stx, Str.length] using hzl, ?_⟩
          have := q _ _ (c.addInt (z.length : Nat))
          simpa [stx, Str.length] using this
        · cases hn
      · split at hn
        · rename_i ys hs
          cases hn
          obtain ⟨a, vs, rfl, hlv, c1, hq⟩ := seq_of c hx hs
          refine call_len_seq pins s σ H _ _ Q I (.cons r1 .nil) ⟨a, vs, rfl, hq.imp (·.1) (·.1), ?_⟩
          rw [← hlv]
          exact q _ _ (c.addInt _)
        · split at hn
          case h_2 =>
            obtain ⟨xs, hk, rfl⟩ := Option.map_eq_some_iff.mp hn
            obtain ⟨a, ks, rfl, rfl, G⟩ := set_of I xo c hx hk
            cases r1
            refine len_set I G ?_
            have := q _ _ (c.addInt ((ks.map kVal).length : Nat))
            rw [List.length_map] at this
            exact this
          rename_i kvs hk
          cases hn
          obtain ⟨a, T, rfl, rfl, e3, m, h4, h5, h6, c1, hP⟩ := dct_of I xo c hx hk
          cases r1
          obtain ⟨es, ep, raw, he⟩ := m.raw
          have hsz : es.size = T.length := by rw [← Array.length_toList, he]; simp
          refine len_dct e3 raw (by rw [hsz]; exact h4) fun t => ⟨.int _, H, I.tok _, ⟨t, rfl⟩, ?_⟩
          rw [hsz]
          have := q _ _ (c.addInt ((T.map DE.kv).length : Nat))
          rw [List.length_map] at this
          exact this
    · cases h
  · obtain ⟨w, u, rfl, rfl, hx, r1⟩ := rc1 hl hz r
    split at h
    · rename_i bs hn
      cases h
      obtain ⟨ys, hs, ho⟩ := Option.bind_eq_some_iff.mp hn
      obtain ⟨a, vs, rfl, hlv, c1, hq⟩ := seq_of c hx hs
      obtain ⟨loc, hv⟩ := vrs_of c1 hlv zin
      have e := all_ofs (g := V.bl) blOf_rel hv ho
      subst e
      rcases hq with ⟨hq, _⟩ | ⟨_, e⟩
      · exact cr_all xo.calm pins s σ H _ _ Q I (.cons r1 .nil) ⟨a, bs, rfl, hq, q _ _ (c.addBl _)⟩
      · cases e
    · cases h
  · obtain ⟨w, u, rfl, rfl, hx, r1⟩ := rc1 hl hz r
    split at h
    · rename_i bs hn
      cases h
      obtain ⟨ys, hs, ho⟩ := Option.bind_eq_some_iff.mp hn
      obtain ⟨a, vs, rfl, hlv, c1, hq⟩ := seq_of c hx hs
      obtain ⟨loc, hv⟩ := vrs_of c1 hlv zin
      have e := all_ofs (g := V.int) intOf_rel hv ho
      subst e
      rcases hq with ⟨hq, _⟩ | ⟨_, e⟩
      · exact cr_sum xo.calm pins s σ H _ _ Q I (.cons r1 .nil) ⟨a, bs, rfl, hq, q _ _ (c.addInt _)⟩
      · cases e
    · cases h
  · obtain ⟨w, u, rfl, rfl, hx, r1⟩ := rc1 hl hz r
    split at h
    · rename_i ys hs
      cases h
      obtain ⟨a, vs, rfl, hlv, c1, hq⟩ := seq_of c hx hs
      exact call_list_of pins s σ H _ _ Q I (.cons r1 .nil) ⟨a, vs, rfl, hq.imp (·.1) (·.1), fun p hp => q _ _ (back2 (c1.newLst hp hlv zin))⟩
    · split at h
      · rename_i kvs hk
        cases h
        obtain ⟨a, T, rfl, rfl, e3, m, h4, h5, h6, c1, hP⟩ := dct_of I xo c hx hk
        cases r1
        exact list_dct I xo c1 e3 m h4 h6 hP fun w H' c' => q w H' (back2 c')
      · cases h
  · obtain ⟨w, u, rfl, rfl, hx, r1⟩ := rc1 hl hz r
    split at h
    · rename_i ys hs
      cases h
      obtain ⟨a, vs, rfl, hlv, c1, hq⟩ := seq_of c hx hs
      refine call_tuple_of pins s σ H _ _ Q I (.cons r1 .nil) ⟨a, vs, rfl, ?_⟩
      rcases hq with ⟨hq, _⟩ | ⟨hq, e⟩
      · exact .inl ⟨hq, fun p hp => q _ _ (back2 (c1.newTup hp hlv zin))⟩
      · exact .inr ⟨hq, q _ _ (back2 (c1.oldTup hq hlv zin))⟩
    · cases h
  · obtain ⟨w, u, rfl, rfl, hx, r1⟩ := rc1 hl hz r
    split at h
    · rename_i ys hs
      split at h
      · rename_i ok
        cases h
        obtain ⟨a, vs, rfl, hlv, c1, hq⟩ := seq_of c hx hs
        cases r1
        rcases hq with ⟨hq, _⟩ | ⟨hq, e⟩
        · exact sorted_seq I xo c1 hq hlv zin ok fun w H' c' => q w H' (back2 c')
        · cases e
      · cases h
    · split at h
      · rename_i kvs hk
        split at h
        · rename_i ok
          cases h
          obtain ⟨a, T, rfl, rfl, e3, m, h4, h5, h6, c1, hP⟩ := dct_of I xo c hx hk
          cases r1
          exact sorted_dct I xo c1 e3 m h4 h6 hP ok fun w H' c' => q w H' (back2 c')
        · cases h
      · split at h
        · rename_i ys hk
          split at h
          · rename_i ok
            cases h
            obtain ⟨a, ks, rfl, rfl, G⟩ := set_of I xo c hx hk
            cases r1
            exact sorted_setG I xo c G ok q
          · cases h
        · cases h
  · obtain ⟨w, u, rfl, rfl, hx, r1⟩ := rc1 hl hz r
    split at h
    · rename_i t ht
      cases h
      obtain ⟨loc, cl⟩ := id c
      exact repr_run I xo.sm xo.gd xo.room cl (cl.vals _ hx).1 r1 ht fun h' k tk hk => ⟨.str _, H, I.kept hk, ⟨k, rfl⟩, q _ _ (c.addStr _)⟩
    · cases h
  · exact absurd rfl hb
  · obtain ⟨w, u, rfl, rfl, hx, r1⟩ := rc1 hl hz r
    split at h
    · rename_i ks hn
      split at h
      · rename_i few
        cases h
        obtain ⟨ys, hs, ho⟩ := Option.bind_eq_some_iff.mp hn
        obtain ⟨a, vs, rfl, hlv, c1, hq⟩ := seq_of c hx hs
        obtain ⟨loc, hv⟩ := vrs_of c1 hlv zin
        have e := all_ofs (g := kV) keyS_rel hv ho
        subst e
        cases r1
        rcases hq with ⟨hq, _⟩ | ⟨_, e⟩
        · exact set_seq I xo c hq few q
        · cases e
      · cases h
    · cases h
  · cases h
end
end MP
set_option linter.all false
set_option Elab.async false
set_option maxHeartbeats 2000000
set_option pp.deepTerms false
set_option pp.deepTerms.threshold 9
/-! subscripts, slices, stores, methods -/
namespace MP
open PySem L2 PySem.Spec PyProof.Rows
section
variable {X : Cx} {FV : Glo} {pins : List (Addr × Obj)} {σ : L2.St} {H : Hp} {s : Shared} {F : Fm} {S : Sto} {P : List (Val × V)}
theorem atI_zip {xs : List Val} {ys : List V} {k : Int} {v : Val} (hl : xs.length = ys.length) (h : atI xs k = some v) : ∃ w, atI ys k = some w ∧ (v, w) ∈ xs.zip ys := by
  unfold atI at h ⊢
  obtain ⟨j, h1, h2⟩ := Option.bind_eq_some_iff.mp h
  have hj : j < ys.length := by rw [← hl]; exact (List.getElem?_eq_some_iff.mp h2).1
  rw [← hl, h1]
  exact ⟨ys[j], List.getElem?_eq_getElem hj, List.mem_iff_getElem?.mpr ⟨j, List.getElem?_zip_eq_some.mpr ⟨h2, List.getElem?_eq_getElem hj⟩⟩⟩
theorem at_kn {T : List DE} (ho : ∀ t ∈ T, t.Ok) {k : NestedKey} : (atK (T.map DE.kv) k = none ∧ atN (T.map DE.ne) k = none) ∨ ∃ t ∈ T, t.nk = k ∧ atK (T.map DE.kv) k = some t.v ∧ atN (T.map DE.ne) k = some t.vu := by
  induction T with
  | nil => exact .inl ⟨rfl, rfl⟩
  | cons t T ih =>
    by_cases e : t.nk = k
    · refine .inr ⟨t, List.mem_cons_self, e, ?_, ?_⟩
      · unfold atK
        rw [List.map_cons, List.find?_cons_of_pos (by simp [DE.kv, (ho t List.mem_cons_self).key, e])]
        rfl
      · unfold atN
        rw [List.map_cons, List.find?_cons_of_pos (by simp [DE.ne, e])]
        rfl
    · have e1 : atK ((t :: T).map DE.kv) k = atK (T.map DE.kv) k := by
        unfold atK
        rw [List.map_cons, List.find?_cons_of_neg (by simp [DE.kv, (ho t List.mem_cons_self).key, e])]
      have e2 : atN ((t :: T).map DE.ne) k = atN (T.map DE.ne) k := by
        unfold atN
        rw [List.map_cons, List.find?_cons_of_neg (by simp [DE.ne, e])]
      rw [e1, e2]
      rcases ih fun u hu => ho u (List.mem_cons_of_mem _ hu) with h | ⟨u, hu, h⟩
      · exact .inl h
      · exact .inr ⟨u, List.mem_cons_of_mem _ hu, h⟩
/-- getItem by values -/
theorem item_run (xo : XOk X FV) (I : Inv X pins σ H s) (c : Ctx X.K FV F S H P) {x i v : Val} {wx wi : V} {ux ui : Value} {S' : Sto} {Q : VK} (hx : (x, wx) ∈ P) (hi : (i, wi) ∈ P) (rx : RelV wx ux) (ri : RelV wi ui) (h : idxV x i S = .ok v S')
    (q : ∀ w H', Ctx X.K FV F S' H' ((v, w) :: P) → Q w H') (value slice : Expr) (hs : subscripted slice false ux ui = operate [ux, ui] (getItem ux ui)) : wpAny (model X.prog X.w) X.A (subscriptTail value slice ux ui) (EP X pins σ Q) X.xe s := by
  unfold idxV at h
  split at h
  · rename_i z k
    split at h
    · rename_i hz
      split at h
      · rename_i d hd
        cases h
        have e1 := c.str hx
        have e2 := c.int hi
        subst e1; subst e2
        refine ix_str value slice pins s σ H _ _ ux ui Q I rx ri ⟨stx z, k, d, rfl, rfl, by simpa [stx, Str.length] using hz, by rw [cps_stx]; exact hd, ?_⟩ hs
        exact q _ _ (c.addStr [d])
      · cases h
    · cases h
  · split at h
    · rename_i xs k hxs hnn
      split at h
      · rename_i v' hv
        cases h
        obtain ⟨a, ys, rfl, hl, c1, hq⟩ := seq_of c hx hxs
        have e2 := c.int hi
        subst e2
        obtain ⟨w, h1, h2⟩ := atI_zip hl hv
        have fin := q w H (back2 (c1.bare (List.mem_append_left _ h2)))
        rcases hq with ⟨hq, _⟩ | ⟨hq, _⟩
        · exact ix_list value slice pins s σ H _ _ ux ui Q I rx ri ⟨a, ys, k, w, rfl, rfl, hq, h1, fin⟩ hs
        · exact ix_tup value slice pins s σ H _ _ ux ui Q I rx ri ⟨a, ys, k, w, rfl, rfl, hq, h1, fin⟩ hs
      · cases h
    · split at h
      · rename_i kvs k hd hk
        split at h
        · rename_i v' hv
          cases h
          obtain ⟨a, T, rfl, rfl, e3, m, h4, h5, h6, c1, hP⟩ := dct_of I xo c hx hd
          cases rx
          have kin := keyIn_of I c hi ri hk
          rcases at_kn h6 (k := k) with ⟨e, _⟩ | ⟨t, ht, e, e1, e2⟩
          · rw [e] at hv; cases hv
          · rw [e1] at hv; cases hv
            have room := xo.room
            exact subscriptTail_builtinR (x := t.vu) m.typeIs slot_dict_getitem.lookup (itemN (by omega) kin m e2 ⟨rfl, t.vw, H, I.tok _, (h6 t ht).rv, q _ _ (back2 (c1.bare (hP t ht _ (List.mem_cons_of_mem _ List.mem_cons_self))))⟩) hs
        · cases h
      · cases h
/-- getItem by values, without the tail -/
theorem get_run (xo : XOk X FV) (I : Inv X pins σ H s) (c : Ctx X.K FV F S H P) {x i v : Val} {wx wi : V} {ux ui : Value} {S' : Sto} {Q : VK} (hx : (x, wx) ∈ P) (hi : (i, wi) ∈ P) (rx : RelV wx ux) (ri : RelV wi ui) (h : idxM x i S = .ok v S')
    (q : ∀ w H', Ctx X.K FV F S' H' ((v, w) :: P) → Q w H') : wpAny (model X.prog X.w) X.A (getItem ux ui) (EP X pins σ Q) X.xe s := by
  unfold idxM at h
  split at h
  case h_2 => cases h
  rename_i r0
  unfold idxV at h
  split at h
  · have e : ∀ z : Tx, Val.ref r0 = Val.str z → False := fun z e => by cases e
    exact (e _ (by assumption)).elim
  · split at h
    · rename_i xs k hxs hnn
      split at h
      · rename_i v' hv
        cases h
        obtain ⟨a, ys, rfl, hl, c1, hq⟩ := seq_of c hx hxs
        have e2 := c.int hi
        subst e2
        obtain ⟨w, g1, g2⟩ := atI_zip hl hv
        have fin := q w H (back2 (c1.bare (List.mem_append_left _ g2)))
        rcases hq with ⟨hq, _⟩ | ⟨_, e⟩
        · cases rx
          obtain ⟨t, rfl⟩ := ri
          obtain ⟨its, r, pl, hz⟩ := I.list hq
          obtain ⟨j, h1, h2, h3, h4, h5⟩ := atI_get g1
          obtain ⟨u, eu, ru⟩ := r.get h2
          have hlv := r.length
          have hn := line63
          have done : EP X pins σ Q u s := ⟨w, H, I, ru, fin⟩
          by_cases h0 : 0 ≤ k
          · have hj : k.toNat = j := Option.some.inj ((seqIndex_of h0 h5).symm.trans h1)
            exact wpAny_getItem_list pl.isList h0 (by omega) (by rw [hj]; simpa using eu) done
          · have hj : (k + (its.toArray.size : Int)).toNat = j := by
              rw [List.size_toArray, ← hlv]
              exact Option.some.inj ((seqIndex_neg (by omega) h4).symm.trans h1)
            exact wpAny_getItem_list_neg pl.isList (by omega) (by rw [List.size_toArray]; omega) (by omega) (by rw [hj]; simpa using eu) done
        · cases e
      · cases h
    · split at h
      · rename_i kvs k hd hk
        split at h
        · rename_i v' hv
          cases h
          obtain ⟨a, T, rfl, rfl, e3, m, h4, h5, h6, c1, hP⟩ := dct_of I xo c hx hd
          cases rx
          have kin := keyIn_of I c hi ri hk
          rcases at_kn h6 (k := k) with ⟨e, _⟩ | ⟨t, ht, e, e1, e2⟩
          · rw [e] at hv; cases hv
          · rw [e1] at hv; cases hv
            have room := xo.room
            exact itemN (by omega) kin m e2 ⟨t.vw, H, I.tok _, (h6 t ht).rv, q _ _ (back2 (c1.bare (hP t ht _ (List.mem_cons_of_mem _ List.mem_cons_self))))⟩
        · cases h
      · cases h
/-- slices -/
theorem cut_zip {xs : List Val} {ys : List V} {lo hi : Option Int} (hl : xs.length = ys.length) : (cutL xs lo hi).length = (cutV ys lo hi).length ∧ ∀ q ∈ (cutL xs lo hi).zip (cutV ys lo hi), q ∈ xs.zip ys := by
  unfold cutL cutV
  rw [hl]
  refine ⟨by simp [hl], fun q hq => ?_⟩
  obtain ⟨j, hj⟩ := List.mem_iff_getElem?.mp hq
  obtain ⟨h1, h2⟩ := List.getElem?_zip_eq_some.mp hj
  rw [List.getElem?_take] at h1 h2
  split at h1
  · rename_i hlt
    rw [if_pos hlt] at h2
    rw [List.getElem?_drop] at h1 h2
    exact List.mem_iff_getElem?.mpr ⟨_, List.getElem?_zip_eq_some.mpr ⟨h1, h2⟩⟩
  · cases h1
def rSlM (K : PySem.W.Frag) (FV : Glo) : V → Option Int → Option Int → Hp → VK → Prop := fun w lo hi H Q => ∃ F S P x v S', slV x lo hi S = .ok v S' ∧ Ctx K FV F S H P ∧ (x, w) ∈ P ∧ ∀ w' H', Ctx K FV F S' H' ((v, w') :: P) → Q w' H'
theorem sl_run : SlR X (rSlM X.K FV) := by
  intro pins s σ H wx u vl vu lo hi sl Q I rx hs pl pu ⟨F, S, P, x, v, S', h, c, hx, q⟩
  unfold slV at h
  split at h
  · rename_i z
    split at h
    · rename_i hz
      cases h
      have e1 := c.str hx
      subst e1
      refine sl_str pins s σ H _ u vl vu lo hi sl Q I rx hs pl pu ⟨stx z, rfl, by simpa [stx, Str.length] using hz, ?_⟩
      have := q _ _ (c.addStr (cutL z lo hi))
      have e : cutS (stx z) lo hi = stx (cutL z lo hi) := by
        unfold cutS cutL
        rw [cps_stx, show (stx z).length = z.length by simp [stx, Str.length]]
        rfl
      rw [e]
      exact this
    · cases h
  · rename_i xs
    cases h
    obtain ⟨a, ys, rfl, h1, hl, c1⟩ := c.tup hx
    obtain ⟨z1, z2⟩ := cut_zip (lo := lo) (hi := hi) hl
    refine sl_tupA pins s σ H _ u vl vu lo hi sl Q I rx hs pl pu ⟨a, ys, rfl, h1, fun e => ?_, fun _ p hp => q _ _ (back2 (c1.newTup hp z1 fun p hp => List.mem_append_left _ (z2 p hp)))⟩
    have : cutL xs lo hi = xs := by
      unfold cutL
      rw [hl, e.1, e.2, List.drop_zero, Nat.sub_zero, ← hl, List.take_length]
    rw [this] at q
    exact q _ _ (c.bare hx)
  · split at h
    · rename_i xs h1
      cases h
      obtain ⟨a, ys, rfl, h1, hl, c1⟩ := c.lst hx h1
      obtain ⟨z1, z2⟩ := cut_zip (lo := lo) (hi := hi) hl
      exact sl_list pins s σ H _ u vl vu lo hi sl Q I rx hs pl pu ⟨a, ys, rfl, SqL.of h1, fun p hp => q _ _ (back2 (c1.newLst hp z1 fun p hp => List.mem_append_left _ (z2 p hp)))⟩
    · rename_i xs h1
      cases h
      obtain ⟨a, ys, rfl, h1, hl, c1⟩ := c.rol hx h1
      obtain ⟨z1, z2⟩ := cut_zip (lo := lo) (hi := hi) hl
      exact sl_list pins s σ H _ u vl vu lo hi sl Q I rx hs pl pu ⟨a, ys, rfl, h1, fun p hp => q _ _ (back2 (c1.newLst hp z1 fun p hp => List.mem_append_left _ (z2 p hp)))⟩
    · cases h
  · cases h
theorem zip_set {xs : List Val} {ys : List V} {j : Nat} {v : Val} {w : V} {q : Val × V} (h : q ∈ (xs.set j v).zip (ys.set j w)) : q = (v, w) ∨ q ∈ xs.zip ys := by
  obtain ⟨i, hi⟩ := List.mem_iff_getElem?.mp h
  obtain ⟨h1, h2⟩ := List.getElem?_zip_eq_some.mp hi
  rw [List.getElem?_set] at h1 h2
  by_cases e : j = i
  · rw [if_pos e] at h1 h2
    split at h1
    · split at h2
      · left
        exact Prod.ext (Option.some.inj h1).symm (Option.some.inj h2).symm
      · cases h2
    · cases h1
  · rw [if_neg e] at h1 h2
    exact .inr (List.mem_iff_getElem?.mpr ⟨i, List.getElem?_zip_eq_some.mpr ⟨h1, h2⟩⟩)
/-- a store into a list or a dict -/
def put_dct (T : List DE) (n : NestedKey) (t0 : DE) : List DE := if n ∈ T.map DE.nk then T.map fun t => if t.nk = n then { t with v := t0.v, vw := t0.vw, vu := t0.vu } else t else T ++ [t0]
theorem put_ne (T : List DE) (n : NestedKey) (t0 : DE) (hn : t0.nk = n) : (put_dct T n t0).map DE.ne = putN (T.map DE.ne) n t0.ku t0.vu := by
  unfold put_dct putN
  have e : (T.map DE.ne).map (·.1) = T.map DE.nk := by rw [List.map_map]; rfl
  rw [e]
  split
  · rw [List.map_map, List.map_map]
    apply List.map_congr_left
    intro t _
    show DE.ne (if t.nk = n then _ else t) = if t.ne.1 = n then _ else t.ne
    have : t.ne.1 = t.nk := rfl
    rw [this]
    split <;> rfl
  · rw [List.map_append, List.map_singleton]
    show _ ++ [(t0.nk, t0.ku, t0.vu)] = _
    rw [hn]
theorem put_kv (T : List DE) (n : NestedKey) (t0 : DE) (ho : ∀ t ∈ T, t.Ok) : (put_dct T n t0).map DE.kv = putK (T.map DE.kv) n t0.k t0.v := by
  unfold put_dct putK
  have e : ((T.map DE.kv).any fun p => decide (keyV p.1 = some n)) = decide (n ∈ T.map DE.nk) := by
    rw [Bool.eq_iff_iff, List.any_eq_true, decide_eq_true_eq, List.mem_map]
    constructor
    · rintro ⟨p, hp, q⟩
      obtain ⟨t, ht, rfl⟩ := List.mem_map.mp hp
      have q' : keyV t.k = some n := of_decide_eq_true q
      rw [(ho t ht).key] at q'
      exact ⟨t, ht, Option.some.inj q'⟩
    · rintro ⟨t, ht, rfl⟩
      exact ⟨t.kv, List.mem_map.mpr ⟨t, ht, rfl⟩, decide_eq_true (ho t ht).key⟩
  rw [e]
  by_cases h : n ∈ T.map DE.nk
  · rw [if_pos h, if_pos (decide_eq_true h), List.map_map, List.map_map]
    apply List.map_congr_left
    intro t ht
    show DE.kv (if t.nk = n then _ else t) = if keyV t.k = some n then (t.k, t0.v) else t.kv
    rw [(ho t ht).key]
    by_cases e : t.nk = n
    · rw [if_pos e, if_pos (congrArg some e)]; rfl
    · rw [if_neg e, if_neg (fun q => e (Option.some.inj q))]
  · rw [if_neg h, if_neg (by simpa using h), List.map_append]
    rfl
theorem put_nk (T : List DE) (n : NestedKey) (t0 : DE) (hn : t0.nk = n) (hd : (T.map DE.nk).Nodup) : ((put_dct T n t0).map DE.nk).Nodup ∧ ((put_dct T n t0).length ≤ T.length + 1) := by
  unfold put_dct
  split
  · rename_i h
    rw [List.map_map]
    have : (DE.nk ∘ fun t => if t.nk = n then { t with v := t0.v, vw := t0.vw, vu := t0.vu } else t) = DE.nk := by
      funext t
      show DE.nk (if t.nk = n then _ else t) = _
      split <;> rfl
    rw [this, List.length_map]
    exact ⟨hd, Nat.le_succ _⟩
  · rename_i h
    rw [List.map_append, List.nodup_append, List.length_append]
    refine ⟨⟨hd, by simp, fun a ha b hb e => ?_⟩, Nat.le_refl _⟩
    have : b = n := by simpa [hn] using hb
    exact h (this ▸ e ▸ ha)
theorem put_mem {T : List DE} {n : NestedKey} {t0 u : DE} (h : u ∈ put_dct T n t0) : u = t0 ∨ u ∈ T ∨ ∃ t ∈ T, u = { t with v := t0.v, vw := t0.vw, vu := t0.vu } := by
  unfold put_dct at h
  split at h
  · obtain ⟨t, ht, rfl⟩ := List.mem_map.mp h
    split
    · exact .inr (.inr ⟨t, ht, rfl⟩)
    · exact .inr (.inl ht)
  · rcases List.mem_append.mp h with h | h
    · exact .inr (.inl h)
    · exact .inl (by simpa using h)
theorem put_ok {T : List DE} {n : NestedKey} {t0 : DE} (ho : ∀ t ∈ T, t.Ok) (h0 : t0.Ok) : ∀ t ∈ put_dct T n t0, t.Ok := fun u hu => by
  rcases put_mem hu with rfl | h | ⟨t, ht, rfl⟩
  · exact h0
  · exact ho u h
  · exact ⟨(ho t ht).key, (ho t ht).dep, (ho t ht).rk, h0.rv⟩
theorem put_held {T : List DE} {n : NestedKey} {t0 : DE} (h : ∀ t ∈ T, ∀ q ∈ t.held, q ∈ P) (h0 : ∀ q ∈ t0.held, q ∈ P) : ∀ t ∈ put_dct T n t0, ∀ q ∈ t.held, q ∈ P := fun u hu q hq => by
  rcases put_mem hu with rfl | h' | ⟨t, ht, rfl⟩
  · exact h0 q hq
  · exact h u h' q hq
  · unfold DE.held at hq
    simp only [List.mem_cons, List.not_mem_nil, or_false] at hq
    rcases hq with rfl | rfl
    · exact h t ht _ List.mem_cons_self
    · exact h0 _ (List.mem_cons_of_mem _ List.mem_cons_self)
/-- the new dict behind a store, for the invariant -/
theorem Inv.stored (xo : XOk X FV) (I : Inv X pins σ H s) {a : Addr} {T T' : List DE} (h3 : H a = some (dctO FV.w a (T.map DE.ne))) (hs : (a == sysModules) = false) {h' : Heap} (m : DictN X.w h' a (T'.map DE.ne)) (sb : Heap.SameBut a s.heap h') (t : Nat) :
    Inv X pins σ (upd H a (dctO FV.w a (T'.map DE.ne))) { s with heap := h', toks := t } := by
  rw [xo.w] at h3 ⊢
  exact Inv.putD I h3 hs m sb t
theorem put_run (xo : XOk X FV) (I : Inv X pins σ H s) (c : Ctx X.K FV F S H P) {x i v : Val} {wx wi wv : V} {ux ui uv : Value} {S' : Sto} {z : Unit} {Q : Hp → Prop} (hx : (x, wx) ∈ P) (hi : (i, wi) ∈ P) (hv : (v, wv) ∈ P) (rx : RelV wx ux) (ri : RelV wi ui) (rv : RelV wv uv) (h : putV x i v S = .ok z S')
    (q : ∀ H', Ctx X.K FV F S' H' P → Q H') : wpAny (model X.prog X.w) X.A (setItem ux ui uv) (fun _ s' => ∃ H', Inv X pins σ H' s' ∧ Q H') X.xe s := by
  have room := xo.room
  unfold putV at h
  split at h
  case h_2 => cases h
  rename_i a0
  split at h
  · rename_i xs k hs
    split at h
    · rename_i j hj
      cases h
      obtain ⟨a, ys, rfl, h1, hl, c1⟩ := c.lst hx hs
      have e2 := c.int hi
      subst e2
      refine set_list pins s σ H _ _ wv ux ui uv Q I rx ri rv ⟨a, ys, k, j, rfl, rfl, h1, by rw [← hl]; exact hj, q _ ?_⟩
      refine (Ctx.setLst (xs := xs.set j v) (ys := ys.set j wv) c1 (List.mem_append_right _ hx) hs (by simp [hl]) fun p hp => ?_).sub fun p hp => List.mem_append_right _ hp
      rcases zip_set hp with rfl | hp
      · exact List.mem_append_right _ hv
      · exact List.mem_append_left _ hp
    · cases h
  · rename_i i o1 i1 kvs hs
    split at h
    · rename_i n hk
      split at h
      · rename_i hlen
        cases h
        obtain ⟨a, T, rfl, rfl, h3, h4, h5, h6, c1⟩ := c.dct hx hs
        have hP : ∀ t ∈ T, ∀ q ∈ t.held, q ∈ T.flatMap DE.held ++ P := fun t ht q hq => List.mem_append_left _ (List.mem_flatMap.mpr ⟨t, ht, hq⟩)
        obtain ⟨hsm, m⟩ := dctN_of I xo.w (.inl h3) h5 h6 c1 hP
        cases rx
        have kin := keyIn_of I c hi ri hk
        obtain ⟨k1, k2⟩ := keyD_some hk
        let t0 : DE := ⟨n, i, wi, ui, v, wv, uv⟩
        have o0 : t0.Ok := ⟨k1, k2, ri, rv⟩
        have hlen' : T.length < line := by simpa using hlen
        refine storeN (by omega) kin m (by rw [List.length_map]; exact h4) fun h' m' sb => ?_
        rw [show ui = t0.ku from rfl, show uv = t0.vu from rfl, ← put_ne T n t0 rfl] at m'
        obtain ⟨p1, p2⟩ := put_nk T n t0 rfl h5
        refine ⟨_, Inv.stored xo I h3 hsm m' sb _, q _ ?_⟩
        have e : putK (T.map DE.kv) n i v = (put_dct T n t0).map DE.kv := (put_kv T n t0 h6).symm
        rw [e]
        exact (c1.setDct (List.mem_append_right _ hx) hs (Nat.le_trans p2 hlen') p1 (put_ok h6 o0) (put_held hP fun q hq => by
          unfold DE.held at hq
          simp only [List.mem_cons, List.not_mem_nil, or_false] at hq
          rcases hq with rfl | rfl
          · exact List.mem_append_right _ hi
          · exact List.mem_append_right _ hv)).sub fun p hp => List.mem_append_right _ hp
      · cases h
    · cases h
  · cases h
end
end MP
set_option linter.all false
set_option Elab.async false
set_option maxHeartbeats 2000000
set_option pp.deepTerms false
set_option pp.deepTerms.threshold 9
/-! methods of lists, dicts, texts -/
namespace MP
open PySem L2 PySem.Spec PyProof.Rows
def rtN : Rt → String
  | .lst => "list"
  | .dct => "dict"
  | .str => "str"
  | .tup => "tuple"
def bmN : BM → String
  | .append => "append"
  | .pop => "pop"
  | .insert => "insert"
  | .extend => "extend"
  | .clear => "clear"
  | .reverse => "reverse"
  | .join => "join"
  | .index => "index"
  | .count => "count"
  | .get => "get"
  | .setdefault => "setdefault"
def mId (t : Rt) (m : BM) : String := match t, m with
  | .lst, .append => "list.append"
  | .lst, .pop => "list.pop"
  | .lst, .insert => "list.insert"
  | .lst, .extend => "list.extend"
  | .lst, .clear => "list.clear"
  | .lst, .reverse => "list.reverse"
  | .lst, .index => "list.index"
  | .lst, .count => "list.count"
  | .dct, .get => "dict.get"
  | .dct, .setdefault => "dict.setdefault"
  | .str, .join => "str.join"
  | _, _ => ""
def okM (t : Rt) (m : BM) : Bool := mId t m != ""
/-- the facts of a method -/
structure MFacts (t : Rt) (m : BM) : Prop where
  pa : PlainAttrs (rtN t)
  slot : Slot (rtN t) (Str.ofString (bmN m)) (mId t m)
  ty : typeOf (.builtin (mId t m)) = pure (.type "method_descriptor")
theorem mfacts (t : Rt) (m : BM) (h : okM t m = true) : MFacts t m := by
  cases t <;> cases m <;> first
    | (exfalso; revert h; decide)
    | exact ⟨PySem.F.plainAttrs_list, PySem.F.slot_list_append, PySem.F.type_list_append⟩
    | exact ⟨PySem.F.plainAttrs_list, PySem.F.slot_list_pop, PySem.F.type_list_pop⟩
    | exact ⟨PySem.F.plainAttrs_list, PySem.F.slot_list_insert, PySem.F.type_list_insert⟩
    | exact ⟨PySem.F.plainAttrs_list, PySem.F.slot_list_extend, PySem.F.type_list_extend⟩
    | exact ⟨PySem.F.plainAttrs_list, PySem.F.slot_list_clear, PySem.F.type_list_clear⟩
    | exact ⟨PySem.F.plainAttrs_list, PySem.F.slot_list_reverse, PySem.F.type_list_reverse⟩
    | exact ⟨PySem.F.plainAttrs_list, PySem.F.slot_list_index, PySem.F.type_list_index⟩
    | exact ⟨PySem.F.plainAttrs_list, PySem.F.slot_list_count, PySem.F.type_list_count⟩
    | exact ⟨PySem.F.plainAttrs_dict, PySem.F.slot_dict_get, PySem.F.type_dict_get⟩
    | exact ⟨PySem.F.plainAttrs_dict, PySem.F.slot_dict_setdefault, PySem.F.type_dict_setdefault⟩
    | exact ⟨PySem.F.plainAttrs_str, PySem.F.slot_str_join, PySem.F.type_str_join⟩
theorem mtd_ok {t : Rt} {m : BM} {o : Val} {as : List Val} {S S' : Sto} {v : Val} (h : mtdV t m o as S = .ok v S') : okM t m = true := by
  cases t <;> cases m <;> first
    | rfl
    | (exfalso; simp only [mtdV] at h; revert h; repeat' split
       all_goals (intro h; cases h))
theorem stx_cps' (z : Str) : stx z.cps.toList = z := by cases z; simp [stx]
section
variable {X : Cx} {FV : Glo} {pins : List (Addr × Obj)} {σ : L2.St} {H : Hp} {s : Shared} {F : Fm} {S : Sto} {P : List (Val × V)}
/-- what the receiver is -/
theorem rt_is (I : Inv X pins σ H s) (xo : XOk X FV) (c : Ctx X.K FV F S H P) {x : Val} {w : V} {u : Value} {t : Rt} (hx : (x, w) ∈ P) (r : RelV w u) (h : rtV S x = some t) : s.TypeIs u (rtN t) ∧ ∀ a, u = .ref a → ∃ ob, s.heap.get? a = some ob ∧ ob.dict = none := by
  unfold rtV at h
  split at h
  · cases h
    have e := c.str hx
    subst e
    obtain ⟨k, rfl⟩ := r
    exact ⟨typeIs_str _ _ _, fun a e => by cases e⟩
  · split at h
    · rename_i xs hs
      cases h
      obtain ⟨a, ys, rfl, h1, h2, h3⟩ := c.lst hx hs
      cases r
      obtain ⟨its, rv, ⟨o, k, ho, hc, hd, hk⟩, _⟩ := I.list (SqL.of h1)
      exact ⟨⟨o, ho, hc⟩, fun b e => by cases e; exact ⟨o, ho, hd⟩⟩
    · rename_i kvs hs
      cases h
      obtain ⟨a, T, rfl, rfl, e3, m, h4, h5, h6, c1, hP⟩ := dct_of I xo c hx (show dctV S _ = some kvs by simp [dctV, hs])
      cases r
      obtain ⟨o, es, ep, ho, hc, hd, _⟩ := m.ex
      exact ⟨⟨o, ho, hc.1⟩, fun b e => by cases e; exact ⟨o, ho, hc.2.1⟩⟩
    · rename_i kvs hs
      cases h
      obtain ⟨a, T, rfl, rfl, e3, m, h4, h5, h6, c1, hP⟩ := dct_of I xo c hx (show dctV S _ = some kvs by simp [dctV, hs])
      cases r
      obtain ⟨o, es, ep, ho, hc, hd, _⟩ := m.ex
      exact ⟨⟨o, ho, hc.1⟩, fun b e => by cases e; exact ⟨o, ho, hc.2.1⟩⟩
    · cases h
  · cases h
theorem ix_of {xs : List Val} {ys : List V} {n : Nat} {v : Val} (hl : xs.length = ys.length) (h : xs[n]? = some v) : ∃ w, ys[n]? = some w ∧ (v, w) ∈ xs.zip ys := by
  have hj : n < ys.length := by rw [← hl]; exact (List.getElem?_eq_some_iff.mp h).1
  exact ⟨ys[n], List.getElem?_eq_getElem hj, List.mem_iff_getElem?.mpr ⟨n, List.getElem?_zip_eq_some.mpr ⟨h, List.getElem?_eq_getElem hj⟩⟩⟩
theorem zip_sub {xs xs' : List Val} {ys ys' : List V} (h : ∀ (j : Nat) (x : Val) (y : V), xs'[j]? = some x → ys'[j]? = some y → ∃ i : Nat, xs[i]? = some x ∧ ys[i]? = some y) : ∀ q ∈ xs'.zip ys', q ∈ xs.zip ys := fun q hq => by
  obtain ⟨j, hj⟩ := List.mem_iff_getElem?.mp hq
  obtain ⟨h1, h2⟩ := List.getElem?_zip_eq_some.mp hj
  obtain ⟨i, h3, h4⟩ := h j _ _ h1 h2
  exact List.mem_iff_getElem?.mpr ⟨i, List.getElem?_zip_eq_some.mpr ⟨h3, h4⟩⟩
theorem zip_erase {xs : List Val} {ys : List V} {n : Nat} : ∀ q ∈ (xs.eraseIdx n).zip (ys.eraseIdx n), q ∈ xs.zip ys := zip_sub fun j x y hx hy => by
  rw [List.getElem?_eraseIdx] at hx hy
  split at hx
  · rename_i hlt
    rw [if_pos hlt] at hy
    exact ⟨j, hx, hy⟩
  · rename_i hlt
    rw [if_neg hlt] at hy
    exact ⟨j + 1, hx, hy⟩
theorem zip_dropLast {xs : List Val} {ys : List V} (hl : xs.length = ys.length) : ∀ q ∈ xs.dropLast.zip ys.dropLast, q ∈ xs.zip ys := zip_sub fun j x y hx hy => by
  rw [List.getElem?_dropLast] at hx hy
  split at hx
  · rename_i hlt
    rw [hl] at hlt
    rw [if_pos hlt] at hy
    exact ⟨j, hx, hy⟩
  · cases hx
theorem zip_take {xs : List Val} {ys : List V} {n : Nat} : ∀ q ∈ (xs.take n).zip (ys.take n), q ∈ xs.zip ys := zip_sub fun j x y hx hy => by
  rw [List.getElem?_take] at hx hy
  split at hx
  · rename_i hlt
    rw [if_pos hlt] at hy
    exact ⟨j, hx, hy⟩
  · cases hx
theorem zip_drop {xs : List Val} {ys : List V} {n : Nat} : ∀ q ∈ (xs.drop n).zip (ys.drop n), q ∈ xs.zip ys := zip_sub fun j x y hx hy => by
  rw [List.getElem?_drop] at hx hy
  exact ⟨_, hx, hy⟩
theorem zip_rev {xs : List Val} {ys : List V} (hl : xs.length = ys.length) : ∀ q ∈ xs.reverse.zip ys.reverse, q ∈ xs.zip ys := zip_sub fun j x y hx hy => by
  have h1 := (List.getElem?_eq_some_iff.mp hx).1
  rw [List.length_reverse] at h1
  rw [List.getElem?_reverse h1] at hx
  rw [List.getElem?_reverse (by rw [← hl]; exact h1)] at hy
  rw [← hl] at hy
  exact ⟨_, hx, hy⟩
/-- THE METHODS are sound -/
theorem mtd_run (xo : XOk X FV) (I : Inv X pins σ H s) (c : Ctx X.K FV F S H P) {t : Rt} {m : BM} {o : Val} {wo : V} {uo : Value} {as : List Val} {ws : List V} {us : List Value} {v : Val} {S' : Sto} {Q : VK} (ho : (o, wo) ∈ P) (r : RelV wo uo) (hl : as.length = ws.length) (hz : ∀ q ∈ as.zip ws, q ∈ P) (rv : Vals ws us)
    (h : mtdV t m o as S = .ok v S') (q : ∀ w H', Ctx X.K FV F S' H' ((v, w) :: P) → Q w H') : wpAny (model X.prog X.w) X.A (call (.builtin (mId t m)) (uo :: us)) (EP X pins σ Q) X.xe s := by
  have room := xo.room
  cases t with
  | tup => cases h
  | str =>
    cases m with
    | join =>
      simp only [mtdV] at h
      split at h
      · rename_i z y
        split at h
        · rename_i zs hzs
          split at h
          · rename_i hsz
            cases h
            obtain ⟨w, u, rfl, rfl, hy, r1⟩ := rc1 hl hz rv
            have e := c.str ho
            subst e
            obtain ⟨ys, hs, ho'⟩ := Option.bind_eq_some_iff.mp hzs
            obtain ⟨a, vs, rfl, hlv, c1, hq⟩ := seq_of c hy hs
            obtain ⟨loc, hv⟩ := vrs_of c1 hlv zin
            have e := all_ofs (g := fun x => V.str (stx x)) strOf_rel hv ho'
            have e2 : vs = (zs.map stx).map V.str := by rw [e, List.map_map]; rfl
            refine mt_join pins s σ H _ _ uo [u] Q I r (.cons r1 .nil) ⟨stx z, a, zs.map stx, rfl, rfl, ?_, ?_, ?_⟩
            · rw [← e2]; exact hq.imp (·.1) (·.1)
            · rw [List.map_map, List.length_map]
              have e3 : (fun x : Str => x.length) ∘ stx = List.length := by funext x; simp [stx, Str.length]
              have e4 : (stx z).length = z.length := by simp [stx, Str.length]
              rw [e3, e4]
              exact hsz
            · have := q _ _ (c.addStr (PySem.Txt.join (stx z) (zs.map stx)).cps.toList)
              rw [stx_cps'] at this
              exact this
          · cases h
        · cases h
      · cases h
    | _ => cases h
  | dct =>
    cases m with
    | get =>
      simp only [mtdV] at h
      split at h
      · rename_i k d
        split at h
        · rename_i kvs n hd hk
          cases h
          obtain ⟨w, w', u, u', rfl, rfl, hx, hy, r1, r2⟩ := rc2 hl hz rv
          obtain ⟨a, T, rfl, rfl, e3, m', h4, h5, h6, c1, hP⟩ := dct_of I xo c ho hd
          cases r
          have kin := keyIn_of I c hx r1 hk
          refine callGetN (by omega) e3 kin m' ?_
          rcases at_kn h6 (k := n) with ⟨e, e'⟩ | ⟨t, ht, _, e, e'⟩
          · rw [e'] ; rw [e] at q
            exact ⟨w', H, I.tok _, r2, q _ _ (c.bare hy)⟩
          · rw [e']; rw [e] at q
            exact ⟨t.vw, H, I.tok _, (h6 t ht).rv, q _ _ (back2 (c1.bare (hP t ht _ (List.mem_cons_of_mem _ List.mem_cons_self))))⟩
        · cases h
      · cases h
    | setdefault =>
      simp only [mtdV] at h
      split at h
      · rename_i a0 k d
        split at h
        · rename_i kvs n hs hk
          obtain ⟨w, w', u, u', rfl, rfl, hx, hy, r1, r2⟩ := rc2 hl hz rv
          obtain ⟨a, T, rfl, rfl, h3, h4, h5, h6, c1⟩ := c.dct ho hs
          have hP : ∀ t ∈ T, ∀ q ∈ t.held, q ∈ T.flatMap DE.held ++ P := fun t ht q hq => List.mem_append_left _ (List.mem_flatMap.mpr ⟨t, ht, hq⟩)
          obtain ⟨hsm, m'⟩ := dctN_of I xo.w (.inl h3) h5 h6 c1 hP
          cases r
          have kin := keyIn_of I c hx r1 hk
          rcases at_kn h6 (k := n) with ⟨e, e'⟩ | ⟨t, ht, _, e, e'⟩
          · rw [e] at h
            split at h
            · rename_i u hu
              cases hu
            · split at h
              · rename_i hlen
                cases h
                have hlen' : T.length < line := by simpa using hlen
                obtain ⟨k1, k2⟩ := keyD_some hk
                let t0 : DE := ⟨n, k, w, u, v, w', u'⟩
                have o0 : t0.Ok := ⟨k1, k2, r1, r2⟩
                refine callDfltN (by omega) hsm kin m' (by rw [List.length_map]; exact h4) (fun z hz => by rw [e'] at hz; cases hz) fun _ h' m'' sb => ?_
                rw [show u = t0.ku from rfl, show u' = t0.vu from rfl, ← put_ne T n t0 rfl] at m''
                obtain ⟨p1, p2⟩ := put_nk T n t0 rfl h5
                refine ⟨w', _, Inv.stored xo I h3 hsm m'' sb _, r2, q _ _ ?_⟩
                have e : putK (T.map DE.kv) n k v = (put_dct T n t0).map DE.kv := (put_kv T n t0 h6).symm
                rw [e]
                exact ((c1.setDct (List.mem_append_right _ ho) hs (Nat.le_trans p2 hlen') p1 (put_ok h6 o0) (put_held hP fun q hq => by
                  unfold DE.held at hq
                  simp only [List.mem_cons, List.not_mem_nil, or_false] at hq
                  rcases hq with rfl | rfl
                  · exact List.mem_append_right _ hx
                  · exact List.mem_append_right _ hy)).bare (List.mem_append_right _ hy)).sub fun p hp => by
                    rcases List.mem_cons.mp hp with rfl | hp
                    · exact List.mem_cons_self
                    · exact List.mem_cons_of_mem _ (List.mem_append_right _ hp)
              · cases h
          · rw [e] at h
            cases h
            refine callDfltN (by omega) hsm kin m' (by rw [List.length_map]; exact h4) (fun z hz => ?_) fun hn => by rw [e'] at hn; cases hn
            rw [e'] at hz
            cases hz
            exact ⟨t.vw, H, I.tok _, (h6 t ht).rv, q _ _ (back2 (c1.bare (hP t ht _ (List.mem_cons_of_mem _ List.mem_cons_self))))⟩
        · cases h
      · cases h
    | _ => cases h
  | lst =>
    simp only [mtdV] at h
    split at h
    case h_2 => cases h
    rename_i a0
    split at h
    case h_2 => cases h
    rename_i xs hs
    obtain ⟨a, ys, rfl, h1, hlx, c1⟩ := c.lst ho hs
    have hoP := List.mem_append_right (xs.zip ys) ho
    have back : ∀ {S' : Sto} {H' : Hp}, Ctx X.K FV F S' H' (xs.zip ys ++ P) → Ctx X.K FV F S' H' P := fun h => h.sub fun p hp => List.mem_append_right _ hp
    cases m with
    | append =>
      simp only at h
      split at h
      · split at h
        · rename_i x hlen
          cases h
          obtain ⟨w, u, rfl, rfl, hx, r1⟩ := rc1 hl hz rv
          refine mt_append pins s σ H _ _ uo [u] Q I r (.cons r1 .nil) ⟨a, ys, w, rfl, rfl, h1, by rw [← hlx]; exact hlen, q _ _ (back (c1.setLst hoP hs (by simp [hlx]) ?_)).addNon⟩
          exact zip_cat hlx zin fun p hp => by
            simp at hp
            subst hp
            exact List.mem_append_right _ hx
        · cases h
      · cases h
    | pop =>
      simp only at h
      split at h
      · split at h
        · rename_i y hy
          cases h
          have e : ws = [] := List.length_eq_zero_iff.mp hl.symm
          subst e
          cases rv
          obtain ⟨w, g1, g2⟩ := ix_of hlx hy
          refine mt_pop pins s σ H _ _ uo [] Q I r .nil ⟨a, ys, w, rfl, rfl, h1, by rw [← hlx]; exact g1, q _ _ (back2 ((c1.setLst hoP hs (by simp [hlx]) fun p hp => List.mem_append_left _ (zip_dropLast hlx p hp)).bare (List.mem_append_left _ g2)))⟩
        · cases h
      · split at h
        · rename_i i hi
          split at h
          · rename_i j hj
            split at h
            · rename_i y hy
              cases h
              obtain ⟨w, u, rfl, rfl, hx, r1⟩ := rc1 hl hz rv
              have e := c.int hx
              subst e
              obtain ⟨w, g1, g2⟩ := ix_of hlx hy
              exact mt_popAt pins s σ H _ _ uo [u] Q I r (.cons r1 .nil) ⟨a, ys, i, j, w, rfl, rfl, h1, hi.1, hi.2, by rw [← hlx]; exact hj, g1, q _ _ (back2 ((c1.setLst hoP hs (by rw [List.length_eraseIdx, List.length_eraseIdx, hlx]) fun p hp => List.mem_append_left _ (zip_erase p hp)).bare (List.mem_append_left _ g2)))⟩
            · cases h
          · cases h
        · cases h
      · cases h
    | insert =>
      simp only at h
      split at h
      · split at h
        · rename_i i y hc
          cases h
          obtain ⟨w, w', u, u', rfl, rfl, hx, hy, r1, r2⟩ := rc2 hl hz rv
          have e := c.int hx
          subst e
          refine mt_insert pins s σ H _ _ uo [u, u'] Q I r (.cons r1 (.cons r2 .nil)) ⟨a, ys, i, w', rfl, rfl, h1, by rw [← hlx]; exact hc.1, hc.2.1, hc.2.2, q _ _ (back (c1.setLst hoP hs (by simp [hlx]) ?_)).addNon⟩
          refine zip_cat (by simp [hlx]) (zip_cat (by simp [hlx]) (fun p hp => List.mem_append_left _ (zip_take p hp)) fun p hp => ?_) fun p hp => List.mem_append_left _ (zip_drop p hp)
          simp at hp
          subst hp
          exact List.mem_append_right _ hy
        · cases h
      · cases h
    | extend =>
      simp only at h
      split at h
      · split at h
        · split at h
          · rename_i b zs hs2 hlen
            cases h
            obtain ⟨w, u, rfl, rfl, hx, r1⟩ := rc1 hl hz rv
            obtain ⟨b', us, rfl, h2, hl2, c2⟩ := c1.lst (List.mem_append_right _ hx) hs2
            refine mt_extend pins s σ H _ _ uo [u] Q I r (.cons r1 .nil) ⟨a, b', ys, us, rfl, rfl, h1, h2, by rw [← hlx, ← hl2]; exact hlen, q _ _ (back (Ctx.sub (c2.setLst (List.mem_append_right _ hoP) hs (by simp [hlx, hl2]) ?_) fun p hp => List.mem_append_right _ hp)).addNon⟩
            exact zip_cat hlx (fun p hp => List.mem_append_right _ (List.mem_append_left _ hp)) fun p hp => List.mem_append_left _ hp
          · cases h
        · cases h
      · cases h
    | clear =>
      simp only at h
      split at h
      · cases h
        have e : ws = [] := List.length_eq_zero_iff.mp hl.symm
        subst e
        cases rv
        exact mt_clear pins s σ H _ _ uo [] Q I r .nil ⟨a, ys, rfl, rfl, h1, q _ _ (back (c1.setLst (ys := []) hoP hs rfl (by simp))).addNon⟩
      · cases h
    | reverse =>
      simp only at h
      split at h
      · cases h
        have e : ws = [] := List.length_eq_zero_iff.mp hl.symm
        subst e
        cases rv
        exact mt_reverse pins s σ H _ _ uo [] Q I r .nil ⟨a, ys, rfl, rfl, h1, q _ _ (back (c1.setLst hoP hs (by simp [hlx]) fun p hp => List.mem_append_left _ (zip_rev hlx p hp))).addNon⟩
      · cases h
    | count =>
      simp only at h
      split at h
      · split at h
        · rename_i x bs hb
          cases h
          obtain ⟨w, u, rfl, rfl, hx, r1⟩ := rc1 hl hz rv
          cases r
          obtain ⟨its, rvl, ⟨⟨cls, dd, data, sl⟩, n, ho2, hc, hdn, hd⟩, hlen⟩ := I.list (SqL.of h1)
          simp only at hc hd
          subst hc hd
          obtain ⟨loc, cl⟩ := c1
          have hv := VRs.of_zip hlx fun q hq => (cl.vals q (List.mem_append_left _ hq)).1
          obtain ⟨e, he, _, hj⟩ := any_eq I cl (A := X.A.in1) (by show X.A.units + 1 + 60 < cLine; omega) (cl.vals _ (List.mem_append_right _ hx)).1 r1 hv rvl hb
          have ec : its.countP e = bs.countP id := by
            have hlb : its.length = bs.length := by rw [optAll_len hb, hlx, rvl.length]
            have : its.map e = bs := by
              apply List.ext_getElem (by simpa using hlb)
              intro j j1 j2
              rw [List.getElem_map]
              have h3 := hj j its[j] (List.getElem?_eq_getElem (by simpa using j1))
              rw [List.getElem?_eq_getElem j2] at h3
              exact (Option.some.inj h3).symm
            rw [← this, List.countP_map]
            rfl
          refine call_meets PySem.F.slot_list_count ⟨_, ho2, rfl⟩ PySem.F.entry_list_count (PySem.F.args_list_count_2 _ _) (SeqAt.list_countAt a its.toArray n dd sl u e) ⟨ho2, fun y hy => he y (by simpa using hy), ?_⟩
          refine ⟨.int (bs.countP id : Nat), H, I.tok _, ⟨s.toks, ?_⟩, q _ _ (c.addInt _)⟩
          show Value.int ((its.countP e : Nat) : Int) s.toks = Value.int ((bs.countP id : Nat) : Int) s.toks
          rw [ec]
        · cases h
      · cases h
    | index =>
      simp only at h
      split at h
      · split at h
        · rename_i x bs hb
          split at h
          · rename_i j hf
            cases h
            obtain ⟨w, u, rfl, rfl, hx, r1⟩ := rc1 hl hz rv
            cases r
            obtain ⟨its, rvl, ⟨⟨cls, dd, data, sl⟩, n, ho2, hc, hdn, hd⟩, hlen⟩ := I.list (SqL.of h1)
            simp only at hc hd
            subst hc hd
            obtain ⟨loc, cl⟩ := c1
            have hv := VRs.of_zip hlx fun q hq => (cl.vals q (List.mem_append_left _ hq)).1
            obtain ⟨e, he, _, hj⟩ := any_eq I cl (A := X.A.in1) (by show X.A.units + 1 + 60 < cLine; omega) (cl.vals _ (List.mem_append_right _ hx)).1 r1 hv rvl hb
            have hlb : its.length = bs.length := by rw [optAll_len hb, hlx, rvl.length]
            obtain ⟨f1, f2, f3⟩ := List.findIdx?_eq_some_iff_getElem.mp hf
            have at_ : ∀ m (hm : m < its.length), bs[m]'(by omega) = e its[m] := fun m hm => by
              have h3 := hj m its[m] (List.getElem?_eq_getElem hm)
              rw [List.getElem?_eq_getElem (by omega)] at h3
              exact Option.some.inj h3
            have hsl := sizeLine_eq
            have hyl := rvl.length
            refine call_meets PySem.F.slot_list_index ⟨_, ho2, rfl⟩ PySem.F.entry_list_index (PySem.F.args_list_index_2 _ _) (SeqAt.list_indexAt a its.toArray n dd sl u e j (by simp; omega) (by omega) ?_ ?_) ⟨ho2, fun y hy => he y (by simpa using hy), ?_⟩
            · have := at_ j (by omega)
              simp only [List.getElem_toArray]
              rw [← this]
              exact f2
            · intro m hm hmj
              have := at_ m (by simpa using hm)
              simp only [List.getElem_toArray]
              rw [← this]
              have := f3 m hmj
              simpa using this
            · exact ⟨.int (j : Nat), H, I.tok _, ⟨_, rfl⟩, q _ _ (c.addInt _)⟩
          · cases h
        · cases h
      · cases h
    | _ => simp only at h; cases h
end
end MP
set_option linter.all false
set_option Elab.async false
set_option maxHeartbeats 2000000
set_option pp.deepTerms false
set_option pp.deepTerms.threshold 9
/-! isinstance -/
namespace MP
open PySem L2 PySem.Spec PyProof.Rows
def tyrN : TyR → String
  | .int => "int"
  | .bool => "bool"
  | .str => "str"
  | .list => "list"
  | .tuple => "tuple"
  | .dict => "dict"
theorem kit_non : ∀ t : TyR, kitB "NoneType" (tyrN t) = some false := by intro t; cases t <;> decide +kernel
theorem kit_bool : ∀ t : TyR, kitB "bool" (tyrN t) = some (decide (t = .int ∨ t = .bool)) := by intro t; cases t <;> decide +kernel
theorem kit_int : ∀ t : TyR, kitB "int" (tyrN t) = some (decide (t = .int)) := by intro t; cases t <;> decide +kernel
theorem kit_str : ∀ t : TyR, kitB "str" (tyrN t) = some (decide (t = .str)) := by intro t; cases t <;> decide +kernel
theorem kit_tuple : ∀ t : TyR, kitB "tuple" (tyrN t) = some (decide (t = .tuple)) := by intro t; cases t <;> decide +kernel
theorem kit_list : ∀ t : TyR, kitB "list" (tyrN t) = some (decide (t = TyR.list)) := by intro t; cases t <;> decide +kernel
theorem kit_dict : ∀ t : TyR, kitB "dict" (tyrN t) = some (decide (t = TyR.dict)) := by intro t; cases t <;> decide +kernel
section
variable {X : Cx} {FV : Glo} {pins : List (Addr × Obj)} {σ : L2.St} {H : Hp} {s : Shared} {F : Fm} {S : Sto} {P : List (Val × V)}
theorem isi_run (xo : XOk X FV) (I : Inv X pins σ H s) (c : Ctx X.K FV F S H P) {t : TyR} {x : Val} {w : V} {u : Value} {v : Val} {S' : Sto} {Q : VK} (hx : (x, w) ∈ P) (r : RelV w u) (h : isiV t x S = .ok v S')
    (q : ∀ w H', Ctx X.K FV F S' H' ((v, w) :: P) → Q w H') : wpAny (model X.prog X.w) X.A (call (.builtin "isinstance") [u, .type (tyrN t)]) (EP X pins σ Q) X.xe s := by
  have fin : ∀ (b : Bool) tk, v = .bl b → S' = S → EP X pins σ Q (.bool b) { s with toks := tk } := fun b tk e1 e2 => by
    subst e1; subst e2
    exact ⟨.bl b, H, I.tok tk, rfl, q _ _ (c.addBl b)⟩
  obtain ⟨loc, cl⟩ := id c
  have hv := (cl.vals _ hx).1
  have lists : ∀ {a : Addr} {ys : List V}, u = .ref a → SqL X.K H a ys → v = .bl (decide (t = TyR.list)) → S' = S → wpAny (model X.prog X.w) X.A (call (.builtin "isinstance") [u, .type (tyrN t)]) (EP X pins σ Q) X.xe s := fun {a ys} e hq e1 e2 => by
    subst e
    obtain ⟨its, rv, ⟨o, n, ho, hc, _⟩, _⟩ := I.list hq
    exact PySem.W.kia_one PySem.W.kitx_list I.kIn ⟨o, ho, hc⟩ (kit_ty (kit_list t)) (fun z => nomatch z) fun tk => fin _ tk e1 e2
  have dicts : ∀ {a : Addr} {xs : List NE}, u = .ref a → (H a = some (dctO FV.w a xs) ∨ ∃ od, H a = some (.frz od (dctO FV.w a xs))) → v = .bl (decide (t = TyR.dict)) → S' = S → wpAny (model X.prog X.w) X.A (call (.builtin "isinstance") [u, .type (tyrN t)]) (EP X pins σ Q) X.xe s := fun {a xs} e hq e1 e2 => by
    subst e
    obtain ⟨_, o, es, ep, ho, hc, _⟩ := dct_there I hq
    exact PySem.W.kia_one PySem.W.kitx_dict I.kIn ⟨o, ho, hc.1⟩ (kit_ty (kit_dict t)) (fun z => nomatch z) fun tk => fin _ tk e1 e2
  cases hv with
  | non =>
    have h' : v = .bl false ∧ S' = S := by cases t <;> (simp only [isiV] at h; cases h; exact ⟨rfl, rfl⟩)
    cases r
    exact PySem.W.kia_one PySem.W.kitx_none I.kIn True.intro (kit_ty (kit_non t)) (fun z => nomatch z) fun tk => fin _ tk h'.1 h'.2
  | bl b =>
    have h' : v = .bl (decide (t = .int ∨ t = .bool)) ∧ S' = S := by cases t <;> (simp only [isiV] at h; cases h; exact ⟨rfl, rfl⟩)
    cases r
    exact PySem.W.kia_one PySem.W.kitx_bool I.kIn True.intro (kit_ty (kit_bool t)) (fun z => nomatch z) fun tk => fin _ tk h'.1 h'.2
  | int i =>
    have h' : v = .bl (decide (t = .int)) ∧ S' = S := by cases t <;> (simp only [isiV] at h; cases h; exact ⟨rfl, rfl⟩)
    obtain ⟨tk0, rfl⟩ := r
    exact PySem.W.kia_one PySem.W.kitx_int I.kIn True.intro (kit_ty (kit_int t)) (fun z => nomatch z) fun tk => fin _ tk h'.1 h'.2
  | str z =>
    have h' : v = .bl (decide (t = .str)) ∧ S' = S := by cases t <;> (simp only [isiV] at h; cases h; exact ⟨rfl, rfl⟩)
    obtain ⟨tk0, rfl⟩ := r
    exact PySem.W.kia_one PySem.W.kitx_str I.kIn True.intro (kit_ty (kit_str t)) (fun z => nomatch z) fun tk => fin _ tk h'.1 h'.2
  | tup hs _ =>
    have h' : v = .bl (decide (t = .tuple)) ∧ S' = S := by cases t <;> (simp only [isiV] at h; cases h; exact ⟨rfl, rfl⟩)
    cases r
    obtain ⟨its, rv, ⟨o, ho, hc, _⟩, _⟩ := I.tuple hs
    exact PySem.W.kia_one PySem.W.kitx_tuple I.kIn ⟨o, ho, hc⟩ (kit_ty (kit_tuple t)) (fun z => nomatch z) fun tk => fin _ tk h'.1 h'.2
  | ref i =>
    have h' : (match S[i]? with
      | some (.lst _) => Res.ok (Val.bl (decide (t = TyR.list))) S
      | some (.rol _) => .ok (.bl (decide (t = TyR.list))) S
      | some (.dct _) => .ok (.bl (decide (t = TyR.dict))) S
      | some (.fdc _) => .ok (.bl (decide (t = TyR.dict))) S
      | _ => .bad) = .ok v S' := by cases t <;> exact h
    split at h'
    · rename_i xs hs
      cases h'
      obtain ⟨ys, h1, _⟩ := cl.obs _ _ hs
      exact lists r (SqL.of h1) rfl rfl
    · rename_i xs hs
      cases h'
      obtain ⟨ys, h1, _⟩ := cl.obs _ _ hs
      exact lists r h1.sq rfl rfl
    · rename_i xs hs
      cases h'
      obtain ⟨T, _, h1, _⟩ := cl.obs _ _ hs
      exact dicts r (.inl h1) rfl rfl
    · rename_i xs hs
      cases h'
      obtain ⟨od, T, _, h1, _⟩ := cl.obs _ _ hs
      exact dicts r (.inr ⟨od, h1⟩) rfl rfl
    · cases h'
  | fn _ => cases t <;> (simp only [isiV] at h; cases h)
end
end MP
set_option linter.all false
set_option Elab.async false
set_option maxHeartbeats 2000000
set_option pp.deepTerms false
set_option pp.deepTerms.threshold 9
/-! displays of dicts -/
namespace MP
open PySem L2 PySem.Spec PyProof.Rows
theorem putK_len (kvs : List (Val × Val)) (n : NestedKey) (k v : Val) : (putK kvs n k v).length ≤ kvs.length + 1 := by
  unfold putK
  split <;> simp
section
variable {X : Cx} {FV : Glo} {pins : List (Addr × Obj)} {σ : L2.St}
/-- pairs are put into a dict that stands outside the store -/
theorem store_all (xo : XOk X FV) {F : Fm} {S : Sto} {P : List (Val × V)} {p : Addr} (hs : (p == sysModules) = false) : ∀ (ts T : List DE) (H : Hp) (s : Shared) (Q : Hp → List DE → Prop), Inv X pins σ H s → Ctx X.K FV ((p, dctO FV.w p (T.map DE.ne)) :: F) S H P → (∀ t ∈ T, t.Ok) → (∀ t ∈ T, ∀ q ∈ t.held, q ∈ P) → (T.map DE.nk).Nodup →
    (∀ t ∈ ts, t.Ok) → (∀ t ∈ ts, ∀ q ∈ t.held, q ∈ P) → T.length + ts.length ≤ sizeLine →
    (∀ H' T', Ctx X.K FV ((p, dctO FV.w p (T'.map DE.ne)) :: F) S H' P → (∀ t ∈ T', t.Ok) → (∀ t ∈ T', ∀ q ∈ t.held, q ∈ P) → (T'.map DE.nk).Nodup → T'.length ≤ sizeLine → T'.map DE.kv = ts.foldl (fun kvs t => putK kvs t.nk t.k t.v) (T.map DE.kv) → Q H' T') →
    wpAny (model X.prog X.w) X.A (storeAll p (ts.map fun t => (t.ku, t.vu))) (fun _ s' => ∃ H' T', Inv X pins σ H' s' ∧ Q H' T') X.xe s
  | [], T, H, s, Q, I, c, h1, h2, h3, _, _, hz, q => wpAny_pure ⟨H, T, I, q H T c h1 h2 h3 (by simpa using hz) rfl⟩
  | t :: ts, T, H, s, Q, I, c, h1, h2, h3, g1, g2, hz, q => by
    have room := xo.room
    have hp := c.frameGet
    have o0 := g1 t List.mem_cons_self
    have p0 := g2 t List.mem_cons_self
    obtain ⟨_, m⟩ := dctN_of I xo.w (.inl hp) h3 h1 c h2
    have kin : KeyIn s.heap t.nk t.ku := by
      obtain ⟨loc, cl⟩ := id c
      exact ⟨vr_key I t.k t.kw t.ku t.nk (cl.vals _ (p0 _ List.mem_cons_self)).1 o0.rk o0.key, o0.dep⟩
    rw [List.length_cons] at hz
    show wpAny _ _ (forIn ((t.ku, t.vu) :: ts.map fun t => (t.ku, t.vu)) PUnit.unit _) _ _ _
    rw [List.forIn_cons]
    refine wpAny_bind (wpAny_bind (setN (by omega) kin m (by rw [List.length_map]; omega) fun h' m' sb => wpAny_pure ?_))
    rw [← put_ne T t.nk t rfl] at m'
    obtain ⟨l1, l2⟩ := put_nk T t.nk t rfl h3
    have I2 := Inv.stored (X := X) (σ := σ) (pins := pins) xo I hp hs m' sb (s.toks + t.nk.draws)
    have c2 : Ctx X.K FV ((p, dctO FV.w p ((put_dct T t.nk t).map DE.ne)) :: F) S (upd H p (dctO FV.w p ((put_dct T t.nk t).map DE.ne))) P := c.frameSet dct_free dct_nf
    exact store_all xo hs ts (put_dct T t.nk t) _ _ Q I2 c2 (put_ok h1 o0) (put_held h2 p0) l1 (fun u hu => g1 u (List.mem_cons_of_mem _ hu)) (fun u hu => g2 u (List.mem_cons_of_mem _ hu)) (by omega) fun H' T' a1 a2 a3 a4 a5 a6 => q H' T' a1 a2 a3 a4 a5 (by rw [a6, put_kv T t.nk t h1]; rfl)
/-- the pairs of a display -/
theorem pair_des {xs : List Val} : ∀ {ps : List (NestedKey × Val × Val)} {P : List (Val × V)} {vs : List (Value × Value)} {ws : List (V × V)}, pairUp xs = some ps → VV ws vs → (xs.length = 2 * ws.length) → (∀ q ∈ xs.zip (ws.flatMap fun p => [p.1, p.2]), q ∈ P) →
    ∃ ts : List DE, vs = ts.map (fun t => (t.ku, t.vu)) ∧ ps = ts.map (fun t => (t.nk, t.k, t.v)) ∧ (∀ t ∈ ts, t.Ok) ∧ ∀ t ∈ ts, ∀ q ∈ t.held, q ∈ P := by
  match xs with
  | [] =>
    intro ps P vs ws h r hl hz
    cases h
    have : ws = [] := by
      cases ws with
      | nil => rfl
      | cons a b => simp at hl
    subst this
    cases r
    exact ⟨[], rfl, rfl, by simp, by simp⟩
  | [k] => intro ps P vs ws h; simp [pairUp] at h
  | k :: v :: rest =>
    intro ps P vs ws h r hl hz
    unfold pairUp at h
    split at h
    · rename_i n qs hk hr
      cases h
      cases r with
      | nil => simp at hl
      | @cons a b as bs r1 r2 =>
        obtain ⟨k1, k2⟩ := keyD_some hk
        have hl' : rest.length = 2 * as.length := by simp at hl; omega
        have hz' : ∀ q ∈ (k :: v :: rest).zip (a.1 :: a.2 :: as.flatMap fun p => [p.1, p.2]), q ∈ P := by simpa using hz
        obtain ⟨ts, e1, e2, e3, e4⟩ := pair_des (P := P) hr r2 hl' fun q hq => hz' q (by simp [hq])
        refine ⟨⟨n, k, a.1, b.1, v, a.2, b.2⟩ :: ts, by rw [List.map_cons, ← e1], by rw [List.map_cons, ← e2], fun t ht => ?_, fun t ht q hq => ?_⟩
        · rcases List.mem_cons.mp ht with rfl | ht
          · exact ⟨k1, k2, r1.1, r1.2⟩
          · exact e3 t ht
        · rcases List.mem_cons.mp ht with rfl | ht
          · unfold DE.held at hq
            simp only [List.mem_cons, List.not_mem_nil, or_false] at hq
            rcases hq with rfl | rfl
            · exact hz' _ (by simp)
            · exact hz' _ (by simp)
          · exact e4 t ht q hq
    · cases h
end
end MP
set_option linter.all false
set_option Elab.async false
set_option maxHeartbeats 2000000
set_option pp.deepTerms false
set_option pp.deepTerms.threshold 9
/-! dict(d), dict(pairs) -/
namespace MP
open PySem L2 PySem.Spec PyProof.Rows
section
variable {X : Cx} {FV : Glo} {pins : List (Addr × Obj)} {σ : L2.St} {H : Hp} {s : Shared} {F : Fm} {S : Sto} {P : List (Val × V)}
/-- the text of a key -/
def tN : NestedKey → Str
  | .text x => x
  | _ => ⟨#[]⟩
theorem txt_key {v : Val} (h : (strOf v).isSome = true) {k : NestedKey} (hk : keyV v = some k) : ∃ x, k = .text x := by
  cases v <;> simp [strOf] at h
  simp [keyV] at hk
  exact ⟨_, hk.symm⟩
theorem dictOf_of {prog : Program} {w : World} {h : Heap} {a : Addr} {T : List DE} (m : DictN w h a (T.map DE.ne)) (ht : ∀ t ∈ T, ∃ x, t.nk = .text x) : h.DictOf (PySem.strKind prog w) a (T.map fun t => (tN t.nk, t.vu)) := by
  obtain ⟨o, es, ep, ho, hc, hd, he⟩ := m.ex
  have key : ∀ t ∈ T, ∃ x u, t.nk = .text x ∧ t.ku = .str x u := fun t hx => by
    obtain ⟨x, e⟩ := ht t hx
    have := (m.is t.ne (List.mem_map.mpr ⟨t, hx, rfl⟩)).1
    have q : NestedIs h t.nk t.ku := this
    rw [e] at q
    generalize ek : t.ku = ku at q
    cases q
    exact ⟨x, _, e, rfl⟩
  refine ⟨o, es, ep, ho, hc, hd, fun e hin => ?_, ?_, ?_⟩
  · have : e ∈ (T.map DE.ne).map (entN w) := he ▸ Array.mem_toList_iff.mpr hin
    simp only [List.mem_map] at this
    obtain ⟨_, ⟨t, hx, rfl⟩, rfl⟩ := this
    obtain ⟨x, u, e1, e2⟩ := key t hx
    refine ⟨x, ?_, ?_⟩
    · show Value.isStrOf x t.ku = true
      rw [e2]; simp [Value.isStrOf]
    · show t.nk.hash w = hashStr w x
      rw [e1]; rfl
  · rw [he]
    clear he m
    induction T with
    | nil => exact .nil
    | cons t T ih =>
      refine .cons ?_ rfl (ih (fun u hu => ht u (List.mem_cons_of_mem _ hu)) fun u hu => key u (List.mem_cons_of_mem _ hu))
      obtain ⟨x, u, e1, e2⟩ := key t List.mem_cons_self
      show Value.isStrOf (tN t.nk) t.ku = true
      rw [e1, e2]; simp [Value.isStrOf, tN]
  · have nd := m.nd
    rw [List.map_map] at nd ⊢
    have e : T.map ((·.1) ∘ fun t : DE => (tN t.nk, t.vu)) = (T.map ((·.1) ∘ DE.ne)).map tN := by rw [List.map_map]; rfl
    rw [e]
    refine List.pairwise_map.mpr (List.Pairwise.imp_of_mem (fun {x y} hx hy ne q => ne ?_) nd)
    obtain ⟨t, h1, rfl⟩ := List.mem_map.mp hx
    obtain ⟨t', h2, rfl⟩ := List.mem_map.mp hy
    obtain ⟨z, e1⟩ := ht t h1
    obtain ⟨z', e2⟩ := ht t' h2
    show t.nk = t'.nk
    have q' : tN t.nk = tN t'.nk := q
    rw [e1, e2] at q' ⊢
    exact congrArg _ q'
theorem back_of {prog : Program} {w : World} : ∀ {T : List DE} {es : List DictEntry}, (∀ t ∈ T, t.Ok ∧ ∃ x u, t.nk = .text x ∧ t.ku = .str x u) → Pairs (PySem.strKind prog w) es (T.map fun t => (tN t.nk, t.vu)) → (∀ e ∈ es, ∃ k, (PySem.strKind prog w).is k e.key = true ∧ e.hash = (PySem.strKind prog w).hash k) →
    ∃ T' : List DE, es = (T'.map DE.ne).map (entN w) ∧ T'.map DE.kv = T.map DE.kv ∧ T'.map DE.nk = T.map DE.nk ∧ (∀ t ∈ T', t.Ok) ∧ ∀ t ∈ T', ∃ u ∈ T, t.held = u.held
  | [], _, _, .nil, _ => ⟨[], rfl, rfl, rfl, by simp, by simp⟩
  | t :: T, e :: es, h, .cons h1 h2 h3, hk => by
    obtain ⟨T', e1, e2, e3, e4, e5⟩ := back_of (prog := prog) (fun u hu => h u (List.mem_cons_of_mem _ hu)) h3 fun u hu => hk u (List.mem_cons_of_mem _ hu)
    obtain ⟨ok, x, u, q1, q2⟩ := h t List.mem_cons_self
    obtain ⟨k, k1, k2⟩ := hk e List.mem_cons_self
    have h1' : Value.isStrOf (tN t.nk) e.key = true := h1
    rw [q1] at h1'
    obtain ⟨z, hz⟩ := Value.isStrOf_shape (show Value.isStrOf x e.key = true from h1')
    have k1' : Value.isStrOf k e.key = true := k1
    obtain ⟨z', hz'⟩ := Value.isStrOf_shape k1'
    have ekx : k = x := by rw [hz] at hz'; injection hz' with a b; exact a.symm
    have rk : RelV t.kw e.key := by
      have r := ok.rk
      rw [q2] at r
      have : t.kw = .str x := r.inj ⟨u, rfl⟩
      rw [this, hz]
      exact ⟨z, rfl⟩
    refine ⟨{ t with ku := e.key } :: T', ?_, by simp [DE.kv] at e2 ⊢; exact e2, by simp at e3 ⊢; exact e3, ?_, ?_⟩
    · rw [List.map_cons, List.map_cons, e1]
      congr 1
      obtain ⟨eh, ek, ev⟩ := e
      show DictEntry.mk eh ek ev = ⟨t.nk.hash w, ek, t.vu⟩
      have h2' : ev = t.vu := h2
      have k2' : eh = hashStr w k := k2
      rw [h2', k2', q1, ekx]
      rfl
    · intro u hu
      rcases List.mem_cons.mp hu with rfl | hu
      · exact ⟨ok.key, ok.dep, rk, ok.rv⟩
      · exact e4 u hu
    · intro u hu
      rcases List.mem_cons.mp hu with rfl | hu
      · exact ⟨t, List.mem_cons_self, rfl⟩
      · obtain ⟨v, hv, e⟩ := e5 u hu
        exact ⟨v, List.mem_cons_of_mem _ hv, e⟩
/-- dict(d), d with texts as keys -/
theorem dict_copy (I : Inv X pins σ H s) (xo : XOk X FV) (c : Ctx X.K FV F S H P) {a : Addr} {T : List DE} {Q : VK} (hs : (a == sysModules) = false) (m : DictN X.w s.heap a (T.map DE.ne)) (hz : T.length ≤ sizeLine) (hn : (T.map DE.nk).Nodup) (ho : ∀ t ∈ T, t.Ok) (h : ∀ t ∈ T, ∀ q ∈ t.held, q ∈ P)
    (ht : ∀ t ∈ T, ∃ x, t.nk = .text x) (q : ∀ w H', Ctx X.K FV F (S ++ [.dct (T.map DE.kv)]) H' ((.ref S.length, w) :: P) → Q w H') : wpAny (model X.prog X.w) X.A (call (.type "dict") [.ref a]) (EP X pins σ Q) X.xe s := by
  have hsm : (s.heap.objs.size == sysModules) = false := beq_eq_false_iff_ne.mpr (Ne.symm (Nat.ne_of_lt I.big))
  refine PySem.kt_call_dict hs (dictOf_of (prog := X.prog) m ht) (by simpa using hz) fun h' d' sb => ?_
  obtain ⟨o, es, ep, g1, g2, g3, g4, g5, g6⟩ := d'
  have key : ∀ t ∈ T, t.Ok ∧ ∃ x u, t.nk = .text x ∧ t.ku = .str x u := fun t hx => by
    obtain ⟨x, e⟩ := ht t hx
    have q : NestedIs s.heap t.nk t.ku := (m.is t.ne (List.mem_map.mpr ⟨t, hx, rfl⟩)).1
    rw [e] at q
    generalize ek : t.ku = ku at q
    cases q
    exact ⟨ho t hx, x, _, e, rfl⟩
  obtain ⟨T', e1, e2, e3, e4, e5⟩ := back_of (prog := X.prog) (w := X.w) key g5 fun e he => g4 e (Array.mem_toList_iff.mp he)
  have hf : H s.heap.objs.size = none := I.hok.fresh (Nat.le_refl _)
  have keep : ∀ b u, s.heap.get? b = some u → h'.get? b = some u := fun b u e => sb.extBut b u (Nat.ne_of_lt (Heap.lt_size e)) (Heap.get?_push_of_some _ e)
  refine ⟨.ref s.heap.objs.size, upd H s.heap.objs.size (dctO FV.w s.heap.objs.size (T'.map DE.ne)), I.laid (t' := s.toks) keep (Nat.le_refl _) (dct_new hsm ⟨o, es, ep, g1, g2, g3, by rw [xo.w]; exact e1⟩), rfl, q _ _ ?_⟩
  rw [← e2]
  have hl : T'.length = T.length := by have := congrArg List.length e2; simpa using this
  exact c.newDct hf (by rw [hl]; exact hz) (by rw [e3]; exact hn) e4 fun t ht q hq => by
    obtain ⟨u, hu, e⟩ := e5 t ht
    rw [e] at hq
    exact h u hu q hq
/-! pairs -/
theorem pairs_of (I : Inv X pins σ H s) : ∀ {xs : List Val} {ys : List V} {us : List Value} {P : List (Val × V)} {ps : List (NestedKey × Val × Val)}, Ctx X.K FV F S H P → xs.length = ys.length → (∀ q ∈ xs.zip ys, q ∈ P) → Vals ys us → prsV S xs = some ps →
    ∃ (ts : List DE) (Ts : List Addr) (P' : List (Val × V)), us = Ts.map Value.ref ∧ ts.length = Ts.length ∧ ps = ts.map (fun t => (t.nk, t.k, t.v)) ∧ (∀ t ∈ ts, t.Ok) ∧ Ctx X.K FV F S H (P' ++ P) ∧ (∀ t ∈ ts, ∀ q ∈ t.held, q ∈ P' ++ P) ∧
      ∀ (j : Nat) (t : DE) (A : Addr), ts[j]? = some t → Ts[j]? = some A → PairAt s.heap A t.ku t.vu
  | [], ys, us, P, ps, c, hl, hz, rv, hp => by
    cases hp
    cases ys with
    | nil => cases rv; exact ⟨[], [], [], rfl, rfl, rfl, by simp, c, by simp, by simp⟩
    | cons _ _ => simp at hl
  | x :: xs, [], us, P, ps, c, hl, hz, rv, hp => by simp at hl
  | x :: xs, y :: ys, us, P, ps, c, hl, hz, rv, hp => by
    cases rv with
    | @cons _ u _ us r1 r2 =>
    unfold prsV optAll at hp
    split at hp
    case h_2 => cases hp
    rename_i p1 ps' g1 g2
    cases hp
    have g2' : prsV S xs = some ps' := g2
    split at g1
    case h_2 => cases g1
    rename_i k v hs
    obtain ⟨n, hk, rfl⟩ := Option.map_eq_some_iff.mp g1
    obtain ⟨a, zs, rfl, l2, c1, hq⟩ := seq_of c (hz (x, y) List.mem_cons_self) hs
    obtain ⟨wk, wv, rfl⟩ : ∃ wk wv, zs = [wk, wv] := by
      match zs, l2 with
      | [a, b], _ => exact ⟨a, b, rfl⟩
    cases r1
    obtain ⟨ts, Ts, P', e1, e2, e3, e4, c2, e5, e6⟩ := pairs_of I c1 (by simpa using hl) (fun q hq => List.mem_append_right _ (hz q (List.mem_cons_of_mem _ hq))) r2 g2'
    have pr : ∃ uk uv, RelV wk uk ∧ RelV wv uv ∧ PairAt s.heap a uk uv := by
      rcases hq with ⟨hq, _⟩ | ⟨hq, _⟩
      · obtain ⟨its, rv, ⟨o, n, ho, hc, hd, hdat⟩, _⟩ := I.list hq
        cases rv with
        | cons q1 q2 => cases q2 with
          | cons q2 q3 => cases q3; exact ⟨_, _, q1, q2, .inr ⟨o, ho, hc, n, hdat⟩⟩
      · obtain ⟨its, rv, ⟨o, ho, hc, n, hdat⟩, _⟩ := I.tuple hq
        cases rv with
        | cons q1 q2 => cases q2 with
          | cons q2 q3 => cases q3; exact ⟨_, _, q1, q2, .inl ⟨o, ho, hc, n, hdat⟩⟩
    obtain ⟨uk, uv, q1, q2, q3⟩ := pr
    obtain ⟨k1, k2⟩ := keyD_some hk
    refine ⟨⟨n, k, wk, uk, v, wv, uv⟩ :: ts, a :: Ts, P' ++ [(k, wk), (v, wv)], by rw [e1]; rfl, by simp [e2], by rw [e3]; rfl, ?_, by simpa using c2, ?_, ?_⟩
    · intro t ht
      rcases List.mem_cons.mp ht with rfl | ht
      · exact ⟨k1, k2, q1, q2⟩
      · exact e4 t ht
    · intro t ht q hq
      rcases List.mem_cons.mp ht with rfl | ht
      · unfold DE.held at hq
        simp only [List.mem_cons, List.not_mem_nil, or_false] at hq
        simp
        rcases hq with rfl | rfl <;> simp
      · have := e5 t ht q hq
        simpa using this
    · intro j t A h1 h2
      cases j with
      | zero =>
        simp at h1 h2
        subst h1; subst h2
        exact q3
      | succ j => exact e6 j t A (by simpa using h1) (by simpa using h2)
/-- the pairs put in -/
def putsD (ts : List DE) : List DE := ts.foldl (fun T t => put_dct T t.nk t) []
theorem putsD_all (ts : List DE) (h : ∀ t ∈ ts, t.Ok) : ∀ T : List DE, (∀ t ∈ T, t.Ok) → (T.map DE.nk).Nodup → let R := ts.foldl (fun T t => put_dct T t.nk t) T
    (∀ t ∈ R, t.Ok) ∧ (R.map DE.nk).Nodup ∧ R.length ≤ T.length + ts.length ∧ R.map DE.kv = (ts.map fun t => (t.nk, t.k, t.v)).foldl (fun kvs p => putK kvs p.1 p.2.1 p.2.2) (T.map DE.kv) := by
  induction ts with
  | nil => exact fun T h1 h2 => ⟨h1, h2, Nat.le_refl _, rfl⟩
  | cons t ts ih =>
    intro T h1 h2
    obtain ⟨n1, n2⟩ := put_nk T t.nk t rfl h2
    obtain ⟨a, b, d, e⟩ := ih (fun u hu => h u (List.mem_cons_of_mem _ hu)) (put_dct T t.nk t) (put_ok h1 (h t List.mem_cons_self)) n1
    refine ⟨a, b, by simp only [List.foldl_cons, List.length_cons]; omega, ?_⟩
    simp only [List.foldl_cons, List.map_cons]
    rw [e, put_kv T t.nk t h1]
theorem putsD_held {P : List (Val × V)} (ts : List DE) (h : ∀ t ∈ ts, ∀ q ∈ t.held, q ∈ P) : ∀ T : List DE, (∀ t ∈ T, ∀ q ∈ t.held, q ∈ P) → ∀ t ∈ ts.foldl (fun T t => put_dct T t.nk t) T, ∀ q ∈ t.held, q ∈ P := by
  induction ts with
  | nil => exact fun T h1 => h1
  | cons t ts ih => exact fun T h1 => ih (fun u hu => h u (List.mem_cons_of_mem _ hu)) _ (put_held h1 (h t List.mem_cons_self))
theorem putsD_take {ts : List DE} {i : Nat} {t : DE} (h : ts[i]? = some t) : putsD (ts.take (i + 1)) = put_dct (putsD (ts.take i)) t.nk t := by
  unfold putsD
  rw [List.take_add_one, h, List.foldl_append]
  rfl
/-- dict(pairs) of a list of pairs -/
theorem dict_prs (I : Inv X pins σ H s) (xo : XOk X FV) (c : Ctx X.K FV F S H P) {a : Addr} {xs : List Val} {ys : List V} {ps : List (NestedKey × Val × Val)} {Q : VK} (hq : SqL X.K H a ys) (hl : xs.length = ys.length) (hz : ∀ q ∈ xs.zip ys, q ∈ P) (hp : prsV S xs = some ps)
    (q : ∀ w H', Ctx X.K FV F (S ++ [.dct (ps.foldl (fun kvs p => putK kvs p.1 p.2.1 p.2.2) [])]) H' ((.ref S.length, w) :: P) → Q w H') : wpAny (model X.prog X.w) X.A (call (.type "dict") [.ref a]) (EP X pins σ Q) X.xe s := by
  have hsm : (s.heap.objs.size == sysModules) = false := beq_eq_false_iff_ne.mpr (Ne.symm (Nat.ne_of_lt I.big))
  obtain ⟨its, rv, pl, few⟩ := I.list hq
  obtain ⟨ts, Ts, P', e1, e2, e3, e4, c2, e5, e6⟩ := pairs_of I c hl hz rv hp
  subst e1
  have room := xo.room
  have hlen : ts.length ≤ sizeLine := by
    have := rv.length
    simp at this
    omega
  have getT : ∀ j, j < ts.length → Ts[j]? = some (Ts.getD j 0) := fun j hj => by
    rw [List.getElem?_eq_getElem (by omega)]
    simp [List.getD, List.getElem?_eq_getElem (show j < Ts.length by omega)]
  have pa : PairItems s.heap (Ts.map Value.ref).toArray (fun j => Ts.getD j 0) (ts.map fun t => (t.ku, t.vu)) := by
    refine ⟨by simp [e2], fun j k v hj => ?_⟩
    rw [List.getElem?_map] at hj
    obtain ⟨t, ht, e⟩ := Option.map_eq_some_iff.mp hj
    cases e
    have hj' : j < ts.length := (List.getElem?_eq_some_iff.mp ht).1
    refine ⟨?_, e6 j t _ ht (getT j hj')⟩
    rw [List.getElem?_toArray, List.getElem?_map, getT j hj']
    rfl
  have kin : ∀ t ∈ ts, KeyIn s.heap t.nk t.ku := fun t ht => by
    obtain ⟨loc, cl⟩ := id c2
    exact ⟨vr_key I t.k t.kw t.ku t.nk (cl.vals _ (e5 t ht _ List.mem_cons_self)).1 (e4 t ht).rk (e4 t ht).key, (e4 t ht).dep⟩
  have kd : ∀ i, ∀ t ∈ putsD (ts.take i), KeyIn s.heap t.nk t.ku := fun i t ht => by
    have h1 := (putsD_all (ts.take i) (fun u hu => e4 u (List.mem_of_mem_take hu)) [] (by simp) (by simp)).1 t ht
    have h2 := putsD_held (ts.take i) (fun u hu => e5 u (List.mem_of_mem_take hu)) [] (by simp) t ht
    obtain ⟨loc, cl⟩ := id c2
    exact ⟨vr_key I t.k t.kw t.ku t.nk (cl.vals _ (h2 _ List.mem_cons_self)).1 h1.rk h1.key, h1.dep⟩
  refine PySem.call_dict_arg (PairArg.list a (Ts.map Value.ref).toArray (fun j => Ts.getD j 0) (ts.map fun t => (t.ku, t.vu))) ⟨pl, pa⟩ fun s₁ hs₁ hdf ok₁ => ?_
  subst hs₁
  refine PySem.updateFrom_arg (A := X.A.in1) (Tab := fun i h => (∃ o es ep, h.get? s.heap.objs.size = some o ∧ o.ExactDict ∧ o.data = .dict es ep ∧ es.toList = ((putsD (ts.take i)).map DE.ne).map (entN X.w)) ∧ ∀ b o, s.heap.get? b = some o → h.get? b = some o)
    (PairArg.list a (Ts.map Value.ref).toArray (fun j => Ts.getD j 0) (ts.map fun t => (t.ku, t.vu))) .none (I.ok.hd xo.calm) ok₁ hdf ?_ ?_ ?_ ?_ ?_
  · exact ⟨⟨_, #[], 0, Heap.get?_push_size _ rfl, ⟨rfl, rfl, rfl⟩, rfl, rfl⟩, fun b o e => Heap.get?_push_of_some _ e⟩
  · rintro i h ⟨⟨o, _, _, ho, _⟩, _⟩
    exact Heap.lt_size ho
  · rintro i h h' wr' hd hw ⟨⟨o, es, ep, ho, r⟩, hk⟩ hk'
    refine ⟨⟨o, es, ep, hk' _ o hd ho, r⟩, fun b o e => hk' b o (fun hm => ?_) (hk b o e)⟩
    rcases hw b hm with z | z
    · exact nomatch z
    · rw [Heap.get?_push_of_some _ e] at z; cases z
  · rintro i k v s' Q' E' hi hrel ⟨ex, hk⟩ _ hQ
    obtain ⟨t, ht, e⟩ := Option.map_eq_some_iff.mp (show (ts[i]?).map (fun t : DE => (t.ku, t.vu)) = some (k, v) by rw [← List.getElem?_map]; exact hrel)
    cases e
    have at' : ∀ {k u}, KeyIn s.heap k u → KeyIn s'.heap k u := fun q => ⟨NestedIs.at (fun b ob vs n hb hc => hk b ob hb) _ _ q.1, q.2⟩
    obtain ⟨p1, p2, p3, _⟩ := putsD_all (ts.take i) (fun u hu => e4 u (List.mem_of_mem_take hu)) [] (by simp) (by simp)
    have m : DictN X.w s'.heap s.heap.objs.size ((putsD (ts.take i)).map DE.ne) := ⟨ex, fun x hx => by
      obtain ⟨t', ht', rfl⟩ := List.mem_map.mp hx
      exact at' (kd i t' ht'), by rw [List.map_map]; exact p2⟩
    have hlt : (putsD (ts.take i)).length ≤ sizeLine := by
      have : (putsD (ts.take i)).length ≤ 0 + (ts.take i).length := p3
      rw [List.length_take] at this
      omega
    refine setN (A := X.A.in1.in1) (by show X.A.units + 1 + 1 + 9 < cLine; omega) (at' (kin t (List.mem_of_getElem? ht))) m (by rw [List.length_map]; exact hlt) fun h' m' sb => ?_
    rw [← put_ne (putsD (ts.take i)) t.nk t rfl, ← putsD_take ht] at m'
    exact hQ h' _ ⟨m'.ex, fun b o e => sb.extBut b o (Nat.ne_of_lt (Heap.lt_size e)) (hk b o e)⟩ sb
  · rintro h' tk ⟨⟨o, es, ep, g1, g2, g3, g4⟩, hk⟩ _
    rw [List.length_map, List.take_length] at g4
    have hf : H s.heap.objs.size = none := I.hok.fresh (Nat.le_refl _)
    obtain ⟨p1, p2, p3, p4⟩ := putsD_all ts e4 [] (by simp) (by simp)
    refine ⟨rfl, .ref s.heap.objs.size, upd H s.heap.objs.size (dctO FV.w s.heap.objs.size ((putsD ts).map DE.ne)), I.laid (t' := tk) hk (Nat.le_refl _) (dct_new hsm ⟨o, es, ep, g1, g2, g3, by rw [xo.w]; exact g4⟩), rfl, q _ _ ?_⟩
    have p4' : (putsD ts).map DE.kv = ps.foldl (fun kvs p => putK kvs p.1 p.2.1 p.2.2) [] := by rw [e3]; exact p4
    have p3' : (putsD ts).length ≤ 0 + ts.length := p3
    have hh' : ∀ t ∈ putsD ts, ∀ q ∈ t.held, q ∈ P' ++ P := putsD_held ts e5 [] (by simp)
    rw [← p4']
    exact (c2.newDct hf (show (putsD ts).length ≤ sizeLine by omega) p2 p1 hh').sub fun p hp => by
      rcases List.mem_cons.mp hp with rfl | hp
      · exact List.mem_cons_self
      · exact List.mem_cons_of_mem _ (List.mem_append_right _ hp)
theorem dict_run (xo : XOk X FV) : CallR X (bfV .dict) (rC X.K FV (bltV .dict)) := by
  intro pins s σ H ws us Q I r ⟨F, S, P, xs, v, S', h, hl, c, hz, q⟩
  unfold bltV at h
  split at h
  all_goals first | (rename_i heq _; cases heq; done) | (rename_i heq; cases heq; done) | skip
  · rename_i x
    obtain ⟨w, u, rfl, rfl, hx, r1⟩ := rc1 hl hz r
    split at h
    · rename_i kvs hk
      split at h
      · rename_i al
        cases h
        obtain ⟨a, T, rfl, rfl, e3, m, h4, h5, h6, c1, hP⟩ := dct_of I xo c hx hk
        cases r1
        refine dict_copy I xo c1 e3 m h4 h5 h6 hP (fun t ht => ?_) fun w H' c' => q w H' (back2 c')
        refine txt_key (v := t.k) ?_ (h6 t ht).key
        have := List.all_eq_true.mp al t.kv (List.mem_map.mpr ⟨t, ht, rfl⟩)
        exact this
      · cases h
    · split at h
      · rename_i ps hn
        cases h
        obtain ⟨ys, hs, ho⟩ := Option.bind_eq_some_iff.mp hn
        obtain ⟨a, vs, rfl, hlv, c1, hq⟩ := seq_of c hx hs
        cases r1
        rcases hq with ⟨hq, _⟩ | ⟨_, e⟩
        · exact dict_prs I xo c1 hq hlv zin ho fun w H' c' => q w H' (back2 c')
        · cases e
      · cases h
  · cases h
theorem blt_all (xo : XOk X FV) (b : BF) : CallR X (bfV b) (rC X.K FV (bltV b)) := by
  by_cases h : b = .dict
  · subst h; exact dict_run xo
  · exact blt_run xo b h
end
end MP
set_option linter.all false
set_option Elab.async false
set_option maxHeartbeats 2000000
set_option pp.deepTerms false
set_option pp.deepTerms.threshold 9
/-! list(d.items()), list(d.values()), sorted(d.values()) -/
namespace MP
open PySem L2 PySem.Spec PyProof.Rows
/-- the view at r of the dict at a -/
def vwO (it : Bool) (r a : Addr) : HO := .ext fun h => if it = true then h.IsItemsView r a else h.IsValuesView r a
theorem vwO_ok {P : Program} {w : World} {H : Hp} {h : Heap} {r a : Addr} {it : Bool} (e : h.get? r = some { cls := .type (if it = true then "dict_items" else "dict_values"), data := .fields #[.ref a] }) : ObjOk P w H h r (vwO it r a) := by
  cases it
  · exact ⟨⟨_, e, rfl, rfl⟩, ⟨_, e⟩, fun h1 h2 x k => let ⟨o, ho, q⟩ := x; ⟨o, k o ho, q⟩⟩
  · exact ⟨⟨_, e, rfl, rfl⟩, ⟨_, e⟩, fun h1 h2 x k => let ⟨o, ho, q⟩ := x; ⟨o, k o ho, q⟩⟩
section
variable {X : Cx} {FV : Glo} {pins : List (Addr × Obj)} {σ : L2.St} {H : Hp} {s : Shared} {F : Fm} {S : Sto} {P : List (Val × V)}
theorem vals_vals {T : List DE} {w : World} {es : Array DictEntry} {acc : Array Value} (he : es.toList = (T.map DE.ne).map (entN w)) (ho : ∀ t ∈ T, t.Ok) (ha : ItemsOf (fun i v => ∃ hi : i < es.size, v = es[i].val) acc es.size) : Vals (T.map DE.vw) acc.toList := by
  have hsz : es.size = T.length := by rw [← Array.length_toList, he]; simp
  have e1 : acc.toList = T.map DE.vu := by
    apply List.ext_getElem?
    intro j
    by_cases hj : j < T.length
    · have h1 : j < acc.size := by rw [ha.1, hsz]; exact hj
      obtain ⟨hi, e⟩ := ha.2 j acc[j] (Array.getElem?_eq_getElem h1)
      rw [List.getElem?_map, List.getElem?_eq_getElem hj, Array.getElem?_toList, Array.getElem?_eq_getElem h1, e]
      have h2 : es.toList[j]? = some (entN w T[j].ne) := by rw [he, List.getElem?_map, List.getElem?_map, List.getElem?_eq_getElem hj]; rfl
      rw [Array.getElem?_toList, Array.getElem?_eq_getElem hi] at h2
      rw [Option.some.inj h2]
      rfl
    · rw [List.getElem?_eq_none (by rw [Array.length_toList, ha.1, hsz]; omega), List.getElem?_eq_none (by simp; omega)]
  rw [e1]
  have go : ∀ T : List DE, (∀ t ∈ T, t.Ok) → Vals (T.map DE.vw) (T.map DE.vu) := fun T => by
    induction T with
    | nil => intro _; exact .nil
    | cons t T ih => intro h; exact .cons (h t List.mem_cons_self).rv (ih fun u hu => h u (List.mem_cons_of_mem _ hu))
  exact go T ho
theorem vals_zip {T : List DE} (h : ∀ t ∈ T, ∀ q ∈ t.held, q ∈ P) : ((T.map DE.kv).map (·.2)).length = (T.map DE.vw).length ∧ ∀ q ∈ ((T.map DE.kv).map (·.2)).zip (T.map DE.vw), q ∈ P := by
  refine ⟨by simp, fun q hq => ?_⟩
  rw [List.map_map, List.zip_map_left, List.zip_map_right] at hq
  simp only [List.mem_map] at hq
  obtain ⟨⟨a, b⟩, ⟨⟨c, d⟩, hcd, e1⟩, e2⟩ := hq
  have hd : c = d := by
    obtain ⟨j, hj, e⟩ := List.getElem_of_mem hcd
    rw [List.getElem_zip] at e
    cases e; rfl
  subst hd
  cases e1
  cases e2
  exact h c (List.of_mem_zip hcd).1 _ (List.mem_cons_of_mem _ List.mem_cons_self)
/-- list(d.values()) -/
theorem list_vls (I : Inv X pins σ H s) (xo : XOk X FV) (c : Ctx X.K FV F S H P) {r a : Addr} {T : List DE} {Q : VK} (hv : s.heap.IsValuesView r a) (m : DictN X.w s.heap a (T.map DE.ne)) (hz : T.length ≤ sizeLine) (ho : ∀ t ∈ T, t.Ok) (h : ∀ t ∈ T, ∀ q ∈ t.held, q ∈ P)
    (q : ∀ w H', Ctx X.K FV F (S ++ [.lst ((T.map DE.kv).map (·.2))]) H' ((.ref S.length, w) :: P) → Q w H') : wpAny (model X.prog X.w) X.A (call (.type "list") [.ref r]) (EP X pins σ Q) X.xe s := by
  obtain ⟨es, ep, raw, he⟩ := m.raw
  have hsz : es.size = T.length := by rw [← Array.length_toList, he]; simp
  refine PySem.W.kdl_call (PySem.KdlSrc.rawValues (ep := ep)) (I.ok.hd xo.calm) ⟨hv, raw⟩ (by rw [hsz]; exact hz) fun h' tk acc k hk hS hacc => ?_
  have rv := vals_vals he ho hacc
  obtain ⟨z1, z2⟩ := vals_zip h
  have hf : H s.heap.objs.size = none := I.hok.fresh (Nat.le_refl _)
  refine ⟨.ref s.heap.objs.size, upd H s.heap.objs.size (.lst (T.map DE.vw)), I.laid hk (Nat.le_refl _) ⟨by simpa using hz, acc.toList, k, rv, by rw [Array.toArray_toList]; exact hS⟩, rfl, q _ _ ?_⟩
  exact c.newLst hf z1 z2
/-- sorted(d.values()) -/
theorem sorted_vls (I : Inv X pins σ H s) (xo : XOk X FV) (c : Ctx X.K FV F S H P) {r a : Addr} {T : List DE} {Q : VK} (hv : s.heap.IsValuesView r a) (m : DictN X.w s.heap a (T.map DE.ne)) (hz : T.length ≤ sizeLine) (ho : ∀ t ∈ T, t.Ok) (h : ∀ t ∈ T, ∀ q ∈ t.held, q ∈ P) (ok : srtOk S ((T.map DE.kv).map (·.2)))
    (q : ∀ w H', Ctx X.K FV F (S ++ [.lst (srtD S ((T.map DE.kv).map (·.2)))]) H' ((.ref S.length, w) :: P) → Q w H') : wpAny (model X.prog X.w) X.A (call (.builtin "sorted") [.ref r]) (EP X pins σ Q) X.xe s := by
  obtain ⟨es, ep, raw, he⟩ := m.raw
  have hsz : es.size = T.length := by rw [← Array.length_toList, he]; simp
  have room := xo.room
  refine Calls.call_function_entry kind_sorted plain_sorted entry_sorted (args_sorted1 _) ?_
  unfold Builtin.«sorted»
  refine wpAny_bind (wpAny_pure (show wpAny _ _ _ _ _ _ from ?_))
  refine wpAny_bind (PySem.W.kdu_collect (A := X.A.in1) (PySem.KdlSrc.rawValues (ep := ep)) (I.ok.hd xo.calm) ⟨hv, raw⟩ (by rw [hsz]; exact hz) fun h' tk acc hk hacc => ?_)
  have rv := vals_vals he ho hacc
  have hal : acc.toList.length = T.length := by rw [← rv.length]; simp
  have I1 : Inv X pins σ H { s with heap := h', toks := tk } := I.kept hk
  refine wpAny_bind (wpAny_newList ?_ (by rw [hal]; exact hz))
  have hoL : (h'.push (seqObj "list" acc.toList.toArray 0)).get? h'.objs.size = some (seqObj "list" acc.toList.toArray 0) := Heap.get?_push_size _ rfl
  obtain ⟨z1, z2⟩ := vals_zip h
  have er := data_of I1 xo c z2 ok.2.1 z1 rv
  have keep : ∀ b o, h'.get? b = some o → (h'.push (seqObj "list" acc.toList.toArray 0)).get? b = some o := fun b o e => Heap.get?_push_of_some _ e
  refine wpAny_bind (wpAny_holding (PySem.W.list_sort_data (s := { s with heap := h'.push (seqObj "list" acc.toList.toArray 0), toks := tk }) (enc := fun v => (datV 20 S v).getD .none) (R := SR (((T.map DE.kv).map (·.2)).zip (T.map DE.vw))) hoL (sr_of z1 rv) ?_ ok.2.2.1 ok.2.2.2 ok.1 (fun b _ => by have := dp20 (S := S) (x := b); show X.A.units + 1 + 1 + _ < cLine; omega) fun out hlen e => ?_))
  · refine er.mono fun v b ⟨as, r⟩ => ⟨as, PyProof.Rows.Reads.keeps keep r, fun hm => absurd (reads_lt r _ hm) (Nat.lt_irrefl _)⟩
  · obtain ⟨ws, r1, r2, r3⟩ := sr_list e
    obtain ⟨k, hk2⟩ := sortedHeap_at (vs := acc.toList) (out := out.toArray) hoL
    have hzw : ws.length ≤ sizeLine := by rw [r1.length, hlen]; exact ok.1
    have hf : H h'.objs.size = none := I1.hok.fresh (Nat.le_refl _)
    refine wpAny_pure ⟨_, rfl, .ref h'.objs.size, upd H h'.objs.size (.lst ws), I1.laid (t' := tk) (fun b u eb => ?_) (Nat.le_refl _) ⟨hzw, out, k, r1, hk2⟩, rfl, q _ _ ?_⟩
    · have hb : b < h'.objs.size := Heap.lt_size eb
      rw [sortedHeap_old (Nat.ne_of_lt hb) (by rw [size_push']; exact Nat.lt_succ_of_lt hb)]
      exact keep b u eb
    · exact (c.newLst hf r2 (fun p hp => z2 p (r3 p hp))).sub fun p hp => by
        rcases List.mem_cons.mp hp with rfl | hp
        · exact List.mem_cons_self
        · exact List.mem_cons_of_mem _ hp
/-- pairs that were laid are taken in -/
theorem pairs_in {h' : Heap} {tk : Nat} (I0 : Inv X pins σ H s) : ∀ (as : List Addr) (T : List DE) (H1 : Hp) (P1 : List (Val × V)), Inv X pins σ H1 { s with heap := h', toks := tk } → Ctx X.K FV F S H1 P1 → as.Nodup → as.length = T.length → (∀ t ∈ T, t.Ok) → (∀ t ∈ T, ∀ q ∈ t.held, q ∈ P1) →
    (∀ a ∈ as, s.heap.objs.size < a ∧ H1 a = none) → H1 s.heap.objs.size = none → (∀ (j : Nat) (a : Addr) (t : DE), as[j]? = some a → T[j]? = some t → ∃ key, RelV t.kw key ∧ h'.get? a = some { cls := .type "tuple", data := .seq #[key, t.vu] }) →
    ∃ H2 P2, Inv X pins σ H2 { s with heap := h', toks := tk } ∧ Ctx X.K FV F S H2 P2 ∧ (∀ q ∈ P1, q ∈ P2) ∧ (∀ q ∈ ((T.map DE.kv).map fun p => Val.tup [p.1, p.2]).zip (as.map V.ref), q ∈ P2) ∧ H2 s.heap.objs.size = none
  | [], [], H1, P1, I1, c1, _, _, _, _, _, hL, _ => ⟨H1, P1, I1, c1, fun _ h => h, by simp, hL⟩
  | [], _ :: _, H1, P1, I1, c1, _, hl, _, _, _, _, _ => by simp at hl
  | _ :: _, [], H1, P1, I1, c1, _, hl, _, _, _, _, _ => by simp at hl
  | a :: as, t :: T, H1, P1, I1, c1, hn, hl, ho, hh, hb, hL, hp => by
    obtain ⟨b1, b2⟩ := hb a List.mem_cons_self
    obtain ⟨key, k1, k2⟩ := hp 0 a t rfl rfl
    rw [List.nodup_cons] at hn
    have I2 : Inv X pins σ (upd H1 a (.tup [t.kw, t.vw])) { s with heap := h', toks := tk } := I1.take (h' := h') (t' := tk) (fun b ob _ e => e) (I0.fpOk (Nat.le_of_lt b1) b2) ⟨by simp [sizeLine_eq], [key, t.vu], .cons k1 (.cons (ho t List.mem_cons_self).rv .nil), _, k2, rfl, 0, rfl⟩
    have c2 : Ctx X.K FV F S (upd H1 a (.tup [t.kw, t.vw])) ((.tup [t.k, t.v], .ref a) :: P1) := c1.newTup b2 rfl fun q hq => hh t List.mem_cons_self q (by simpa [DE.held] using hq)
    obtain ⟨H2, P2, I3, c3, g1, g2, g3⟩ := pairs_in I0 as T _ _ I2 c2 hn.2 (by simpa using hl) (fun u hu => ho u (List.mem_cons_of_mem _ hu)) (fun u hu q hq => List.mem_cons_of_mem _ (hh u (List.mem_cons_of_mem _ hu) q hq))
      (fun b hb' => by
        obtain ⟨d1, d2⟩ := hb b (List.mem_cons_of_mem _ hb')
        exact ⟨d1, by rw [upd_ne (fun z => hn.1 (by rw [← z]; exact hb'))]; exact d2⟩) (by rw [upd_ne (Nat.ne_of_lt b1)]; exact hL) fun j b u h1 h2 => hp (j + 1) b u (by simpa using h1) (by simpa using h2)
    refine ⟨H2, P2, I3, c3, fun q hq => g1 q (List.mem_cons_of_mem _ hq), fun q hq => ?_, g3⟩
    rw [List.map_cons, List.map_cons, List.map_cons, List.zip_cons_cons] at hq
    rcases List.mem_cons.mp hq with rfl | hq
    · exact g1 _ List.mem_cons_self
    · exact g2 q hq
/-- list(d.items()), keys texts -/
theorem list_itm (I : Inv X pins σ H s) (xo : XOk X FV) (c : Ctx X.K FV F S H P) {r a : Addr} {T : List DE} {Q : VK} (hv : s.heap.IsItemsView r a) (m : DictN X.w s.heap a (T.map DE.ne)) (hz : T.length ≤ sizeLine) (ho : ∀ t ∈ T, t.Ok) (h : ∀ t ∈ T, ∀ q ∈ t.held, q ∈ P) (ht : ∀ t ∈ T, ∃ x, t.nk = .text x)
    (q : ∀ w H', Ctx X.K FV F (S ++ [.lst ((T.map DE.kv).map fun p => Val.tup [p.1, p.2])]) H' ((.ref S.length, w) :: P) → Q w H') : wpAny (model X.prog X.w) X.A (call (.type "list") [.ref r]) (EP X pins σ Q) X.xe s := by
  obtain ⟨o, es, ep, g1, g2, g3, g4, g5, g6⟩ := dictOf_of (prog := X.prog) m ht
  have hT : ∀ t ∈ T, t.kw = .str (tN t.nk) := fun t hx => by
    obtain ⟨x, e⟩ := ht t hx
    have q : NestedIs s.heap t.nk t.ku := (m.is t.ne (List.mem_map.mpr ⟨t, hx, rfl⟩)).1
    have r := (ho t hx).rk
    rw [e] at q
    generalize ek : t.ku = ku at q
    cases q
    rw [ek] at r
    rw [r.inj (y := .str x) ⟨_, rfl⟩, e]
    rfl
  refine PySem.W.kdx_call (knd := PySem.strKind X.prog X.w) (kvs := T.map fun t => (tN t.nk, t.vu)) (ep := ep) (I.ok.hd xo.calm) hv ⟨o, es, g1, g2, g3, g4, g5, g6⟩ (by simpa using hz) fun h' tk acc k as hk hS hl hG hacc => ?_
  have I1 : Inv X pins σ H { s with heap := h', toks := tk } := I.kept hk
  obtain ⟨H2, P2, I2, c2, u1, u2, u3⟩ := pairs_in I as T H P I1 c (List.Pairwise.imp (fun h => Nat.ne_of_lt h) hG.rise) (by simpa using hl) ho h (fun b hb => ⟨hG.above b hb, I.hok.fresh (Nat.le_of_lt (hG.above b hb))⟩) (I.hok.fresh (Nat.le_refl _)) fun j b t e1 e2 => by
    obtain ⟨key, kk, x, e3, e4, e5⟩ := hG.pairs j b e1
    rw [List.getElem?_map, e2] at e3
    cases e3
    refine ⟨key, ?_, e5⟩
    rw [hT t (List.mem_of_getElem? e2)]
    obtain ⟨z, hz⟩ := Value.isStrOf_shape (show Value.isStrOf (tN t.nk) key = true from e4)
    exact ⟨z, hz⟩
  have la : as.length = T.length := by simpa using hl
  have rvA : ∀ as : List Addr, Vals (as.map V.ref) (as.map Value.ref) := fun as => by
    induction as with
    | nil => exact .nil
    | cons a as ih => exact .cons rfl ih
  refine ⟨.ref s.heap.objs.size, upd H2 s.heap.objs.size (.lst (as.map V.ref)), I2.take (h' := h') (t' := tk) (fun b ob _ e => e) (I.fpOk (Nat.le_refl _) u3) ⟨by rw [List.length_map, la]; exact hz, as.map Value.ref, k, rvA as, ?_⟩, rfl, q _ _ ?_⟩
  · rw [← hacc, Array.toArray_toList]; exact hS
  · exact (c2.newLst u3 (by simp [la]) u2).sub fun p hp => by
      rcases List.mem_cons.mp hp with rfl | hp
      · exact List.mem_cons_self
      · exact List.mem_cons_of_mem _ (u1 p hp)
/-- list(v), sorted(v), v a view -/
def rVw (K : PySem.W.Frag) (FV : Glo) (it : Bool) (b : BF) : List V → Hp → VK → Prop := fun ws H Q => ∃ F S P r a v v' S', ws = [.ref r] ∧ H r = some (vwO it r a) ∧ Ctx K FV F S H P ∧ (v, .ref a) ∈ P ∧ vwV it b v S = .ok v' S' ∧ ∀ w H', Ctx K FV F S' H' ((v', w) :: P) → Q w H'
theorem vw_at {r a : Addr} {it : Bool} (I : Inv X pins σ H s) (h : H r = some (vwO it r a)) : if it = true then s.heap.IsItemsView r a else s.heap.IsValuesView r a := (I.hok r _ h).1
theorem cr_vw (xo : XOk X FV) (it : Bool) (b : BF) : CallR X (bfV b) (rVw X.K FV it b) := by
  intro pins s σ H ws us Q I rr ⟨F, S, P, r, a, v, v', S', e, hr, c, hx, h, q⟩
  subst e
  obtain rfl := Vals.ref1 rr
  have vw := vw_at I hr
  unfold vwV at h
  split at h
  case h_2 => cases h
  rename_i kvs hk
  obtain ⟨a', T, e1, rfl, e3, m, h4, h5, h6, c1, hP⟩ := dct_of I xo c hx hk
  cases e1
  split at h
  · split at h
    · rename_i al
      cases h
      refine list_itm I xo c1 vw m h4 h6 hP (fun t ht => ?_) fun w H' c' => q w H' (back2 c')
      refine txt_key (v := t.k) ?_ (h6 t ht).key
      exact List.all_eq_true.mp al t.kv (List.mem_map.mpr ⟨t, ht, rfl⟩)
    · cases h
  · cases h
    exact list_vls I xo c1 vw m h4 h6 hP fun w H' c' => q w H' (back2 c')
  · split at h
    · rename_i ok
      cases h
      exact sorted_vls I xo c1 vw m h4 h6 hP ok fun w H' c' => q w H' (back2 c')
    · cases h
  · cases h
end
end MP
set_option linter.all false
set_option Elab.async false
set_option maxHeartbeats 1000000
namespace MP
open PySem L2 PySem.Spec PyProof.Rows
structure CallOk (X : Cx) (FV : Glo) (φ : Nat → List Val → M Val) : Prop where
  pos : ∀ f a, FV.fv f a → CallR X (.ref a) (rC X.K FV (φ f))
  kw : ∀ st ∈ FV.kt, ∀ a, FV.fv st.f a → ∀ (pins : List (Addr × Obj)) (s : Shared) (σ : L2.St) (H : Hp) (us1 us2 : List Value) (ws : List V) (Q : VK), us1.length = st.n → us2.length = st.ks.length → Inv X pins σ H s →
    Vals ws (st.perm.map fun i => (us1 ++ us2).getD i .none) → rC X.K FV (φ st.f) ws H Q → wpAny (model X.prog X.w) X.A (call (.ref a) us1 (st.ks.zip us2)) (EP X pins σ Q) X.xe s
/-- the static side of a context -/
structure COk (Γ : TC) (X : Cx) (FV : Glo) : Prop where
  N : X.N = Γ.N
  nd : Γ.N.Nodup
  x : XOk X FV
  kinds : ∀ x k, Γ.names.lookup x = some k → X.env.scope.names.lookup x = some k ∨ (k = .free ∧ X.env.scope.names.lookup x = some .cell)
  cells : ∀ x, Γ.names.lookup x = some .cell → X.fn x = true
  gl : ∀ x f, Γ.fns.lookup x = some f → ∃ a, X.mg x = some (.ref a) ∧ PySem.W.keepIn X.K (.ref a) = true ∧ FV.fv f a
  blt : ∀ x, Γ.blts.contains x = true → X.mg x = none
  con : ∀ x v, Γ.cons.lookup x = some v → ∃ u w, X.mg x = some u ∧ RelV w u ∧ ∀ F S H P, Ctx X.K FV F S H P → Ctx X.K FV F S H ((v, w) :: P)
  kt : Γ.kt = FV.kt
theorem COk.calm {Γ : TC} {X : Cx} {FV : Glo} (ok : COk Γ X FV) : X.calm = true := ok.x.calm
theorem starEach_cons {e : Expr} {es : List Expr} {env : PySem.Env} (h : ∀ a p, e ≠ .Starred a p) : starEach (e :: es) env = (false, eval e env) :: starEach es env := by
  cases e <;> first | rfl | exact absurd rfl (h _ _)
theorem not_star {n : Nat} {Γ : TC} {e : Expr} {m : ME} (h : trE n Γ e = some m) : ∀ a p, e ≠ .Starred a p := by
  intro a p q
  subst q
  cases n <;> simp [trE] at h
theorem starEach_plain {f : Expr → Option ME} (hf : ∀ e m, f e = some m → ∀ a p, e ≠ .Starred a p) {env : PySem.Env} : ∀ {es : List Expr} {ms : List ME}, trL f es = some ms → (starEach es env).any (·.1) = false
  | [], _, _ => rfl
  | e :: es, ms, h => by
    unfold trL at h
    split at h
    · rename_i m1 ms1 h1 h2
      rw [starEach_cons (hf e _ h1), List.any_cons, starEach_plain hf h2]
      rfl
    · cases h
theorem backTo_any {pos : Pos} {l : List (Bool × Sem Value)} (h : l.any (·.1) = false) : (backTo pos l).any (·.1) = false := by
  unfold backTo
  rw [List.any_map]
  exact h
section
variable {X : Cx} {FV : Glo} {φ : Nat → List Val → M Val}
theorem pa_of {n : Nat} {Γ : TC} (ih : ∀ e m, trE n Γ e = some m → PE X e (RD X.K FV φ m)) : ∀ {es : List Expr} {ms : List ME}, trL (trE n Γ) es = some ms → PA X es (RA X.K FV φ ms)
  | [], ms, h => by
    unfold trL at h
    cases h
    refine ⟨fun pos pins s σ H Q I ⟨F, ρ, S, P, vs, S', e, c, hm, q⟩ => pa_nil.run pos pins s σ H Q I ?_⟩
    unfold meanL at hm
    obtain ⟨rfl, rfl⟩ := ret_ok hm
    exact q [] H rfl c
  | e :: es, ms, h => by
    unfold trL at h
    split at h
    · rename_i m1 ms1 h1 h2
      cases h
      refine ⟨fun pos pins s σ H Q I ⟨F, ρ, S, P, vs, S', e, c, hm, q⟩ => (pa_cons (ih _ _ h1) (pa_of ih h2) (starEach_cons (not_star h1))).run pos pins s σ H Q I ?_⟩
      unfold meanL at hm
      obtain ⟨v1, S1, hm1, hm⟩ := bnd_ok hm
      obtain ⟨vs1, S2, hm2, hm⟩ := bnd_ok hm
      obtain ⟨rfl, rfl⟩ := ret_ok hm
      refine ⟨F, ρ, S, P, v1, S1, e, c, hm1, fun w H1 c1 => ⟨F, ρ, S1, (v1, w) :: P, vs1, S2, e.cons, c1, hm2, fun ws H2 hl c2 => q (w :: ws) H2 (by simp [hl]) (c2.sub fun p hp => ?_)⟩⟩
      rw [List.zip_cons_cons] at hp
      simp only [List.cons_append, List.mem_cons, List.mem_append] at hp ⊢
      rcases hp with rfl | hp | hp
      · exact .inr (.inl rfl)
      · exact .inl hp
      · exact .inr (.inr hp)
    · cases h
theorem stx_cps (z : Str) : stx z.cps.toList = z := by cases z; simp [stx]
theorem zip_mem {vs : List Val} {ws : List V} {P : List (Val × V)} : ∀ q ∈ vs.zip ws, q ∈ vs.zip ws ++ P := fun q h => List.mem_append_left _ h
theorem find_ix {N : List Str} {x : Str} {i : Nat} (h : N.findIdx? (· == x) = some i) : N[i]? = some x := by
  obtain ⟨hl, hp, _⟩ := List.findIdx?_eq_some_iff_getElem.mp h
  rw [List.getElem?_eq_getElem hl]
  exact congrArg some (eq_of_beq hp)
theorem plain_of {x : Str} (h : plainNm x = true) : (x == ("__debug__" : Str)) = false ∧ (x == ("__classdict__" : Str)) = false ∧ (x == ("__name__" : Str)) = false := by
  unfold plainNm at h
  simp only [Bool.and_eq_true, Bool.not_eq_true'] at h
  exact ⟨h.1.1, h.1.2, h.2⟩
theorem COk.vis {Γ : TC} (ok : COk Γ X FV) {x : Str} {k : NameKind} (h : Γ.names.lookup x = some k) (hk : k = .local ∨ k = .cell ∨ k = .free) : Vis X.env.scope x := by
  rcases ok.kinds x k h with e | ⟨rfl, e⟩
  · rcases hk with rfl | rfl | rfl
    · exact .inl e
    · exact .inr (.inl e)
    · exact .inr (.inr e)
  · exact .inr (.inl e)
theorem COk.glob {Γ : TC} (ok : COk Γ X FV) {x : Str} (h : Γ.names.lookup x = some .globalImplicit) : Gl X x := by
  rcases ok.kinds x _ h with e | ⟨q, _⟩
  · exact e
  · cases q
theorem pe_slot {Γ : TC} (ok : COk Γ X FV) {x : Str} {k : NameKind} {i : Nat} {pos : Pos} (hp : plainNm x = true) (h : Γ.names.lookup x = some k) (hk : k = .local ∨ k = .cell ∨ k = .free) (hi : Γ.N.findIdx? (· == x) = some i) : PE X (.Name x pos) (RD X.K FV φ (.var i)) := by
  refine ⟨fun pins s σ H Q I ⟨F, ρ, S, P, v, S', e, c, hm, q⟩ => ?_⟩
  refine (pe_var (i := i) (by rw [ok.N]; exact find_ix hi) (ok.vis h hk) (plain_of hp).1 (plain_of hp).2.1).run pins s σ H Q I ?_
  unfold meanE at hm
  rcases hv : ρ[i]? with _ | _ | v1
  · rw [hv] at hm; exact (stop_ok hm).elim
  · rw [hv] at hm; exact (stop_ok hm).elim
  · rw [hv] at hm
    obtain ⟨rfl, rfl⟩ := ret_ok hm
    obtain ⟨w, h1, h2⟩ := e.2 i _ hv
    exact ⟨w, h1, q w H (c.sub fun p hp => by rcases List.mem_cons.mp hp with rfl | hp; exact h2; exact hp)⟩
theorem pe_name {Γ : TC} (ok : COk Γ X FV) {x : Str} {m : ME} {pos : Pos} (h : trN Γ x = some m) : PE X (.Name x pos) (RD X.K FV φ m) := by
  unfold trN at h
  split at h
  · rename_i hp
    split at h
    · rename_i hk
      obtain ⟨i, hi, rfl⟩ := Option.map_eq_some_iff.mp h
      exact pe_slot ok hp hk (.inl rfl) hi
    · rename_i hk
      obtain ⟨i, hi, rfl⟩ := Option.map_eq_some_iff.mp h
      exact pe_slot ok hp hk (.inr (.inl rfl)) hi
    · rename_i hk
      obtain ⟨i, hi, rfl⟩ := Option.map_eq_some_iff.mp h
      exact pe_slot ok hp hk (.inr (.inr rfl)) hi
    · rename_i hk
      split at h
      · rename_i v hv
        cases h
        obtain ⟨u, w, h1, h2, h3⟩ := ok.con x v hv
        refine ⟨fun pins s σ H Q I ⟨F, ρ, S, P, v, S', e, c, hm, q⟩ => (pe_glob (ok.glob hk) h1 h2 (plain_of hp).1).run pins s σ H Q I ?_⟩
        unfold meanE at hm
        obtain ⟨rfl, rfl⟩ := ret_ok hm
        exact q w H (h3 _ _ _ _ c)
      · obtain ⟨f, hf, rfl⟩ := Option.map_eq_some_iff.mp h
        obtain ⟨a, h1, h2, h3⟩ := ok.gl x f hf
        refine ⟨fun pins s σ H Q I ⟨F, ρ, S, P, v, S', e, c, hm, q⟩ => (pe_glob (v := .ref a) (ok.glob hk) h1 rfl (plain_of hp).1).run pins s σ H Q I ?_⟩
        unfold meanE at hm
        obtain ⟨rfl, rfl⟩ := ret_ok hm
        exact q _ H (c.addFn h3)
    · cases h
  · cases h
theorem pe_const {k : Const} {v : Val} {j : Nat} {pos : Pos} (h : trK k = some v) : PE X (.Constant k j pos) (RD X.K FV φ (.con v)) := by
  unfold trK at h
  split at h
  all_goals first | (cases h; done) | skip
  all_goals cases h
  · refine ⟨fun pins s σ H Q I ⟨F, ρ, S, P, v, S', e, c, hm, q⟩ => pe_non.run pins s σ H Q I ?_⟩
    unfold meanE at hm; obtain ⟨rfl, rfl⟩ := ret_ok hm
    exact q _ H c.addNon
  · refine ⟨fun pins s σ H Q I ⟨F, ρ, S, P, v, S', e, c, hm, q⟩ => pe_bl.run pins s σ H Q I ?_⟩
    unfold meanE at hm; obtain ⟨rfl, rfl⟩ := ret_ok hm
    exact q _ H (c.addBl _)
  · refine ⟨fun pins s σ H Q I ⟨F, ρ, S, P, v, S', e, c, hm, q⟩ => pe_int.run pins s σ H Q I ?_⟩
    unfold meanE at hm; obtain ⟨rfl, rfl⟩ := ret_ok hm
    exact q _ H (c.addInt _)
  · refine ⟨fun pins s σ H Q I ⟨F, ρ, S, P, v, S', e, c, hm, q⟩ => pe_str.run pins s σ H Q I ?_⟩
    unfold meanE at hm; obtain ⟨rfl, rfl⟩ := ret_ok hm
    have := q _ H (c.addStr _)
    rw [stx_cps] at this
    exact this
theorem nomark_of {n : Nat} {Γ : TC} {e : Expr} {m : ME} {o : CmpOp} (h : trE n Γ e = some m) : behindInMarks o e = false := by
  cases n with
  | zero => simp [trE] at h
  | succ n => cases e <;> first | rfl | simp [trE] at h
/-- the reading of a test that is its value's truth -/
theorem rt_of {e : Expr} {m : ME} (h : PE X e (RD X.K FV φ m)) (he : ∀ whole, isTrue e X.env whole = (do let v ← whole; standAt e.pos; holding [v] (truthy v)) := by intro _; rfl) : PT X e (RT X.K FV φ m) := by
  refine ⟨fun pins s σ H Q I ⟨F, ρ, S, P, b, S', e', c, hm, q⟩ => ?_⟩
  obtain ⟨v, S1, h1, h2⟩ := bnd_ok hm
  refine (pt_truth h he).run pins s σ H Q I ⟨F, ρ, S, P, v, S1, e', c, h1, fun w H1 c1 => ?_⟩
  obtain ⟨rfl, ht⟩ := tru_of c1 List.mem_cons_self h2
  exact ⟨b, ht, q H1 (c1.sub fun p hp => List.mem_cons_of_mem _ hp)⟩
theorem pe_bin (xo : XOk X FV) {a b : Expr} {o : Operator} {x y : ME} {pos : Pos} (ha : PE X a (RD X.K FV φ x)) (hb : PE X b (RD X.K FV φ y)) : PE X (.BinOp a o b pos) (RD X.K FV φ (.bin o x y)) := by
  refine ⟨fun pins s σ H Q I ⟨F, ρ, S, P, v, S', e, c, hm, q⟩ => ?_⟩
  unfold meanE at hm
  obtain ⟨v1, S1, h1, hm⟩ := bnd_ok hm
  obtain ⟨v2, S2, h2, hm⟩ := bnd_ok hm
  refine (pe_op (opi_bin xo o) ha hb).run pins s σ H Q I ⟨F, ρ, S, P, v1, S1, e, c, h1, fun w1 H1 c1 => ⟨F, ρ, S1, _, v2, S2, e.cons, c1, h2, fun w2 H2 c2 => ?_⟩⟩
  exact ⟨F, S2, _, v1, v2, v, S', hm, c2, List.mem_cons_of_mem _ List.mem_cons_self, List.mem_cons_self, fun w H' c' => q w H' (c'.sub fun p hp => by
    rcases List.mem_cons.mp hp with rfl | hp
    · exact List.mem_cons_self
    · exact List.mem_cons_of_mem _ (List.mem_cons_of_mem _ (List.mem_cons_of_mem _ hp)))⟩
theorem sub3 {F : Fm} {S : Sto} {H : Hp} {P : List (Val × V)} {a b c : Val × V} (h : Ctx X.K FV F S H (a :: b :: c :: P)) : Ctx X.K FV F S H (a :: P) := h.sub fun p hp => by
  rcases List.mem_cons.mp hp with rfl | hp
  · exact List.mem_cons_self
  · exact List.mem_cons_of_mem _ (List.mem_cons_of_mem _ (List.mem_cons_of_mem _ hp))
theorem sub2 {F : Fm} {S : Sto} {H : Hp} {P : List (Val × V)} {a b : Val × V} (h : Ctx X.K FV F S H (a :: b :: P)) : Ctx X.K FV F S H (a :: P) := h.sub fun p hp => by
  rcases List.mem_cons.mp hp with rfl | hp
  · exact List.mem_cons_self
  · exact List.mem_cons_of_mem _ (List.mem_cons_of_mem _ hp)
theorem sub1 {F : Fm} {S : Sto} {H : Hp} {P : List (Val × V)} {a : Val × V} (h : Ctx X.K FV F S H (a :: P)) : Ctx X.K FV F S H P := h.sub fun p hp => List.mem_cons_of_mem _ hp
theorem m1 {P : List (Val × V)} {a : Val × V} : a ∈ a :: P := List.mem_cons_self
theorem m2 {P : List (Val × V)} {a b : Val × V} : a ∈ b :: a :: P := List.mem_cons_of_mem _ List.mem_cons_self
theorem m3 {P : List (Val × V)} {a b c : Val × V} : a ∈ b :: c :: a :: P := List.mem_cons_of_mem _ m2
theorem pe_neg {a : Expr} {x : ME} {pos : Pos} (ha : PE X a (RD X.K FV φ x)) : PE X (.UnaryOp .USub a pos) (RD X.K FV φ (.neg x)) := by
  refine ⟨fun pins s σ H Q I ⟨F, ρ, S, P, v, S', e, c, hm, q⟩ => ?_⟩
  unfold meanE at hm
  obtain ⟨v1, S1, h1, hm⟩ := bnd_ok hm
  refine (pe_un un_neg ha).run pins s σ H Q I ⟨F, ρ, S, P, v1, S1, e, c, h1, fun w1 H1 c1 => ?_⟩
  cases v1 with
  | int i =>
    obtain ⟨rfl, rfl⟩ := ret_ok hm
    have e1 := c1.int m1
    subst e1
    exact ⟨i, rfl, q _ _ (sub2 (c1.addInt _))⟩
  | _ => exact (stop_ok hm).elim
theorem pe_notV {a : Expr} {x : ME} {pos : Pos} (ha : PE X a (RD X.K FV φ x)) : PE X (.UnaryOp .Not a pos) (RD X.K FV φ (.not x)) := by
  refine ⟨fun pins s σ H Q I ⟨F, ρ, S, P, v, S', e, c, hm, q⟩ => ?_⟩
  unfold meanE at hm
  obtain ⟨v1, S1, h1, hm⟩ := bnd_ok hm
  obtain ⟨b, S2, h2, hm⟩ := bnd_ok hm
  obtain ⟨rfl, rfl⟩ := ret_ok hm
  refine (pe_notT ha).run pins s σ H Q I ⟨F, ρ, S, P, v1, S1, e, c, h1, fun w1 H1 c1 => ?_⟩
  obtain ⟨rfl, ht⟩ := tru_of c1 m1 h2
  exact ⟨b, ht, q _ _ (sub2 (c1.addBl _))⟩
theorem pe_andV {a b : Expr} {rest : List Expr} {x y : ME} {pos : Pos} (ha : PE X a (RD X.K FV φ x)) (hb : PE X (.BoolOp .And (b :: rest) pos) (RD X.K FV φ y)) : PE X (.BoolOp .And (a :: b :: rest) pos) (RD X.K FV φ (.and x y)) := by
  refine ⟨fun pins s σ H Q I ⟨F, ρ, S, P, v, S', e, c, hm, q⟩ => ?_⟩
  unfold meanE at hm
  obtain ⟨v1, S1, h1, hm⟩ := bnd_ok hm
  obtain ⟨k, S2, h2, hm⟩ := bnd_ok hm
  refine (pe_andT ha hb).run pins s σ H Q I ⟨F, ρ, S, P, v1, S1, e, c, h1, fun w1 H1 c1 => ?_⟩
  obtain ⟨rfl, ht⟩ := tru_of c1 m1 h2
  refine ⟨k, ht, ?_⟩
  cases k with
  | true =>
    rw [if_pos rfl] at hm ⊢
    exact ⟨F, ρ, _, _, v, S', e, sub1 c1, hm, fun w H' c' => q w H' c'⟩
  | false =>
    rw [if_neg Bool.false_ne_true] at hm ⊢
    obtain ⟨rfl, rfl⟩ := ret_ok hm
    exact q _ _ c1
theorem pe_orV {a b : Expr} {rest : List Expr} {x y : ME} {pos : Pos} (ha : PE X a (RD X.K FV φ x)) (hb : PE X (.BoolOp .Or (b :: rest) pos) (RD X.K FV φ y)) : PE X (.BoolOp .Or (a :: b :: rest) pos) (RD X.K FV φ (.or x y)) := by
  refine ⟨fun pins s σ H Q I ⟨F, ρ, S, P, v, S', e, c, hm, q⟩ => ?_⟩
  unfold meanE at hm
  obtain ⟨v1, S1, h1, hm⟩ := bnd_ok hm
  obtain ⟨k, S2, h2, hm⟩ := bnd_ok hm
  refine (pe_orT ha hb).run pins s σ H Q I ⟨F, ρ, S, P, v1, S1, e, c, h1, fun w1 H1 c1 => ?_⟩
  obtain ⟨rfl, ht⟩ := tru_of c1 m1 h2
  refine ⟨k, ht, ?_⟩
  cases k with
  | false =>
    rw [if_neg Bool.false_ne_true] at hm ⊢
    exact ⟨F, ρ, _, _, v, S', e, sub1 c1, hm, fun w H' c' => q w H' c'⟩
  | true =>
    rw [if_pos rfl] at hm ⊢
    obtain ⟨rfl, rfl⟩ := ret_ok hm
    exact q _ _ c1
theorem pe_ite {a b d : Expr} {x y z : ME} {pos : Pos} (hd : PT X d (RT X.K FV φ z)) (ha : PE X a (RD X.K FV φ x)) (hb : PE X b (RD X.K FV φ y)) : PE X (.IfExp d a b pos) (RD X.K FV φ (.ite z x y)) := by
  refine ⟨fun pins s σ H Q I ⟨F, ρ, S, P, v, S', e, c, hm, q⟩ => ?_⟩
  unfold meanE at hm
  obtain ⟨v1, S1, h1, hm⟩ := bnd_ok hm
  obtain ⟨k, S2, h2, hm⟩ := bnd_ok hm
  refine (pe_ifExp hd ha hb).run pins s σ H Q I ⟨F, ρ, S, P, k, S2, e, c, by unfold bnd; rw [h1]; exact h2, fun H1 c1 => ?_⟩
  cases k with
  | true =>
    rw [if_pos rfl] at hm ⊢
    exact ⟨F, ρ, _, _, v, S', e, c1, hm, q⟩
  | false =>
    rw [if_neg Bool.false_ne_true] at hm ⊢
    exact ⟨F, ρ, _, _, v, S', e, c1, hm, q⟩
/-- two values held, for an operation's reading -/
theorem rO_of {f : Val → Val → M Val} {S2 S' : Sto} {v1 v2 v : Val} {w1 w2 : V} {F : Fm} {P : List (Val × V)} {H : Hp} {Q : VK} (c2 : Ctx X.K FV F S2 H ((v2, w2) :: (v1, w1) :: P)) (hm : f v1 v2 S2 = .ok v S')
    (q : ∀ w H', Ctx X.K FV F S' H' ((v, w) :: P) → Q w H') : rO X.K FV f w1 w2 H Q :=
  ⟨F, S2, _, v1, v2, v, S', hm, c2, m2, m1, fun w H' c' => q w H' (sub3 c')⟩
theorem pe_cmpV (xo : XOk X FV) {a b : Expr} {o : CmpOp} {x y : ME} {pos : Pos} (ha : PE X a (RD X.K FV φ x)) (hb : PE X b (RD X.K FV φ y)) (hn : behindInMarks o b = false) : PE X (.Compare a [o] [b] pos) (RD X.K FV φ (.cmp o x y)) := by
  refine ⟨fun pins s σ H Q I ⟨F, ρ, S, P, v, S', e, c, hm, q⟩ => ?_⟩
  unfold meanE at hm
  obtain ⟨v1, S1, h1, hm⟩ := bnd_ok hm
  obtain ⟨v2, S2, h2, hm⟩ := bnd_ok hm
  exact (pe_cmpR (opi_cmp xo o) ha hb hn).run pins s σ H Q I ⟨F, ρ, S, P, v1, S1, e, c, h1, fun w1 H1 c1 => ⟨F, ρ, S1, _, v2, S2, e.cons, c1, h2, fun w2 H2 c2 => rO_of c2 hm q⟩⟩
theorem cmp_bl {o : CmpOp} {x y z : Val} {S S' : Sto} (h : cmpV o x y S = .ok z S') : ∃ b, z = .bl b := by
  cases o <;> simp only [cmpV] at h <;> first
    | (obtain ⟨b, _, rfl, _⟩ := bl1_ok h; exact ⟨b, rfl⟩)
    | (split at h <;> first
        | exact (stop_ok h).elim
        | (obtain ⟨rfl, _⟩ := ret_ok h; exact ⟨_, rfl⟩))
theorem pt_cmpV (xo : XOk X FV) {a b : Expr} {o : CmpOp} {x y : ME} {pos : Pos} (ha : PE X a (RD X.K FV φ x)) (hb : PE X b (RD X.K FV φ y)) (hn : behindInMarks o b = false) : PT X (.Compare a [o] [b] pos) (RT X.K FV φ (.cmp o x y)) := by
  refine ⟨fun pins s σ H Q I ⟨F, ρ, S, P, k, S', e, c, hm, q⟩ => ?_⟩
  obtain ⟨v, S3, hm, ht⟩ := bnd_ok hm
  unfold meanE at hm
  obtain ⟨v1, S1, h1, hm⟩ := bnd_ok hm
  obtain ⟨v2, S2, h2, hm⟩ := bnd_ok hm
  refine (pt_cmpR (opi_cmp xo o) ha hb hn).run pins s σ H Q I ⟨F, ρ, S, P, v1, S1, e, c, h1, fun w1 H1 c1 => ⟨F, ρ, S1, _, v2, S2, e.cons, c1, h2, fun w2 H2 c2 => rO_of c2 hm fun w H' c' => ?_⟩⟩
  obtain ⟨bb, rfl⟩ := cmp_bl hm
  have e1 := c'.bl m1
  subst e1
  unfold truV at ht
  cases ht
  exact ⟨_, rfl, q _ (sub1 c')⟩
theorem marks3 {b d : Expr} {o o' : CmpOp} (hn : behindInMarks o' d = false) : lastMarks [o, o'] [b, d] = false := by
  show lastMarks [o'] [d] = false
  exact hn
theorem chn_core {o o' : CmpOp} {S S' : Sto} {ρ : Env} {v : Val} {x y z : ME} (hm : meanE φ (.chn o o' x y z) ρ S = .ok v S') : ∃ v1 S1 v2 S2 b S3, meanE φ x ρ S = .ok v1 S1 ∧ meanE φ y ρ S1 = .ok v2 S2 ∧ cmpV o v1 v2 S2 = .ok (.bl b) S3 ∧
    ((b = true ∧ ∃ v3 S4, meanE φ z ρ S3 = .ok v3 S4 ∧ cmpV o' v2 v3 S4 = .ok v S') ∨ (b = false ∧ v = .bl false ∧ S3 = S')) := by
  unfold meanE at hm
  obtain ⟨v1, S1, h1, hm⟩ := bnd_ok hm
  obtain ⟨v2, S2, h2, hm⟩ := bnd_ok hm
  obtain ⟨v4, S3, h3, hm⟩ := bnd_ok hm
  obtain ⟨b, rfl⟩ := cmp_bl h3
  refine ⟨v1, S1, v2, S2, b, S3, h1, h2, h3, ?_⟩
  cases b with
  | true =>
    obtain ⟨v3, S4, h4, hm⟩ := bnd_ok hm
    exact .inl ⟨rfl, v3, S4, h4, hm⟩
  | false =>
    obtain ⟨rfl, rfl⟩ := ret_ok hm
    exact .inr ⟨rfl, rfl, rfl⟩
theorem tchain_of {a b d : Expr} {o o' : CmpOp} {x y z : ME} {σ : L2.St} {H : Hp} {Q : VK} (h : RD X.K FV φ (.chn o o' x y z) σ H Q) :
    tChain (rO X.K FV (cmpV o)) (rO X.K FV (cmpV o')) (RD X.K FV φ x) (RD X.K FV φ y) (RD X.K FV φ z) σ H Q := by
  obtain ⟨F, ρ, S, P, v, S', e, c, hm, q⟩ := h
  obtain ⟨v1, S1, v2, S2, k, S3, h1, h2, h3, h4⟩ := chn_core hm
  refine ⟨F, ρ, S, P, v1, S1, e, c, h1, fun w1 H1 c1 => ⟨F, ρ, S1, _, v2, S2, e.cons, c1, h2, fun w2 H2 c2 => ?_⟩⟩
  refine ⟨F, S2, _, v1, v2, .bl k, S3, h3, c2, m2, m1, fun w H3 c3 => ?_⟩
  have e1 := c3.bl m1
  subst e1
  refine ⟨k, rfl, ?_⟩
  rcases h4 with ⟨rfl, v3, S4, h5, h6⟩ | ⟨rfl, rfl, rfl⟩
  · rw [if_pos rfl]
    refine ⟨F, ρ, S3, _, v3, S4, e.cons.cons.cons, c3, h5, fun w3 H4 c4 => ?_⟩
    exact ⟨F, S4, _, v2, v3, v, S', h6, c4, m3, m1, fun w H' c' => q w H' (sub3 (sub3 c'))⟩
  · rw [if_neg Bool.false_ne_true]
    exact q _ _ (sub3 c3)
theorem pe_chn (xo : XOk X FV) {a b d : Expr} {o o' : CmpOp} {x y z : ME} {pos : Pos} (ha : PE X a (RD X.K FV φ x)) (hb : PE X b (RD X.K FV φ y)) (hd : PE X d (RD X.K FV φ z)) (hn : behindInMarks o' d = false) : PE X (.Compare a [o, o'] [b, d] pos) (RD X.K FV φ (.chn o o' x y z)) :=
  ⟨fun pins s σ H Q I h => (pe_chain (opi_cmp xo o) (opi_cmp xo o') ha hb hd (marks3 hn)).run pins s σ H Q I (tchain_of (a := a) (b := b) (d := d) h)⟩
theorem pt_chn (xo : XOk X FV) {a b d : Expr} {o o' : CmpOp} {x y z : ME} {pos : Pos} (ha : PE X a (RD X.K FV φ x)) (hb : PE X b (RD X.K FV φ y)) (hd : PE X d (RD X.K FV φ z)) (hn : behindInMarks o' d = false) : PT X (.Compare a [o, o'] [b, d] pos) (RT X.K FV φ (.chn o o' x y z)) := by
  refine ⟨fun pins s σ H Q I ⟨F, ρ, S, P, k, S', e, c, hm, q⟩ => (pt_chain (opi_cmp xo o) (opi_cmp xo o') ha hb hd (marks3 hn)).run pins s σ H Q I ?_⟩
  obtain ⟨v, S3, hm, ht⟩ := bnd_ok hm
  refine tchain_of (a := a) (b := b) (d := d) ⟨F, ρ, S, P, v, S3, e, c, hm, fun w H' c' => ?_⟩
  obtain ⟨v1, S1, v2, S2, kk, S3', h1, h2, h3, h4⟩ := chn_core hm
  have hb : ∃ b, v = .bl b := by
    rcases h4 with ⟨_, v3, S4, h5, h6⟩ | ⟨_, h, _⟩
    · exact cmp_bl h6
    · exact ⟨_, h⟩
  obtain ⟨bb, rfl⟩ := hb
  have e1 := c'.bl m1
  subst e1
  unfold truV at ht
  cases ht
  exact ⟨_, rfl, q _ (sub1 c')⟩
theorem pe_tupV {es : List Expr} {ms : List ME} {j : Nat} {pos : Pos} (h : PA X es (RA X.K FV φ ms)) : PE X (.Tuple es j pos) (RD X.K FV φ (.tup ms)) := by
  refine ⟨fun pins s σ H Q I ⟨F, ρ, S, P, v, S', e, c, hm, q⟩ => ?_⟩
  unfold meanE at hm
  obtain ⟨vs, S1, h1, hm⟩ := bnd_ok hm
  split at hm
  · rename_i hl
    cases hm
    refine (pe_tup h).run pins s σ H Q I ⟨F, ρ, S, P, vs, _, e, c, h1, fun ws H1 hw c1 => ⟨by rw [← hw]; exact hl, fun p hp => ?_⟩⟩
    exact q _ _ ((c1.newTup hp hw zip_mem).sub fun p hp => by
      rcases List.mem_cons.mp hp with rfl | hp
      · exact m1
      · exact List.mem_cons_of_mem _ (List.mem_append_right _ hp))
  · cases hm
theorem pe_lstV {es : List Expr} {ms : List ME} {pos : Pos} (h : PA X es (RA X.K FV φ ms)) : PE X (.List es pos) (RD X.K FV φ (.lst ms)) := by
  refine ⟨fun pins s σ H Q I ⟨F, ρ, S, P, v, S', e, c, hm, q⟩ => ?_⟩
  unfold meanE at hm
  obtain ⟨vs, S1, h1, hm⟩ := bnd_ok hm
  split at hm
  · rename_i hl
    unfold newOb at hm
    cases hm
    refine (pe_lst h).run pins s σ H Q I ⟨F, ρ, S, P, vs, S1, e, c, h1, fun ws H1 hw c1 => ⟨by rw [← hw]; exact hl, fun p hp => ?_⟩⟩
    exact q _ _ ((c1.newLst hp hw zip_mem).sub fun p hp => by
      rcases List.mem_cons.mp hp with rfl | hp
      · exact m1
      · exact List.mem_cons_of_mem _ (List.mem_append_right _ hp))
  · cases hm
/-- f(..), f a def of the module -/
theorem pe_cal {Γ : TC} (ok : COk Γ X FV) (co : CallOk X FV φ) {n : Nat} {x : Str} {es : List Expr} {ms : List ME} {f : Nat} {p pos : Pos} (hp : plainNm x = true) (hk : Γ.names.lookup x = some .globalImplicit) (hf : Γ.fns.lookup x = some f)
    (ht : trL (trE n Γ) es = some ms) (h : PA X es (RA X.K FV φ ms)) : PE X (.Call (.Name x p) es [] pos) (RD X.K FV φ (.cal f ms)) := by
  refine ⟨fun pins s σ H Q I ⟨F, ρ, S, P, v, S', e, c, hm, q⟩ => ?_⟩
  unfold meanE at hm
  obtain ⟨vs, S1, h1, hm⟩ := bnd_ok hm
  obtain ⟨a, g1, g2, g3⟩ := ok.gl x f hf
  refine wpAny_Call_Name_kw (ld_glob I (ok.glob hk) g1 ?_ (plain_of hp).1)
  have fin : ∀ us s1 ws H1, Inv X pins σ H1 s1 → Vals ws us → vs.length = ws.length → Ctx X.K FV F S1 H1 (vs.zip ws ++ P) → wpAny (model X.prog X.w) X.A (call (.ref a) us) (EP X pins σ Q) X.xe s1 := fun us s1 ws H1 I1 r hl c1 =>
    co.pos f a g3 pins s1 σ H1 ws us Q I1 r ⟨F, S1, _, vs, v, S', hm, hl, c1, zip_mem, fun w H' c' => q w H' (c'.sub fun p hp => by
      rcases List.mem_cons.mp hp with rfl | hp
      · exact m1
      · exact List.mem_cons_of_mem _ (List.mem_append_right _ hp))⟩
  cases es with
  | nil =>
    unfold trL at ht
    cases ht
    unfold meanL at h1
    obtain ⟨rfl, rfl⟩ := ret_ok h1
    exact PySem.W.callWith_K0 I.kIn g2 (fin [] s [] H I .nil rfl c)
  | cons e0 es =>
    have hns : starEach (e0 :: es) X.env = (false, eval e0 X.env) :: starEach es X.env ∧ (starEach es X.env).any (·.1) = false := by
      unfold trL at ht
      split at ht
      · rename_i q1 q2
        exact ⟨starEach_cons (not_star q1), starEach_plain (fun _ _ => not_star) q2⟩
      · cases ht
    refine PySem.W.callWith_K (h₀ := X.base) I.ok.mod.kin g2 (thn (h.run pos pins s σ H (fun ws H1 => vs.length = ws.length ∧ Ctx X.K FV F S1 H1 (vs.zip ws ++ P)) I ⟨F, ρ, S, P, vs, S1, e, c, h1, fun ws H1 hl c1 => ⟨hl, c1⟩⟩) fun us s1 ⟨ws, H1, I1, r, hl, c1⟩ => ⟨I1.kIn, fin us s1 ws H1 I1 r hl c1⟩) hns.1 (backTo_any hns.2)
theorem meanL_app {ms ms2 : List ME} {ρ : Env} {S S' : Sto} {vs : List Val} (h : meanL φ (ms ++ ms2) ρ S = .ok vs S') : ∃ v1 v2 S1, meanL φ ms ρ S = .ok v1 S1 ∧ meanL φ ms2 ρ S1 = .ok v2 S' ∧ vs = v1 ++ v2 := by
  induction ms generalizing S vs with
  | nil => exact ⟨[], vs, S, by unfold meanL; rfl, h, rfl⟩
  | cons m ms ih =>
    rw [List.cons_append] at h
    unfold meanL at h
    obtain ⟨v, S1, h1, h⟩ := bnd_ok h
    obtain ⟨vs', S2, h2, h⟩ := bnd_ok h
    obtain ⟨rfl, rfl⟩ := ret_ok h
    obtain ⟨v1, v2, S3, g1, g2, rfl⟩ := ih h2
    exact ⟨v :: v1, v2, S3, by unfold meanL; unfold bnd; rw [h1]; show Res.bind (meanL φ ms ρ S1) _ = _; rw [g1]; rfl, g2, rfl⟩
theorem pk_of {n : Nat} {Γ : TC} (ih : ∀ e m, trE n Γ e = some m → PE X e (RD X.K FV φ m)) : ∀ {kws : List Keyword} {ms : List ME}, trL (trE n Γ) (kws.map (·.value)) = some ms → PK X kws (RA X.K FV φ ms)
  | [], ms, h => by
    unfold List.map trL at h
    cases h
    refine ⟨fun pos pins s σ H Q I ⟨F, ρ, S, P, vs, S', e, c, hm, q⟩ => pk_nil.run pos pins s σ H Q I ?_⟩
    unfold meanL at hm
    obtain ⟨rfl, rfl⟩ := ret_ok hm
    exact q [] H rfl c
  | ⟨nm, e, kp⟩ :: kws, ms, h => by
    rw [List.map_cons] at h
    unfold trL at h
    split at h
    · rename_i m1 ms1 h1 h2
      cases h
      refine ⟨fun pos pins s σ H Q I ⟨F, ρ, S, P, vs, S', e, c, hm, q⟩ => (pk_cons (ih _ _ h1) (pk_of ih h2)).run pos pins s σ H Q I ?_⟩
      unfold meanL at hm
      obtain ⟨v1, S1, hm1, hm⟩ := bnd_ok hm
      obtain ⟨vs1, S2, hm2, hm⟩ := bnd_ok hm
      obtain ⟨rfl, rfl⟩ := ret_ok hm
      refine ⟨F, ρ, S, P, v1, S1, e, c, hm1, fun w H1 c1 => ⟨F, ρ, S1, (v1, w) :: P, vs1, S2, e.cons, c1, hm2, fun ws H2 hl c2 => q (w :: ws) H2 (by simp [hl]) (c2.sub fun p hp => ?_)⟩⟩
      rw [List.zip_cons_cons] at hp
      simp only [List.cons_append, List.mem_cons, List.mem_append] at hp ⊢
      rcases hp with rfl | hp | hp
      · exact .inr (.inl rfl)
      · exact .inl hp
      · exact .inr (.inr hp)
    · cases h
theorem kw_names {pos : Pos} {env : PySem.Env} : ∀ {kws : List Keyword} {ks : List Str}, kwNames kws = some ks → (backToKw pos (keywordEach kws env)).all (·.1.isSome) = true ∧ (backToKw pos (keywordEach kws env)).filterMap (·.1) = ks ∧ (backToKw pos (keywordEach kws env)).any (·.1.isNone) = false
  | [], ks, h => by
    unfold kwNames at h
    cases h
    exact ⟨rfl, rfl, rfl⟩
  | ⟨nm, e, kp⟩ :: kws, ks, h => by
    unfold kwNames at h
    split at h
    · rename_i n ns h1 h2
      cases h
      simp only at h1
      subst h1
      obtain ⟨a1, a2, a3⟩ := kw_names (pos := pos) (env := env) h2
      have ek : backToKw pos (keywordEach (⟨some n, e, kp⟩ :: kws) env) = (some n, do let v ← eval e env; standAt pos; pure v) :: backToKw pos (keywordEach kws env) := by rw [keywordEach]; rfl
      rw [ek]
      refine ⟨?_, ?_, ?_⟩
      · rw [List.all_cons, a1]; rfl
      · rw [List.filterMap_cons]; simp only; rw [a2]
      · rw [List.any_cons, a3]; rfl
    · cases h
theorem vals_getD {ws : List V} {us : List Value} (r : Vals ws us) (i : Nat) : RelV (ws.getD i .non) (us.getD i .none) := by
  rw [List.getD_eq_getElem?_getD, List.getD_eq_getElem?_getD]
  cases h : ws[i]? with
  | some w =>
    obtain ⟨u, e, q⟩ := r.get h
    rw [e]; exact q
  | none =>
    have : us[i]? = none := by
      rw [List.getElem?_eq_none_iff] at h ⊢
      rw [← r.length]; exact h
    rw [this]; exact rfl
theorem vals_perm {ws : List V} {us : List Value} (r : Vals ws us) : ∀ ps : List Nat, Vals (ps.map fun i => ws.getD i .non) (ps.map fun i => us.getD i .none)
  | [] => .nil
  | i :: ps => .cons (vals_getD r i) (vals_perm r ps)
theorem vals_app {ws ws2 : List V} {us us2 : List Value} (r : Vals ws us) (r2 : Vals ws2 us2) : Vals (ws ++ ws2) (us ++ us2) := by
  induction r with
  | nil => exact r2
  | cons h _ ih => exact .cons h ih
theorem zip_perm {vs : List Val} {ws : List V} {P : List (Val × V)} (hl : vs.length = ws.length) (h : ∀ q ∈ vs.zip ws, q ∈ P) (hn : (Val.non, V.non) ∈ P) : ∀ ps : List Nat, ∀ q ∈ (ps.map fun i => vs.getD i .non).zip (ps.map fun i => ws.getD i .non), q ∈ P
  | [], q, hq => by cases hq
  | i :: ps, q, hq => by
    simp only [List.map_cons, List.zip_cons_cons] at hq
    rcases List.mem_cons.mp hq with rfl | hq
    · rw [List.getD_eq_getElem?_getD, List.getD_eq_getElem?_getD]
      by_cases hi : i < vs.length
      · have hi2 : i < ws.length := by omega
        rw [List.getElem?_eq_getElem hi, List.getElem?_eq_getElem hi2]
        exact h _ (List.mem_iff_getElem?.mpr ⟨i, List.getElem?_zip_eq_some.mpr ⟨List.getElem?_eq_getElem hi, List.getElem?_eq_getElem hi2⟩⟩)
      · rw [List.getElem?_eq_none (by omega), List.getElem?_eq_none (by omega)]
        exact hn
    · exact zip_perm hl h hn ps q hq
/-- f(.., k = ..) -/
theorem pe_calk {Γ : TC} (ok : COk Γ X FV) (co : CallOk X FV φ) {n : Nat} (ih : ∀ e m, trE n Γ e = some m → PE X e (RD X.K FV φ m)) {x : Str} {es : List Expr} {kws : List Keyword} {ms ms2 : List ME} {ks : List Str} {f : Nat} {st : Site} {p pos : Pos} (hp : plainNm x = true) (hk : Γ.names.lookup x = some .globalImplicit) (hf : Γ.fns.lookup x = some f)
    (ht : trL (trE n Γ) es = some ms) (ht2 : trL (trE n Γ) (kws.map (·.value)) = some ms2) (hks : kwNames kws = some ks) (hst : (Γ.kt.find? fun st => st.f == f && st.n == es.length && st.ks == ks) = some st) :
    PE X (.Call (.Name x p) es kws pos) (RD X.K FV φ (.calk f (ms ++ ms2) st.perm)) := by
  refine ⟨fun pins s σ H Q I ⟨F, ρ, S, P, v, S', e, c, hm, q⟩ => ?_⟩
  unfold meanE at hm
  obtain ⟨vs, S2, h0, hm⟩ := bnd_ok hm
  obtain ⟨v1, v2, S1, h1, h2, rfl⟩ := meanL_app h0
  obtain ⟨a, g1, g2, g3⟩ := ok.gl x f hf
  have hmem : st ∈ FV.kt := by rw [← ok.kt]; exact List.mem_of_find?_eq_some hst
  have hprop := List.find?_some hst
  simp only [Bool.and_eq_true, beq_iff_eq] at hprop
  obtain ⟨⟨rfl, hn⟩, rfl⟩ := hprop
  have hlen : ∀ {es : List Expr} {ms : List ME}, trL (trE n Γ) es = some ms → ms.length = es.length := fun {es} => by
    induction es with
    | nil => intro ms h; unfold trL at h; cases h; rfl
    | cons e es ih2 =>
      intro ms h
      unfold trL at h
      split at h
      · rename_i q1 q2; cases h; simp [ih2 q2]
      · cases h
  have lenL : ∀ {ms : List ME} {S S' : Sto} {vs : List Val}, meanL φ ms ρ S = .ok vs S' → vs.length = ms.length := fun {ms} => by
    induction ms with
    | nil => intro S S' vs h; unfold meanL at h; obtain ⟨rfl, rfl⟩ := ret_ok h; rfl
    | cons m ms ih2 =>
      intro S S' vs h
      unfold meanL at h
      obtain ⟨v, S1, _, h⟩ := bnd_ok h
      obtain ⟨vs', S2, k2, h⟩ := bnd_ok h
      obtain ⟨rfl, rfl⟩ := ret_ok h
      simp [ih2 k2]
  have lenK : ∀ {kws : List Keyword} {ks : List Str}, kwNames kws = some ks → ks.length = kws.length := fun {kws} => by
    induction kws with
    | nil => intro ks h; unfold kwNames at h; cases h; rfl
    | cons k kws ih2 =>
      intro ks h
      unfold kwNames at h
      split at h
      · rename_i q1 q2; cases h; simp [ih2 q2]
      · cases h
  obtain ⟨kn1, kn2, kn3⟩ := kw_names (pos := pos) (env := X.env) hks
  refine wpAny_Call_Name_kw (ld_glob I (ok.glob hk) g1 ?_ (plain_of hp).1)
  have fin : ∀ us1 us2 s2 ws1 ws2 H2, Inv X pins σ H2 s2 → Vals ws1 us1 → Vals ws2 us2 → v1.length = ws1.length → v2.length = ws2.length → Ctx X.K FV F S2 H2 (v2.zip ws2 ++ (v1.zip ws1 ++ P)) → wpAny (model X.prog X.w) X.A (call (.ref a) us1 (st.ks.zip us2)) (EP X pins σ Q) X.xe s2 := fun us1 us2 s2 ws1 ws2 H2 I2 r1 r2 l1 l2 c2 => by
    have rr := vals_perm (vals_app r1 r2) st.perm
    refine co.kw st hmem a g3 pins s2 σ H2 us1 us2 _ Q (by rw [← r1.length, ← l1, lenL h1, hlen ht, hn]) (by rw [← r2.length, ← l2, lenL h2, hlen ht2, List.length_map, lenK hks]) I2 rr ⟨F, S2, _, _, v, S', hm, by simp, c2.addNon, zip_perm (by simp [l1, l2]) (fun q hq => ?_) List.mem_cons_self st.perm, fun w H' c' => q w H' (c'.sub fun p hp => ?_)⟩
    · rw [List.zip_append l1] at hq
      refine List.mem_cons_of_mem _ ?_
      rcases List.mem_append.mp hq with hq | hq
      · exact List.mem_append_right _ (List.mem_append_left _ hq)
      · exact List.mem_append_left _ hq
    · rcases List.mem_cons.mp hp with rfl | hp
      · exact m1
      · exact List.mem_cons_of_mem _ (List.mem_cons_of_mem _ (List.mem_append_right _ (List.mem_append_right _ hp)))
  have PKr := pk_of ih ht2
  have hkw : ∀ us1 s1 ws1 H1, Inv X pins σ H1 s1 → Vals ws1 us1 → v1.length = ws1.length → Ctx X.K FV F S1 H1 (v1.zip ws1 ++ P) →
      wpAny (model X.prog X.w) X.A (evalAll ((backToKw pos (keywordEach kws X.env)).map (·.2))) (fun ks s₂ => X.K.In s₂.heap ∧ wpAny (model X.prog X.w) X.A (call (.ref a) us1 (((backToKw pos (keywordEach kws X.env)).filterMap (·.1)).zip ks)) (EP X pins σ Q) X.xe s₂) X.xe s1 := fun us1 s1 ws1 H1 I1 r1 l1 c1 => by
    refine thn (PKr.run pos pins s1 σ H1 (fun ws2 H2 => v2.length = ws2.length ∧ Ctx X.K FV F S2 H2 (v2.zip ws2 ++ (v1.zip ws1 ++ P))) I1 ⟨F, ρ, S1, _, v2, S2, e.app, c1, h2, fun ws H2 hl c2 => ⟨hl, c2⟩⟩) fun us2 s2 ⟨ws2, H2, I2, r2, l2, c2⟩ => ⟨I2.kIn, ?_⟩
    rw [kn2]
    exact fin us1 us2 s2 ws1 ws2 H2 I2 r1 r2 l1 l2 c2
  cases es with
  | nil =>
    unfold trL at ht
    cases ht
    unfold meanL at h1
    obtain ⟨rfl, rfl⟩ := ret_ok h1
    refine PySem.W.callWith_KW0 (h₀ := X.base) I.ok.mod.kin g2 kn1 ?_ (by rw [kn3]; rfl)
    exact hkw [] s [] H I .nil rfl c
  | cons e0 es =>
    obtain ⟨s1', s2'⟩ : starEach (e0 :: es) X.env = (false, eval e0 X.env) :: starEach es X.env ∧ (starEach es X.env).any (·.1) = false := by
      unfold trL at ht
      split at ht
      · rename_i q1 q2
        exact ⟨starEach_cons (not_star q1), starEach_plain (fun _ _ => not_star) q2⟩
      · cases ht
    refine PySem.W.callWith_KW (h₀ := X.base) I.ok.mod.kin g2 kn1 (thn ((pa_of ih ht).run pos pins s σ H (fun ws H1 => v1.length = ws.length ∧ Ctx X.K FV F S1 H1 (v1.zip ws ++ P)) I ⟨F, ρ, S, P, v1, S1, e, c, h1, fun ws H1 hl c1 => ⟨hl, c1⟩⟩) fun us1 s1 ⟨ws1, H1, I1, r1, l1, c1⟩ => ?_) ?_ s1'
    · exact hkw us1 s1 ws1 H1 I1 r1 l1 c1
    · rw [kn3, Bool.or_false]
      refine backTo_any ?_
      rw [s1', List.any_cons, s2']; rfl
theorem ixr (xo : XOk X FV) : IxR X (rO X.K FV idxV) := fun value slice pins s σ H wx wy v u Q I rx ry ⟨F, S, P, x, y, z, S', h, c, hx, hy, q⟩ hs => item_run xo I c hx hy rx ry h q value slice hs
theorem plainIx_of {b : Expr} (h : plainIxB b = true) : PlainIx b := fun o i => by
  cases b <;> first | rfl | (simp [plainIxB] at h)
theorem pe_ixV (xo : XOk X FV) {a b : Expr} {x y : ME} {pos : Pos} (ha : PE X a (RD X.K FV φ x)) (hb : PE X b (RD X.K FV φ y)) (hp : plainIxB b = true) : PE X (.Subscript a b pos) (RD X.K FV φ (.ix x y)) := by
  refine ⟨fun pins s σ H Q I ⟨F, ρ, S, P, v, S', e, c, hm, q⟩ => ?_⟩
  unfold meanE at hm
  obtain ⟨v1, S1, h1, hm⟩ := bnd_ok hm
  obtain ⟨v2, S2, h2, hm⟩ := bnd_ok hm
  exact (pe_ix (ixr xo) ha hb (plainIx_of hp)).run pins s σ H Q I ⟨F, ρ, S, P, v1, S1, e, c, h1, fun w1 H1 c1 => ⟨F, ρ, S1, _, v2, S2, e.cons, c1, h2, fun w2 H2 c2 => rO_of c2 hm q⟩⟩
/-- a part of a slice -/
def tPO (K : PySem.W.Frag) (FV : Glo) (φ : Nat → List Val → M Val) (ms : List ME) : TO := fun σ H Q => ∃ F ρ S P vs S' o, EnvOk ρ σ P ∧ Ctx K FV F S H P ∧ meanL φ ms ρ S = .ok vs S' ∧ partOf vs = some o ∧ ∀ H', Ctx K FV F S' H' P → Q o H'
theorem po_of {n : Nat} {Γ : TC} (ih : ∀ e m, trE n Γ e = some m → PE X e (RD X.K FV φ m)) {o : Option Expr} {ms : List ME} (h : trO (trE n Γ) o = some ms) : PO X o (tPO X.K FV φ ms) := by
  cases o with
  | none =>
    cases h
    refine ⟨fun pins s σ H Q I ⟨F, ρ, S, P, vs, S', o, e, c, hm, hp, q⟩ => po_none.run pins s σ H Q I ?_⟩
    unfold meanL at hm
    obtain ⟨rfl, rfl⟩ := ret_ok hm
    cases hp
    exact q H c
  | some ex =>
    obtain ⟨m, hm, rfl⟩ := Option.map_eq_some_iff.mp h
    refine ⟨fun pins s σ H Q I ⟨F, ρ, S, P, vs, S', o, e, c, hm', hp, q⟩ => (po_some (ih _ _ hm)).run pins s σ H Q I ?_⟩
    unfold meanL at hm'
    obtain ⟨v, S1, h1, hm'⟩ := bnd_ok hm'
    obtain ⟨vs', S2, h2, hm'⟩ := bnd_ok hm'
    unfold meanL at h2
    obtain ⟨rfl, rfl⟩ := ret_ok h2
    obtain ⟨rfl, rfl⟩ := ret_ok hm'
    refine ⟨F, ρ, S, P, v, _, e, c, h1, fun w H1 c1 => ?_⟩
    cases v with
    | int i => cases hp; exact ⟨i, c1.int m1, q _ (sub1 c1)⟩
    | _ => cases hp
theorem pe_slV {n : Nat} {Γ : TC} (ih : ∀ e m, trE n Γ e = some m → PE X e (RD X.K FV φ m)) {a : Expr} {lo hi : Option Expr} {x : ME} {l h : List ME} {p2 pos : Pos} (ha : PE X a (RD X.K FV φ x)) (hl : trO (trE n Γ) lo = some l) (hh : trO (trE n Γ) hi = some h) :
    PE X (.Subscript a (.Slice lo hi none p2) pos) (RD X.K FV φ (.sl x l h)) := by
  refine ⟨fun pins s σ H Q I ⟨F, ρ, S, P, v, S', e, c, hm, q⟩ => ?_⟩
  unfold meanE at hm
  obtain ⟨v1, S1, h1, hm⟩ := bnd_ok hm
  obtain ⟨v2, S2, h2, hm⟩ := bnd_ok hm
  obtain ⟨v3, S3, h3, hm⟩ := bnd_ok hm
  split at hm
  · rename_i o1 o2 e1 e2
    refine (pe_slice (sl_run (FV := FV)) ha (po_of ih hl) (po_of ih hh)).run pins s σ H Q I ⟨F, ρ, S, P, v1, S1, e, c, h1, fun w1 H1 c1 => ⟨F, ρ, S1, _, v2, S2, o1, e.cons, c1, h2, e1, fun H2 c2 => ⟨F, ρ, S2, _, v3, S3, o2, e.cons, c2, h3, e2, fun H3 c3 => ?_⟩⟩⟩
    exact ⟨F, S3, _, v1, v, S', hm, c3, m1, fun w H' c' => q w H' (sub2 c')⟩
  · cases hm
theorem pe_revV {a : Expr} {x : ME} {k : Nat} {q1 q2 q3 pos : Pos} (ha : PE X a (RD X.K FV φ x)) : PE X (.Subscript a (.Slice none none (some (.UnaryOp .USub (.Constant (.int 1) k q1) q2)) q3) pos) (RD X.K FV φ (.rev x)) := by
  refine ⟨fun pins s σ H Q I ⟨F, ρ, S, P, v, S', e, c, hm, q⟩ => ?_⟩
  unfold meanE at hm
  obtain ⟨v1, S1, h1, hm⟩ := bnd_ok hm
  refine (pe_revL ha).run pins s σ H Q I ⟨F, ρ, S, P, v1, S1, e, c, h1, fun w1 H1 c1 => ?_⟩
  unfold revV at hm
  split at hm
  · split at hm
    · rename_i xs hs
      cases hm
      obtain ⟨a, ys, rfl, g1, g2, c2⟩ := c1.lst m1 hs
      exact ⟨a, ys, rfl, SqL.of g1, fun p hp => q _ _ (sub2 (back2 (c2.newLst hp (by simp [g2]) fun p hp => List.mem_append_left _ (zip_rev g2 p hp))))⟩
    · rename_i xs hs
      cases hm
      obtain ⟨a, ys, rfl, g1, g2, c2⟩ := c1.rol m1 hs
      exact ⟨a, ys, rfl, g1, fun p hp => q _ _ (sub2 (back2 (c2.newLst hp (by simp [g2]) fun p hp => List.mem_append_left _ (zip_rev g2 p hp))))⟩
    · cases hm
  · cases hm
theorem base_of {o : Expr} {name : Str} {env : PySem.Env} (h : baseOk o = true) : attributeBase o name env (eval o env) = eval o env := by
  unfold attributeBase
  split
  · rename_i id p pos
    have h' : (id != ("super" : Str)) = true := h
    rw [h']
    rfl
  · rfl
theorem boot_tab : ∀ p ∈ bfTab, bootBuiltins (Str.ofString p.1) = some (bfV p.2.2) ∧ 0 < p.2.1 ∧ (Str.ofString p.1 ≠ ("__name__" : Str)) ∧ (Str.ofString p.1 == ("__debug__" : Str)) = false := by
  unfold bfTab
  simp only [List.forall_mem_cons, List.not_mem_nil, false_implies, implies_true, and_true]
  refine ⟨?_, ?_, ?_, ?_, ?_, ?_, ?_, ?_, ?_, ?_, ?_, ?_, ?_⟩ <;> exact ⟨by decide +kernel, by decide, by decide, by decide⟩
theorem boot_bf {x : Str} {n : Nat} {b : BF} (h : bfOf x n = some b) : bootBuiltins x = some (bfV b) ∧ 0 < n ∧ (x ≠ "__name__") ∧ (x == ("__debug__" : Str)) = false := by
  unfold bfOf at h
  obtain ⟨p, hp, rfl⟩ := Option.map_eq_some_iff.mp h
  have h1 := List.find?_some hp
  simp only [Bool.and_eq_true, beq_iff_eq] at h1
  obtain ⟨e1, e2⟩ := h1
  subst e1; subst e2
  exact boot_tab p (List.mem_of_find?_eq_some hp)
theorem ty_tab : ∀ p ∈ tyTab, bootBuiltins (Str.ofString p.1) = some (.type (tyrN p.2)) ∧ (Str.ofString p.1 ≠ ("__name__" : Str)) ∧ (Str.ofString p.1 == ("__debug__" : Str)) = false := by
  unfold tyTab
  simp only [List.forall_mem_cons, List.not_mem_nil, false_implies, implies_true, and_true]
  refine ⟨?_, ?_, ?_, ?_, ?_, ?_⟩ <;> exact ⟨by decide +kernel, by decide, by decide⟩
theorem boot_ty {x : Str} {t : TyR} (h : tyOf x = some t) : bootBuiltins x = some (.type (tyrN t)) ∧ (x ≠ "__name__") ∧ (x == ("__debug__" : Str)) = false := by
  unfold tyOf at h
  obtain ⟨p, hp, rfl⟩ := Option.map_eq_some_iff.mp h
  have h0 : (x == Str.ofString p.1) = true := by simpa using List.find?_some hp
  have h1 := eq_of_beq h0
  subst h1
  exact ty_tab p (List.mem_of_find?_eq_some hp)
theorem isB_of {Γ : TC} (ok : COk Γ X FV) {x b : Str} (h : isB Γ x b = true) : x = b ∧ Gl X x ∧ X.mg x = none := by
  unfold isB at h
  simp only [Bool.and_eq_true, decide_eq_true_eq, beq_iff_eq] at h
  exact ⟨h.1.1, ok.glob h.1.2, by rw [h.1.1]; exact ok.blt _ h.2⟩
theorem trL_len {f : Expr → Option ME} : ∀ {es : List Expr} {ms : List ME}, trL f es = some ms → ms.length = es.length
  | [], ms, h => by unfold trL at h; cases h; rfl
  | e :: es, ms, h => by
    unfold trL at h
    split at h
    · rename_i h1 h2; cases h; simp [trL_len h2]
    · cases h
theorem star1 {n : Nat} {Γ : TC} {e : Expr} {es : List Expr} {ms : List ME} {env : PySem.Env} (h : trL (trE n Γ) (e :: es) = some ms) : starEach (e :: es) env = (false, eval e env) :: starEach es env ∧ (starEach es env).any (·.1) = false := by
  unfold trL at h
  split at h
  · rename_i q1 q2
    exact ⟨starEach_cons (not_star q1), starEach_plain (fun _ _ => not_star) q2⟩
  · cases h
theorem pe_bltV {Γ : TC} (ok : COk Γ X FV) {n : Nat} {x : Str} {es : List Expr} {ms : List ME} {b : BF} {p pos : Pos} (hb : isB Γ x x = true) (hf : bfOf x es.length = some b) (ht : trL (trE n Γ) es = some ms) (h : PA X es (RA X.K FV φ ms)) :
    PE X (.Call (.Name x p) es [] pos) (RD X.K FV φ (.blt b ms)) := by
  obtain ⟨_, hg, hm⟩ := isB_of ok hb
  obtain ⟨h1, h3, h4, h5⟩ := boot_bf hf
  cases es with
  | nil => simp at h3
  | cons e es =>
    obtain ⟨s1, s2⟩ := star1 (env := X.env) ht
    have read : ∀ σ H Q, RD X.K FV φ (.blt b ms) σ H Q → tCB (rC X.K FV (bltV b)) (RA X.K FV φ ms) σ H Q := fun σ H Q ⟨F, ρ, S, P, v, S', e, c, hm, q⟩ => by
      unfold meanE at hm
      obtain ⟨vs, S1, g1, hm⟩ := bnd_ok hm
      exact ⟨F, ρ, S, P, vs, S1, e, c, g1, fun ws H1 hl c1 => ⟨F, S1, _, vs, v, S', hm, hl, c1, zip_mem, fun w H' c' => q w H' (back2 c')⟩⟩
    have run := blt_all ok.x b
    have bv : (∃ id, bfV b = .builtin id) ∨ (∃ T, bfV b = .type T) := by cases b <;> simp [bfV]
    rcases bv with ⟨id, e1⟩ | ⟨T, e1⟩
    · rw [e1] at h1 run
      exact ⟨fun pins s σ H Q I q => (pe_callB run hg hm h1 h h4 h5 s1 (backTo_any s2)).run pins s σ H Q I (read σ H Q q)⟩
    · rw [e1] at h1 run
      exact ⟨fun pins s σ H Q I q => (pe_callTy run hg hm h1 h h4 h5 s1 (backTo_any s2)).run pins s σ H Q I (read σ H Q q)⟩
/-- x.items(), x.values() as an argument -/
def RVw (it : Bool) (m : ME) : TE := fun σ H Q => ∃ F ρ S P v S', EnvOk ρ σ P ∧ Ctx X.K FV F S H P ∧ meanE φ m ρ S = .ok v S' ∧ (dctV S' v).isSome = true ∧ ∀ r a H', H' r = some (vwO it r a) → Ctx X.K FV F S' H' ((v, .ref a) :: P) → Q (.ref r) H'
theorem pe_items (xo : XOk X FV) {o : Expr} {m : ME} {apos cpos : Pos} (hb : baseOk o = true) (hline : (apos.endLine == cpos.line) = true) (h : PE X o (RD X.K FV φ m)) : PE X (.Call (.Attribute o "items" apos) [] [] cpos) (RVw (X := X) (FV := FV) (φ := φ) true m) := by
  refine ⟨fun pins s σ H Q I ⟨F, ρ, S, P, v, S1, e', c, h1, hd, q⟩ => ?_⟩
  obtain ⟨kvs, hd⟩ := Option.isSome_iff_exists.mp hd
  refine wpAny_Call_method (T := "dict") (id := "dict.items") (base_of hb) rfl hline PySem.F.plainAttrs_dict PySem.F.slot_dict_items PySem.F.type_dict_items (thn (h.run pins s σ H (fun w H1 => Ctx X.K FV F S1 H1 ((v, w) :: P)) I ⟨F, ρ, S, P, v, S1, e', c, h1, fun w H1 c1 => c1⟩) fun u s1 ⟨x, H1, I1, rx, c1⟩ => ?_)
  obtain ⟨a, T, rfl, rfl, e3, mm, h4, h5, h6, c2, hP⟩ := dct_of I1 xo c1 m1 hd
  obtain rfl : u = Value.ref a := rx
  obtain ⟨es, ep, raw, he⟩ := mm.raw
  obtain ⟨od, hgd, hx', hdt⟩ := id raw
  refine ⟨raw.typeIs, fun b e => by cases e; exact ⟨od, hgd, hx'.2.1⟩, ?_⟩
  have hf : H1 s1.heap.objs.size = none := I1.hok.fresh (Nat.le_refl _)
  have fin : EP X pins σ Q (.ref s1.heap.objs.size) { s1 with heap := s1.heap.push { cls := .type "dict_items", data := .fields #[.ref a] } } :=
    ⟨.ref s1.heap.objs.size, upd H1 s1.heap.objs.size (vwO true s1.heap.objs.size a), I1.laid (t' := s1.toks) (fun b u e => Heap.get?_push_of_some _ e) (Nat.le_refl _) (vwO_ok (Heap.get?_push_size _ rfl)), rfl, q _ a _ upd_same (Ctx.frameDrop (c1.frameNew (o := vwO true s1.heap.objs.size a) hf))⟩
  show wpAny (model X.prog X.w) X.A (callWith cpos (.builtin "dict.items") [.ref a] [] []) _ X.xe s1
  exact method_meetsIn PySem.F.slot_dict_items PySem.F.entry_dict_items rfl (PySem.evalArgs_none ⟨rfl, raw.typeIs, PySem.F.args_dict_items_1 _, _, meets_dict_items_raw a e3, ⟨es, ep, raw⟩, fin⟩)
theorem pe_values (xo : XOk X FV) {o : Expr} {m : ME} {apos cpos : Pos} (hb : baseOk o = true) (hline : (apos.endLine == cpos.line) = true) (h : PE X o (RD X.K FV φ m)) : PE X (.Call (.Attribute o "values" apos) [] [] cpos) (RVw (X := X) (FV := FV) (φ := φ) false m) := by
  refine ⟨fun pins s σ H Q I ⟨F, ρ, S, P, v, S1, e', c, h1, hd, q⟩ => ?_⟩
  obtain ⟨kvs, hd⟩ := Option.isSome_iff_exists.mp hd
  refine wpAny_Call_method (T := "dict") (id := "dict.values") (base_of hb) rfl hline PySem.F.plainAttrs_dict PySem.F.slot_dict_values PySem.F.type_dict_values (thn (h.run pins s σ H (fun w H1 => Ctx X.K FV F S1 H1 ((v, w) :: P)) I ⟨F, ρ, S, P, v, S1, e', c, h1, fun w H1 c1 => c1⟩) fun u s1 ⟨x, H1, I1, rx, c1⟩ => ?_)
  obtain ⟨a, T, rfl, rfl, e3, mm, h4, h5, h6, c2, hP⟩ := dct_of I1 xo c1 m1 hd
  obtain rfl : u = Value.ref a := rx
  obtain ⟨es, ep, raw, he⟩ := mm.raw
  obtain ⟨od, hgd, hx', hdt⟩ := id raw
  refine ⟨raw.typeIs, fun b e => by cases e; exact ⟨od, hgd, hx'.2.1⟩, ?_⟩
  have hf : H1 s1.heap.objs.size = none := I1.hok.fresh (Nat.le_refl _)
  have fin : EP X pins σ Q (.ref s1.heap.objs.size) { s1 with heap := s1.heap.push { cls := .type "dict_values", data := .fields #[.ref a] } } :=
    ⟨.ref s1.heap.objs.size, upd H1 s1.heap.objs.size (vwO false s1.heap.objs.size a), I1.laid (t' := s1.toks) (fun b u e => Heap.get?_push_of_some _ e) (Nat.le_refl _) (vwO_ok (Heap.get?_push_size _ rfl)), rfl, q _ a _ upd_same (Ctx.frameDrop (c1.frameNew (o := vwO false s1.heap.objs.size a) hf))⟩
  show wpAny (model X.prog X.w) X.A (callWith cpos (.builtin "dict.values") [.ref a] [] []) _ X.xe s1
  exact method_meetsIn PySem.F.slot_dict_values PySem.F.entry_dict_values rfl (PySem.evalArgs_none ⟨rfl, raw.typeIs, PySem.F.args_dict_values_1 _, _, meets_dict_values_raw a e3, ⟨es, ep, raw⟩, fin⟩)
theorem pe_vwV {Γ : TC} (ok : COk Γ X FV) {n : Nat} {x : Str} {es : List Expr} {m : ME} {b : BF} {p pos : Pos} (hb : isB Γ x x = true) (hf : bfOf x es.length = some b) (ht : trVw (trE n Γ) b es = some m) (ih : ∀ e m, trE n Γ e = some m → PE X e (RD X.K FV φ m)) :
    PE X (.Call (.Name x p) es [] pos) (RD X.K FV φ m) := by
  obtain ⟨_, hg, hm⟩ := isB_of ok hb
  obtain ⟨h1, h3, h4, h5⟩ := boot_bf hf
  unfold trVw at ht
  split at ht
  case h_2 => cases ht
  rename_i o name apos cpos
  split at ht
  case isFalse => cases ht
  rename_i hc
  simp only [Bool.and_eq_true] at hc
  obtain ⟨mo, ho, rfl⟩ := Option.map_eq_some_iff.mp ht
  have hv : PE X (.Call (.Attribute o name apos) [] [] cpos) (RVw (X := X) (FV := FV) (φ := φ) (name == "items") mo) := by
    by_cases hi : (name == "items") = true
    · have := eq_of_beq hi
      subst this
      exact pe_items ok.x hc.1.1 hc.1.2 (ih _ _ ho)
    · have h2 : (name == "values") = true := by
        have := hc.2
        rw [Bool.or_eq_true] at this
        exact this.resolve_left hi
      have := eq_of_beq h2
      subst this
      exact pe_values ok.x hc.1.1 hc.1.2 (ih _ _ ho)
  have read : ∀ σ H Q, RD X.K FV φ (.vw (name == "items") b mo) σ H Q → tCB (rVw X.K FV (name == "items") b) (tCons (RVw (X := X) (FV := FV) (φ := φ) (name == "items") mo) tNil) σ H Q := fun σ H Q ⟨F, ρ, S, P, v, S', e, c, hm, q⟩ => by
    unfold meanE at hm
    obtain ⟨v1, S1, g1, hm⟩ := bnd_ok hm
    have hd : (dctV S1 v1).isSome = true := by
      unfold vwV at hm
      split at hm
      · rename_i k; rw [k]; rfl
      · cases hm
    exact ⟨F, ρ, S, P, v1, S1, e, c, g1, hd, fun r a H' hr c1 => ⟨F, S1, _, r, a, v1, v, S', rfl, hr, c1, m1, hm, fun w H2 c2 => q w H2 (back2 (R := [(v1, V.ref a)]) c2)⟩⟩
  have run := cr_vw (X := X) (FV := FV) ok.x (name == "items") b
  have bv : (∃ id, bfV b = .builtin id) ∨ (∃ T, bfV b = .type T) := by cases b <;> simp [bfV]
  rcases bv with ⟨id, e1⟩ | ⟨T, e1⟩
  · rw [e1] at h1 run
    exact ⟨fun pins s σ H Q I q => (pe_callB run hg hm h1 (pa_cons hv pa_nil) h4 h5).run pins s σ H Q I (read σ H Q q)⟩
  · rw [e1] at h1 run
    exact ⟨fun pins s σ H Q I q => (pe_callTy run hg hm h1 (pa_cons hv pa_nil) h4 h5).run pins s σ H Q I (read σ H Q q)⟩
def rIsV (K : PySem.W.Frag) (FV : Glo) (t : TyR) : List V → Hp → VK → Prop := fun ws H Q => ∃ F S P x w v S', ws = [w, .ty (tyrN t)] ∧ isiV t x S = .ok v S' ∧ Ctx K FV F S H P ∧ (x, w) ∈ P ∧ ∀ w' H', Ctx K FV F S' H' ((v, w') :: P) → Q w' H'
theorem cr_isi (xo : XOk X FV) (t : TyR) : CallR X (.builtin "isinstance") (rIsV X.K FV t) := by
  intro pins s σ H ws us Q I r ⟨F, S, P, x, w, v, S', e, h, c, hx, q⟩
  subst e
  cases r with
  | cons r1 r2 =>
    cases r2 with
    | cons r2 r3 =>
      cases r3
      cases r2
      exact isi_run xo I c hx r1 h q
theorem pe_isiV {Γ : TC} (ok : COk Γ X FV) {n : Nat} {a : Expr} {t : Str} {x : ME} {T : TyR} {p p2 pos : Pos} (hb : isB Γ "isinstance" "isinstance" = true) (hb2 : isB Γ t t = true) (ht : tyOf t = some T) (hx : trE n Γ a = some x) (ha : PE X a (RD X.K FV φ x)) :
    PE X (.Call (.Name "isinstance" p) [a, .Name t p2] [] pos) (RD X.K FV φ (.isi x T)) := by
  obtain ⟨_, hg, hm⟩ := isB_of ok hb
  obtain ⟨_, hg2, hm2⟩ := isB_of ok hb2
  obtain ⟨b1, b2, b3⟩ := boot_ty ht
  have ht2 : PE X (.Name t p2) (tC (.ty (tyrN T))) := pe_bltn hg2 hm2 b1 rfl b2 b3
  have st : starEach [a, .Name t p2] X.env = (false, eval a X.env) :: starEach [.Name t p2] X.env := starEach_cons (not_star hx)
  refine ⟨fun pins s σ H Q I ⟨F, ρ, S, P, v, S', e, c, hm', q⟩ => (pe_callB (cr_isi (FV := FV) ok.x T) hg hm boot_isinstance (pa_cons ha (pa_cons ht2 pa_nil) st) (by decide) (by decide) st rfl).run pins s σ H Q I ?_⟩
  unfold meanE at hm'
  obtain ⟨v1, S1, h1, hm'⟩ := bnd_ok hm'
  exact ⟨F, ρ, S, P, v1, S1, e, c, h1, fun w H1 c1 => ⟨F, S1, _, v1, w, v, S', rfl, hm', c1, m1, fun w' H' c' => q w' H' (sub2 c')⟩⟩
theorem bm_tab : ∀ p ∈ bmTab, p.1 = bmN p.2 := by decide
theorem bm_of {x : Str} {m : BM} (h : bmOf x = some m) : x = Str.ofString (bmN m) := by
  unfold bmOf at h
  obtain ⟨p, hp, rfl⟩ := Option.map_eq_some_iff.mp h
  have h0 : (x == Str.ofString p.1) = true := by simpa using List.find?_some hp
  rw [eq_of_beq h0, bm_tab p (List.mem_of_find?_eq_some hp)]
theorem pe_mtdV {Γ : TC} (ok : COk Γ X FV) {n : Nat} {o : Expr} {name : Str} {es : List Expr} {x : ME} {ms : List ME} {m : BM} {apos pos : Pos} (hb : baseOk o = true) (hline : (apos.endLine == pos.line) = true) (hlen : es.length < 29) (hm : bmOf name = some m) (ht : trL (trE n Γ) es = some ms)
    (ho : PE X o (RD X.K FV φ x)) (h : PA X es (RA X.K FV φ ms)) : PE X (.Call (.Attribute o name apos) es [] pos) (RD X.K FV φ (.mtd m x ms)) := by
  refine ⟨fun pins s σ H Q I ⟨F, ρ, S, P, v, S', e, c, hm', q⟩ => ?_⟩
  have hn := bm_of hm
  subst hn
  unfold meanE at hm'
  obtain ⟨v1, S1, h1, hm'⟩ := bnd_ok hm'
  split at hm'
  case h_2 => cases hm'
  rename_i t hrt
  obtain ⟨vs, S2, h2, hm'⟩ := bnd_ok hm'
  have fa := mfacts t m (mtd_ok hm')
  have pl : (starEach es X.env).any (·.1) = false := starEach_plain (fun _ _ => not_star) ht
  have few : ((backTo pos (starEach es X.env)).all (fun x => !x.1) && (backToKw pos (keywordEach [] X.env)).all (fun x => x.1.isSome) && decide (es.length + ([] : List Keyword).length + (if ([] : List Keyword).isEmpty then 0 else 1) < 30)) = true := by
    have b1 : (backTo pos (starEach es X.env)).all (fun x => !x.1) = true := by
      have := backTo_any (pos := pos) pl
      rw [List.all_eq_true]
      intro z hz
      have h3 : ¬ (backTo pos (starEach es X.env)).any (·.1) = true := by rw [this]; decide
      rw [List.any_eq_true] at h3
      cases hz1 : z.1 with
      | false => rfl
      | true => exact absurd ⟨z, hz, hz1⟩ h3
    rw [b1]
    have : decide (es.length + ([] : List Keyword).length + (if ([] : List Keyword).isEmpty then 0 else 1) < 30) = true := by simp; omega
    rw [this]
    rfl
  refine wpAny_Call_method_late (base_of hb) few hline rfl (thn (ho.run pins s σ H (fun w H1 => Ctx X.K FV F S1 H1 ((v1, w) :: P)) I ⟨F, ρ, S, P, v1, S1, e, c, h1, fun w H1 c1 => c1⟩) fun u s1 ⟨w, H1, I1, r1, c1⟩ => ?_)
  obtain ⟨t1, t2⟩ := rt_is I1 ok.x c1 m1 r1 hrt
  refine ⟨rtN t, mId t m, fa.pa, fa.slot, fa.ty, t1, t2, ?_⟩
  refine Calls.callWith_builtin (backTo_any pl) ?_
  have hA := h.run pos pins s1 σ H1 (fun ws H2 => vs.length = ws.length ∧ Ctx X.K FV F S2 H2 (vs.zip ws ++ ((v1, w) :: P))) I1 ⟨F, ρ, S1, _, vs, S2, e.cons, c1, h2, fun ws H2 hl c2 => ⟨hl, c2⟩⟩
  have fin : ∀ us s2 ws H2, Inv X pins σ H2 s2 → Vals ws us → vs.length = ws.length → Ctx X.K FV F S2 H2 (vs.zip ws ++ ((v1, w) :: P)) → wpAny (model X.prog X.w) X.A (call (.builtin (mId t m)) (u :: us)) (EP X pins σ Q) X.xe s2 := fun us s2 ws H2 I2 r2 hl c2 =>
    mtd_run ok.x I2 c2 (List.mem_append_right _ m1) r1 hl zip_mem r2 hm' fun w' H' c' => q w' H' (c'.sub fun p hp => by
      rcases List.mem_cons.mp hp with rfl | hp
      · exact m1
      · exact List.mem_cons_of_mem _ (List.mem_append_right _ (List.mem_cons_of_mem _ hp)))
  cases es with
  | nil =>
    unfold trL at ht
    cases ht
    unfold meanL at h2
    obtain ⟨rfl, rfl⟩ := ret_ok h2
    exact PySem.evalArgs_none (fin [] s1 [] H1 I1 .nil rfl c1)
  | cons e0 es =>
    rw [(star1 (env := X.env) ht).1] at hA ⊢
    refine Calls.evalArgs_plain ?_
    exact thn hA fun us s2 ⟨ws, H2, I2, r2, hl, c2⟩ => fin us s2 ws H2 I2 r2 hl c2
theorem trD_all {f : Expr → Option ME} : ∀ {ks : List (Option Expr)} {vs : List Expr} {ms : List ME}, trD f ks vs = some ms → ks.all (·.isSome) = true ∧ ks.length = vs.length
  | [], [], _, _ => ⟨rfl, rfl⟩
  | some k :: ks, v :: vs, ms, h => by
    unfold trD at h
    split at h
    · rename_i h1 h2 h3
      obtain ⟨a, b⟩ := trD_all h3
      exact ⟨by simpa using a, by simp [b]⟩
    · cases h
  | [], _ :: _, _, h => by simp [trD] at h
  | none :: _, _, _, h => by simp [trD] at h
  | some _ :: _, [], _, h => by simp [trD] at h
theorem prs_of {n : Nat} {Γ : TC} (ih : ∀ e m, trE n Γ e = some m → PE X e (RD X.K FV φ m)) : ∀ {ks : List (Option Expr)} {vs : List Expr} {ms : List ME}, trD (trE n Γ) ks vs = some ms → ∀ (pos : Pos) (pins : List (Addr × Obj)) (s : Shared) (σ : L2.St) (H : Hp) (Q : List (V × V) → Hp → Prop), Inv X pins σ H s →
    (∃ F ρ S P xs S', EnvOk ρ σ P ∧ Ctx X.K FV F S H P ∧ meanL φ ms ρ S = .ok xs S' ∧ ∀ (ws : List (V × V)) H', xs.length = 2 * ws.length → Ctx X.K FV F S' H' (xs.zip (ws.flatMap fun p => [p.1, p.2]) ++ P) → Q ws H') →
    wpAny (model X.prog X.w) X.A (evalPairs (pairTrees ks vs X.env pos)) (fun us s' => ∃ ws H', Inv X pins σ H' s' ∧ VV ws us ∧ Q ws H') X.xe s
  | [], [], ms, h, pos, pins, s, σ, H, Q, I, ⟨F, ρ, S, P, xs, S', e, c, hm, q⟩ => by
    unfold trD at h
    cases h
    unfold meanL at hm
    obtain ⟨rfl, rfl⟩ := ret_ok hm
    exact pairTrees_nil_walk ⟨[], H, I, .nil, q [] H rfl c⟩
  | some k :: ks, v :: vs, ms, h, pos, pins, s, σ, H, Q, I, ⟨F, ρ, S, P, xs, S', e, c, hm, q⟩ => by
    unfold trD at h
    split at h
    · rename_i mk mv ms' h1 h2 h3
      cases h
      unfold meanL at hm
      obtain ⟨x1, S1, g1, hm⟩ := bnd_ok hm
      obtain ⟨ys, S2, g2, hm⟩ := bnd_ok hm
      obtain ⟨rfl, rfl⟩ := ret_ok hm
      unfold meanL at g2
      obtain ⟨x2, S3, g3, g2⟩ := bnd_ok g2
      obtain ⟨zs, S4, g4, g2⟩ := bnd_ok g2
      obtain ⟨rfl, rfl⟩ := ret_ok g2
      refine pairTrees_cons_walk (thn ((ih _ _ h1).run pins s σ H (fun w H1 => Ctx X.K FV F S1 H1 ((x1, w) :: P)) I ⟨F, ρ, S, P, x1, S1, e, c, g1, fun w H1 c1 => c1⟩) fun u1 s1 ⟨w1, H1, I1, r1, c1⟩ => ?_)
      refine thn ((ih _ _ h2).run pins s1 σ H1 (fun w H2 => Ctx X.K FV F S3 H2 ((x2, w) :: (x1, w1) :: P)) I1 ⟨F, ρ, S1, _, x2, S3, e.cons, c1, g3, fun w H2 c2 => c2⟩) fun u2 s2 ⟨w2, H2, I2, r2, c2⟩ => ?_
      refine thn (prs_of ih h3 pos pins s2 σ H2 (fun ws H3 => zs.length = 2 * ws.length ∧ Ctx X.K FV F S4 H3 (zs.zip (ws.flatMap fun p => [p.1, p.2]) ++ ((x2, w2) :: (x1, w1) :: P))) I2 ⟨F, ρ, S3, _, zs, S4, e.cons.cons, c2, g4, fun ws H3 hl c3 => ⟨hl, c3⟩⟩) fun us s3 ⟨ws, H3, I3, r3, hl, c3⟩ => ?_
      refine ⟨(w1, w2) :: ws, H3, I3, .cons ⟨r1, r2⟩ r3, q _ H3 (by simp [hl]; omega) (c3.sub fun p hp => ?_)⟩
      simp only [List.flatMap_cons, List.cons_append, List.nil_append, List.zip_cons_cons, List.mem_cons, List.mem_append] at hp ⊢
      rcases hp with rfl | rfl | hp | hp
      · exact .inr (.inr (.inl rfl))
      · exact .inr (.inl rfl)
      · exact .inl hp
      · exact .inr (.inr (.inr hp))
    · cases h
  | [], _ :: _, _, h, _, _, _, _, _, _, _, _ => by simp [trD] at h
  | none :: _, _, _, h, _, _, _, _, _, _, _, _ => by simp [trD] at h
  | some _ :: _, [], _, h, _, _, _, _, _, _, _, _ => by simp [trD] at h
theorem foldl_des (ts : List DE) (acc : List (Val × Val)) : (ts.map fun t => (t.nk, t.k, t.v)).foldl (fun kvs p => putK kvs p.1 p.2.1 p.2.2) acc = ts.foldl (fun kvs t => putK kvs t.nk t.k t.v) acc := by
  rw [List.foldl_map]
theorem pe_dctV (xo : XOk X FV) {n : Nat} {Γ : TC} (ih : ∀ e m, trE n Γ e = some m → PE X e (RD X.K FV φ m)) {ks : List (Option Expr)} {vs : List Expr} {ms : List ME} {pos : Pos} (h : trD (trE n Γ) ks vs = some ms) (h15 : ks.length ≤ 15) : PE X (.Dict ks vs pos) (RD X.K FV φ (.dct ms)) := by
  refine ⟨fun pins s σ H Q I ⟨F, ρ, S, P, v, S', e, c, hm, q⟩ => ?_⟩
  unfold meanE at hm
  obtain ⟨xs, S1, h1, hm⟩ := bnd_ok hm
  unfold dctM at hm
  split at hm
  case h_2 => cases hm
  rename_i ps hps
  split at hm
  case isFalse => cases hm
  rename_i hlen
  cases hm
  obtain ⟨hall, hl⟩ := trD_all h
  have hp : H s.heap.objs.size = none := I.hok.fresh (Nat.le_refl _)
  have hsm : (s.heap.objs.size == sysModules) = false := beq_eq_false_iff_ne.mpr (Ne.symm (Nat.ne_of_lt I.big))
  have obj : ObjOk X.prog X.w (upd H s.heap.objs.size (dctO FV.w s.heap.objs.size [])) (s.heap.push { cls := .type "dict", data := .dict #[] }) s.heap.objs.size (dctO FV.w s.heap.objs.size []) := by
    exact dct_new hsm ⟨_, #[], 0, Heap.get?_push_size _ rfl, ⟨rfl, rfl, rfl⟩, rfl, rfl⟩
  have I1 := I.laid (a := s.heap.objs.size) (o := dctO FV.w s.heap.objs.size []) (h' := s.heap.push { cls := .type "dict", data := .dict #[] }) (t' := s.toks) (fun _ _ q => Heap.get?_push_of_some _ q) (Nat.le_refl _) obj
  have c1 : Ctx X.K FV ((s.heap.objs.size, dctO FV.w s.heap.objs.size (([] : List DE).map DE.ne)) :: F) S _ P := c.frameNew hp
  by_cases h0 : ks = []
  · subst h0
    have e0 : vs = [] := List.length_eq_zero_iff.mp hl.symm
    subst e0
    unfold trD at h
    cases h
    unfold meanL at h1
    obtain ⟨rfl, rfl⟩ := ret_ok h1
    cases hps
    refine wpAny_Dict_empty ⟨.ref s.heap.objs.size, _, I1, rfl, q _ _ ?_⟩
    exact c1.frameInD (T := []) rfl (Nat.zero_le _) List.nodup_nil (by simp) (by simp)
  · refine wpAny_Dict_any hall hl h0 h15 (thn (prs_of ih h pos pins _ σ _ (fun ws H2 => xs.length = 2 * ws.length ∧ Ctx X.K FV ((s.heap.objs.size, dctO FV.w s.heap.objs.size (([] : List DE).map DE.ne)) :: F) S1 H2 (xs.zip (ws.flatMap fun p => [p.1, p.2]) ++ P)) I1 ⟨_, ρ, S, P, xs, S1, e, c1, h1, fun ws H2 hl2 c2 => ⟨hl2, c2⟩⟩) fun us s2 ⟨ws, H2, I2, r2, hl2, c2⟩ => ?_)
    obtain ⟨ts, e1, e2, e3, e4⟩ := pair_des (P := xs.zip (ws.flatMap fun p => [p.1, p.2]) ++ P) hps r2 hl2 fun q hq => List.mem_append_left _ hq
    subst e1
    have htl : ts.length ≤ sizeLine := by
      have : ps.length = ts.length := by rw [e2, List.length_map]
      rw [← this]; exact hlen
    refine thn (store_all xo hsm ts [] H2 s2 (fun H' T' => Ctx X.K FV F (S1 ++ [.dct (ps.foldl (fun kvs p => putK kvs p.1 p.2.1 p.2.2) [])]) H' ((.ref S1.length, .ref s.heap.objs.size) :: (xs.zip (ws.flatMap fun p => [p.1, p.2]) ++ P))) I2 c2 (by simp) (by simp) List.nodup_nil e3 e4 (by simpa using htl) fun H' T' a1 a2 a3 a4 a5 a6 => ?_) fun _ s3 ⟨H', T', I3, c3⟩ => ?_
    · have a6' : T'.map DE.kv = ts.foldl (fun kvs t => putK kvs t.nk t.k t.v) [] := a6
      rw [e2, foldl_des, ← a6']
      exact a1.frameInD rfl a5 a4 a2 a3
    · exact ⟨.ref s.heap.objs.size, H', I3, rfl, q _ _ (back2 c3)⟩
end
end MP
set_option linter.all false
set_option Elab.async false
set_option maxHeartbeats 1000000
namespace MP
open PySem L2 PySem.Spec PyProof.Rows
theorem EnvOk.set {ρ : Env} {σ : L2.St} {P : List (Val × V)} {i : Nat} {x : Val} {w : V} (e : EnvOk ρ σ P) (h : (x, w) ∈ P) : EnvOk (setE ρ i x) (σ.set i (some w)) P := by
  refine ⟨by simp [setE, e.1], fun j v hj => ?_⟩
  unfold setE at hj
  by_cases hij : i = j
  · subst hij
    by_cases hl : i < ρ.length
    · rw [List.getElem?_set_self hl] at hj
      cases hj
      exact ⟨w, List.getElem?_set_self (by rw [← e.1]; exact hl), h⟩
    · rw [List.getElem?_eq_none (by simpa using hl)] at hj; cases hj
  · rw [List.getElem?_set_ne hij] at hj
    obtain ⟨u, h1, h2⟩ := e.2 j v hj
    exact ⟨u, by rw [List.getElem?_set_ne hij]; exact h1, h2⟩
theorem wipe_get (σ : L2.St) (j : Nat) : ∀ vs : List Nat, (wipe σ vs)[j]? = if j ∈ vs then (σ[j]?).map (fun _ => none) else σ[j]?
  | [] => by simp [wipe]
  | v :: vs => by
    unfold wipe
    have ih := wipe_get σ j vs
    have hl := wipe_length σ vs
    by_cases e : v = j
    · subst e
      simp only [List.mem_cons, true_or, if_true]
      by_cases hl2 : v < σ.length
      · rw [List.getElem?_set_self (by omega), List.getElem?_eq_getElem hl2]; rfl
      · rw [List.getElem?_eq_none (by rw [List.length_set]; omega), List.getElem?_eq_none (by omega)]; rfl
    · rw [List.getElem?_set_ne e, ih]
      have : (j ∈ v :: vs) ↔ j ∈ vs := by
        rw [List.mem_cons]; exact ⟨fun h => h.resolve_left (Ne.symm e), .inr⟩
      simp only [this]
theorem wipe_set (σ : L2.St) (i : Nat) (w : Option V) (vs : List Nat) (h : i ∈ vs) : wipe (σ.set i w) vs = wipe σ vs := by
  apply List.ext_getElem?
  intro j
  rw [wipe_get, wipe_get]
  by_cases e : j ∈ vs
  · rw [if_pos e, if_pos e]
    by_cases hij : i = j
    · subst hij
      by_cases hl : i < σ.length
      · rw [List.getElem?_set_self hl, List.getElem?_eq_getElem hl]; rfl
      · rw [List.getElem?_eq_none (by simpa using hl), List.getElem?_eq_none (by omega)]
    · rw [List.getElem?_set_ne hij]
  · rw [if_neg e, if_neg e, List.getElem?_set_ne (fun q : i = j => e (by rw [← q]; exact h))]
section
variable (K : PySem.W.Frag) (FV : Glo)
def RG (t : Tg) : TG := fun w σ H Q => ∃ F ρ S P x ρ', EnvOk ρ σ P ∧ Ctx K FV F S H P ∧ (x, w) ∈ P ∧ tgV t x ρ S = .ok ρ' S ∧
  ∀ σ' P', (∀ p ∈ P, p ∈ P') → EnvOk ρ' σ' P' → Ctx K FV F S H P' → (∀ vs, (∀ i ∈ slotsT t, i ∈ vs) → wipe σ' vs = wipe σ vs) → Q σ' H
def RGs (ts : List Tg) : TGs := fun ws σ H Q => ∃ F ρ S P xs ρ', EnvOk ρ σ P ∧ Ctx K FV F S H P ∧ xs.length = ws.length ∧ (∀ q ∈ xs.zip ws, q ∈ P) ∧ tgsV ts xs ρ S = .ok ρ' S ∧
  ∀ σ' P', (∀ p ∈ P, p ∈ P') → EnvOk ρ' σ' P' → Ctx K FV F S H P' → (∀ vs, (∀ i ∈ slotsTs ts, i ∈ vs) → wipe σ' vs = wipe σ vs) → Q σ' H
end
section
variable {X : Cx} {FV : Glo}
theorem assignEach_cons {e : Expr} {es : List Expr} {env : PySem.Env} (h : ∀ a p, e ≠ .Starred a p) : assignEach (e :: es) env = (false, assign e env) :: assignEach es env := by
  cases e <;> first | rfl | exact absurd rfl (h _ _)
theorem trT_star {n : Nat} {Γ : TC} {e : Expr} {t : Tg} (h : trT n Γ e = some t) : ∀ a p, e ≠ .Starred a p := by
  intro a p q
  subst q
  cases n <;> simp [trT] at h
theorem tgV_st : (∀ (t : Tg) (x : Val) (ρ ρ' : Env) (S S' : Sto), tgV t x ρ S = .ok ρ' S' → S' = S) ∧ (∀ (ts : List Tg) (xs : List Val) (ρ ρ' : Env) (S S' : Sto), tgsV ts xs ρ S = .ok ρ' S' → S' = S) := by
  have key : ∀ n : Nat, (∀ (t : Tg) (x : Val) (ρ ρ' : Env) (S S' : Sto), sizeOf t ≤ n → tgV t x ρ S = .ok ρ' S' → S' = S) ∧ (∀ (ts : List Tg) (xs : List Val) (ρ ρ' : Env) (S S' : Sto), sizeOf ts ≤ n → tgsV ts xs ρ S = .ok ρ' S' → S' = S) := by
    intro n
    induction n with
    | zero =>
      refine ⟨fun t x ρ ρ' S S' h => ?_, fun ts xs ρ ρ' S S' h => ?_⟩
      · cases t <;> simp at h
      · cases ts <;> simp at h
    | succ n ih =>
      refine ⟨fun t x ρ ρ' S S' h q => ?_, fun ts xs ρ ρ' S S' h q => ?_⟩
      · cases t with
        | nm i =>
          unfold tgV at q
          exact (ret_ok q).2.symm
        | tp ts =>
          unfold tgV at q
          cases x with
          | tup xs => exact ih.2 ts xs ρ ρ' S S' (by simp at h; omega) q
          | _ => exact (stop_ok q).elim
      · cases ts with
        | nil =>
          cases xs with
          | nil => unfold tgsV at q; exact (ret_ok q).2.symm
          | cons _ _ => unfold tgsV at q; exact (stop_ok q).elim
        | cons t ts =>
          cases xs with
          | nil => unfold tgsV at q; exact (stop_ok q).elim
          | cons y ys =>
            unfold tgsV at q
            obtain ⟨ρ1, S1, h1, h2⟩ := bnd_ok q
            have e1 := ih.1 t y ρ ρ1 S S1 (by simp at h; omega) h1
            have e2 := ih.2 ts ys ρ1 ρ' S1 S' (by simp at h; omega) h2
            rw [e2, e1]
  exact ⟨fun t x ρ ρ' S S' => (key _).1 t x ρ ρ' S S' (Nat.le_refl _), fun ts xs ρ ρ' S S' => (key _).2 ts xs ρ ρ' S S' (Nat.le_refl _)⟩
theorem pg_nmV {Γ : TC} (ok : COk Γ X FV) {x : Str} {i : Nat} {pos : Pos} (hk : Γ.names.lookup x = some .local ∨ Γ.names.lookup x = some .cell) (hi : Γ.N.findIdx? (· == x) = some i) : PG X (.Name x pos) (RG X.K FV (.nm i)) := by
  have hN : X.N[i]? = some x := by rw [ok.N]; exact find_ix hi
  have hx : Loc X.env.scope x ∧ (X.fn x = true ∨ X.env.scope.names.lookup x = some .local) := by
    rcases hk with hk | hk
    · rcases ok.kinds x _ hk with e | ⟨q, _⟩
      · exact ⟨.inl e, .inr e⟩
      · cases q
    · rcases ok.kinds x _ hk with e | ⟨q, _⟩
      · exact ⟨.inr e, .inl (ok.cells x hk)⟩
      · cases q
  refine ⟨fun pins s σ H v u Q I r ⟨F, ρ, S, P, y, ρ', e, c, hm, ht, q⟩ => (pg_name (i := i) (by rw [ok.N]; exact ok.nd) hN hx.1 hx.2).run pins s σ H v u Q I r ?_⟩
  unfold tgV at ht
  obtain ⟨rfl, _⟩ := ret_ok ht
  refine q _ P (fun _ h => h) (e.set hm) c fun vs hv => ?_
  exact wipe_set σ i _ vs (hv i (by simp [slotsT]))
theorem pg_tr {Γ : TC} (ok : COk Γ X FV) : ∀ n, (∀ e t, trT n Γ e = some t → PG X e (RG X.K FV t)) ∧ (∀ es ts, trT.trTs n Γ es = some ts → PGs X es (RGs X.K FV ts) ∧ (assignEach es X.env).length = ts.length ∧ (assignEach es X.env).findIdx? (·.1) = none)
  | 0 => ⟨fun e t h => by simp [trT] at h, fun es ts h => by simp [trT.trTs] at h⟩
  | n + 1 => by
    obtain ⟨ih1, ih2⟩ := pg_tr ok n
    refine ⟨fun e t h => ?_, fun es ts h => ?_⟩
    · unfold trT at h
      split at h
      · split at h
        · split at h
          · rename_i hk
            obtain ⟨i, hi, rfl⟩ := Option.map_eq_some_iff.mp h
            exact pg_nmV ok (.inl hk) hi
          · rename_i hk
            obtain ⟨i, hi, rfl⟩ := Option.map_eq_some_iff.mp h
            exact pg_nmV ok (.inr hk) hi
          · cases h
        · cases h
      · obtain ⟨ts, hts, rfl⟩ := Option.map_eq_some_iff.mp h
        obtain ⟨g, hl, hf⟩ := ih2 _ _ hts
        refine ⟨fun pins s σ H v u Q I r ⟨F, ρ, S, P, y, ρ', e, c, hm, ht, q⟩ => (pg_tup ok.calm g hl hf).run pins s σ H v u Q I r ?_⟩
        unfold tgV at ht
        cases y with
        | tup xs =>
          obtain ⟨a, ys, rfl, sq, hxy, c2⟩ := c.tup hm
          have hlen : ∀ (ts : List Tg) (xs : List Val) (ρ ρ' : Env) (S S' : Sto), tgsV ts xs ρ S = .ok ρ' S' → ts.length = xs.length := by
            intro ts
            induction ts with
            | nil =>
              intro xs ρ ρ' S S' q
              cases xs with
              | nil => rfl
              | cons _ _ => unfold tgsV at q; exact (stop_ok q).elim
            | cons t ts ih =>
              intro xs ρ ρ' S S' q
              cases xs with
              | nil => unfold tgsV at q; exact (stop_ok q).elim
              | cons y ys =>
                unfold tgsV at q
                obtain ⟨ρ1, S1, h1, h2⟩ := bnd_ok q
                simp [ih _ _ _ _ _ h2]
          have hl2 := hlen _ _ _ _ _ _ ht
          refine ⟨a, ys, rfl, sq, by omega, F, ρ, S, _, xs, ρ', e.app, c2, hxy, zip_mem, ht, fun σ' P' hp he hc hw => q σ' P' (fun p h => hp p (List.mem_append_right _ h)) he hc fun vs hv => hw vs (fun i hi => hv i (by unfold slotsT; exact hi))⟩
        | _ => exact (stop_ok ht).elim
      · cases h
    · cases es with
      | nil =>
        unfold trT.trTs at h
        cases h
        refine ⟨⟨fun pins s σ H vs us Q I r ⟨F, ρ, S, P, xs, ρ', e, c, hl, hm, ht, q⟩ => pgs_nil.run pins s σ H vs us Q I r ?_⟩, rfl, rfl⟩
        cases xs with
        | nil =>
          unfold tgsV at ht
          obtain ⟨rfl, _⟩ := ret_ok ht
          refine ⟨?_, q σ P (fun _ h => h) e c fun _ _ => rfl⟩
          cases vs with
          | nil => rfl
          | cons _ _ => simp at hl
        | cons _ _ => unfold tgsV at ht; exact (stop_ok ht).elim
      | cons e0 es =>
        unfold trT.trTs at h
        split at h
        · rename_i t1 ts1 h1 h2
          cases h
          obtain ⟨g, hl, hf⟩ := ih2 _ _ h2
          have hst := trT_star h1
          refine ⟨⟨fun pins s σ H vs us Q I r ⟨F, ρ, S, P, xs, ρ', e, c, hlx, hm, ht, q⟩ => (pgs_cons (ih1 _ _ h1) g (by rw [assignEach_cons hst]; rfl)).run pins s σ H vs us Q I r ?_⟩, by rw [assignEach_cons hst]; simp [hl], by rw [assignEach_cons hst]; simp [List.findIdx?_cons, hf]⟩
          cases xs with
          | nil => unfold tgsV at ht; exact (stop_ok ht).elim
          | cons y ys =>
            unfold tgsV at ht
            obtain ⟨ρ1, S1, k1, k2⟩ := bnd_ok ht
            have e1 := tgV_st.1 _ _ _ _ _ _ k1
            subst e1
            cases vs with
            | nil => simp at hlx
            | cons w ws =>
              refine ⟨w, ws, rfl, F, ρ, S1, P, y, ρ1, e, c, hm _ (by simp), k1, fun σ1 P1 hp1 he1 hc1 hw1 => ?_⟩
              refine ⟨F, ρ1, S1, P1, ys, ρ', he1, hc1, by simpa using hlx, fun p hp => hp1 _ (hm _ (by simp [hp])), k2, fun σ2 P2 hp2 he2 hc2 hw2 => ?_⟩
              refine q σ2 P2 (fun p h => hp2 p (hp1 p h)) he2 hc2 fun vs hv => ?_
              rw [hw2 vs (fun i hi => hv i (by unfold slotsTs; exact List.mem_append_right _ hi)), hw1 vs (fun i hi => hv i (by unfold slotsTs; exact List.mem_append_left _ hi))]
        · cases h
theorem own_slots {Γ : TC} : ∀ n, (∀ e t, trT n Γ e = some t → ∀ m, n ≤ m → (ownT m Γ e).map (·.2) = slotsT t) ∧ (∀ es ts, trT.trTs n Γ es = some ts → ∀ m, n ≤ m → (es.flatMap (ownT m Γ)).map (·.2) = slotsTs ts)
  | 0 => ⟨fun e t h => by simp [trT] at h, fun es ts h => by simp [trT.trTs] at h⟩
  | n + 1 => by
    obtain ⟨ih1, ih2⟩ := own_slots (Γ := Γ) n
    refine ⟨fun e t h m hm => ?_, fun es ts h m hm => ?_⟩
    · obtain ⟨m', rfl⟩ : ∃ m', m = m' + 1 := ⟨m - 1, by omega⟩
      unfold trT at h
      split at h
      · split at h
        · split at h
          · obtain ⟨i, hi, rfl⟩ := Option.map_eq_some_iff.mp h
            simp [ownT, hi, slotsT]
          · obtain ⟨i, hi, rfl⟩ := Option.map_eq_some_iff.mp h
            simp [ownT, hi, slotsT]
          · cases h
        · cases h
      · obtain ⟨ts, hts, rfl⟩ := Option.map_eq_some_iff.mp h
        have := ih2 _ _ hts m' (by omega)
        simpa [ownT, slotsT] using this
      · cases h
    · cases es with
      | nil =>
        unfold trT.trTs at h
        cases h
        rfl
      | cons e0 es =>
        unfold trT.trTs at h
        split at h
        · rename_i t1 ts1 h1 h2
          cases h
          rw [List.flatMap_cons, List.map_append, ih1 _ _ h1 m (by omega), ih2 _ _ h2 m (by omega)]
          rfl
        · cases h
theorem tgV_agree : ∀ n : Nat, (∀ (t : Tg) (x : Val) (ρ ρ2 ρ' : Env) (S : Sto) (A : List Nat), sizeOf t ≤ n → ρ.length = ρ2.length → (∀ j, j ∉ A → ρ[j]? = ρ2[j]?) → tgV t x ρ S = .ok ρ' S →
      ∃ ρ2', tgV t x ρ2 S = .ok ρ2' S ∧ ρ'.length = ρ2'.length ∧ ∀ j, (j ∉ A ∨ j ∈ slotsT t) → ρ'[j]? = ρ2'[j]?) ∧
    (∀ (ts : List Tg) (xs : List Val) (ρ ρ2 ρ' : Env) (S : Sto) (A : List Nat), sizeOf ts ≤ n → ρ.length = ρ2.length → (∀ j, j ∉ A → ρ[j]? = ρ2[j]?) → tgsV ts xs ρ S = .ok ρ' S →
      ∃ ρ2', tgsV ts xs ρ2 S = .ok ρ2' S ∧ ρ'.length = ρ2'.length ∧ ∀ j, (j ∉ A ∨ j ∈ slotsTs ts) → ρ'[j]? = ρ2'[j]?)
  | 0 => by
    refine ⟨fun t x ρ ρ2 ρ' S A h => ?_, fun ts xs ρ ρ2 ρ' S A h => ?_⟩
    · cases t <;> simp at h
    · cases ts <;> simp at h
  | n + 1 => by
    obtain ⟨ih1, ih2⟩ := tgV_agree n
    refine ⟨fun t x ρ ρ2 ρ' S A h hl ha q => ?_, fun ts xs ρ ρ2 ρ' S A h hl ha q => ?_⟩
    · cases t with
      | nm i =>
        unfold tgV at q
        obtain ⟨rfl, _⟩ := ret_ok q
        refine ⟨setE ρ2 i x, by unfold tgV; rfl, by simp [setE, hl], fun j hj => ?_⟩
        unfold setE
        by_cases hij : i = j
        · subst hij
          by_cases hlt : i < ρ.length
          · rw [List.getElem?_set_self hlt, List.getElem?_set_self (by omega)]
          · rw [List.getElem?_eq_none (by simpa using hlt), List.getElem?_eq_none (by simp; omega)]
        · rw [List.getElem?_set_ne hij, List.getElem?_set_ne hij]
          rcases hj with hj | hj
          · exact ha j hj
          · simp [slotsT] at hj; exact absurd hj.symm hij
      | tp ts =>
        unfold tgV at q
        cases x with
        | tup xs =>
          obtain ⟨ρ2', k1, k2, k3⟩ := ih2 ts xs ρ ρ2 ρ' S A (by simp at h; omega) hl ha q
          exact ⟨ρ2', by unfold tgV; exact k1, k2, fun j hj => k3 j (by unfold slotsT at hj; exact hj)⟩
        | _ => exact (stop_ok q).elim
    · cases ts with
      | nil =>
        cases xs with
        | nil =>
          unfold tgsV at q
          obtain ⟨rfl, _⟩ := ret_ok q
          exact ⟨ρ2, by unfold tgsV; rfl, hl, fun j hj => ha j (hj.resolve_right (by simp [slotsTs]))⟩
        | cons _ _ => unfold tgsV at q; exact (stop_ok q).elim
      | cons t ts =>
        cases xs with
        | nil => unfold tgsV at q; exact (stop_ok q).elim
        | cons y ys =>
          unfold tgsV at q
          obtain ⟨ρ1, S1, h1, h2⟩ := bnd_ok q
          have e1 := tgV_st.1 _ _ _ _ _ _ h1
          subst e1
          obtain ⟨ρ3, k1, k2, k3⟩ := ih1 t y ρ ρ2 ρ1 S1 A (by simp at h; omega) hl ha h1
          obtain ⟨ρ4, l1, l2, l3⟩ := ih2 ts ys ρ1 ρ3 ρ' S1 (A.filter fun j => decide (j ∉ slotsT t)) (by simp at h; omega) k2 (fun j hj => k3 j (by
            simp only [List.mem_filter, decide_eq_true_eq, not_and, Decidable.not_not] at hj
            by_cases hA : j ∈ A
            · exact .inr (hj hA)
            · exact .inl hA)) h2
          refine ⟨ρ4, by unfold tgsV; unfold bnd; rw [k1]; exact l1, l2, fun j hj => l3 j ?_⟩
          rcases hj with hj | hj
          · exact .inl (by simp [hj])
          · unfold slotsTs at hj
            rcases List.mem_append.mp hj with hj | hj
            · exact .inl (by simp [hj])
            · exact .inr hj
/-- without the values of some slots -/
theorem wipeE_length (ρ : Env) (vs : List Nat) : (wipeE ρ vs).length = ρ.length := by simp [wipeE]
theorem wipeE_get (ρ : Env) (vs : List Nat) (j : Nat) : (wipeE ρ vs)[j]? = if j ∈ vs then (ρ[j]?).map (fun _ => none) else ρ[j]? := by
  unfold wipeE
  rw [List.getElem?_map, List.getElem?_zipIdx]
  cases ρ[j]? with
  | none => simp
  | some v =>
    by_cases h : j ∈ vs <;> simp [h]
theorem EnvOk.wipe {ρ : Env} {σ : L2.St} {P : List (Val × V)} (e : EnvOk ρ σ P) (vs : List Nat) : EnvOk (wipeE ρ vs) (wipe σ vs) P := by
  refine ⟨by rw [wipeE_length, wipe_length]; exact e.1, fun j v hj => ?_⟩
  rw [wipeE_get] at hj
  by_cases h : j ∈ vs
  · rw [if_pos h] at hj
    obtain ⟨_, _, q⟩ := Option.map_eq_some_iff.mp hj
    cases q
  · rw [if_neg h] at hj
    obtain ⟨w, h1, h2⟩ := e.2 j v hj
    exact ⟨w, by rw [wipe_get, if_neg h]; exact h1, h2⟩
/-- the target's store in a comprehension -/
theorem tgV_wipe {t : Tg} {x : Val} {ρ ρ' : Env} {S : Sto} (h : tgV t x ρ S = .ok ρ' S) : tgV t x (wipeE ρ (slotsT t)) S = .ok ρ' S := by
  obtain ⟨ρ2, k1, k2, k3⟩ := (tgV_agree _).1 t x ρ (wipeE ρ (slotsT t)) ρ' S (slotsT t) (Nat.le_refl _) (wipeE_length _ _).symm (fun j hj => by rw [wipeE_get, if_neg hj]) h
  have : ρ' = ρ2 := by
    apply List.ext_getElem?
    intro j
    by_cases hj : j ∈ slotsT t
    · exact k3 j (.inr hj)
    · exact k3 j (.inl hj)
  rw [this]; exact k1
end
end MP
set_option linter.all false
set_option Elab.async false
set_option maxHeartbeats 1000000
/-! zip of two texts -/
namespace MP
open PySem L2 PySem.Spec PyProof.Rows
/-- the signs of two texts, in new pairs -/
def ItzS (x y : Str) : It :=
  ⟨fun i _ => i < min x.cps.size y.cps.size,
    fun i H v H' => ∃ T c d, v = .ref T ∧ H T = none ∧ H' = upd H T (.tup [.str ⟨#[c]⟩, .str ⟨#[d]⟩]) ∧ x.cps[i]? = some c ∧ y.cps[i]? = some d,
    fun i _ => min x.cps.size y.cps.size ≤ i⟩
abbrev zsFp (z TI TO i1 i2 : Addr) : List Addr := z :: TI :: TO :: ([i1] ++ [i2])
def zsTn (x y : Str) (t1 t2 : Tok) (z TI TO i1 i2 : Addr) (i : Nat) (h : Heap) : Prop := i ≤ min x.cps.size y.cps.size ∧
  IsZip h z TI TO .none ∧ IsTupOf2 h TI (.ref i1) (.ref i2) ∧ (∃ a1 a2, IsTupOf2 h TO a1 a2) ∧ h.IsStrIter i1 (strIterType x) x t1 i ∧ h.IsStrIter i2 (strIterType y) y t2 i
theorem turn_zipS {P : Program} {w : World} {K : PySem.W.Frag} {elts : List Expr} {kk : Nat} {tpos : Pos} {x y : Str} {t1 t2 : Tok} {z TI TO i1 i2 : Addr} (D : ZipSep2 z TI TO i1 i2 [i1] [i2]) :
    Turn P w K (.Tuple elts kk tpos) (ItzS x y) (zsFp z TI TO i1 i2) z (zsTn x y t1 t2 z TI TO i1 i2) where
  mem := by simp
  obj := fun i h st c hc => by
    obtain ⟨_, hz, hTI, ⟨x, y, hTO⟩, ⟨o1, e1, _, d1⟩, ⟨o2, e2, _, d2⟩⟩ := st
    have e' : c = z ∨ c = TI ∨ c = TO ∨ c = i1 ∨ c = i2 := by simpa using hc
    rcases e' with q | q | q | q | q
    · rw [q]; exact ⟨_, hz, fun v q => nomatch q⟩
    · rw [q]; exact ⟨_, hTI, fun v q => nomatch q⟩
    · rw [q]; exact ⟨_, hTO, fun v q => nomatch q⟩
    · rw [q]; exact ⟨o1, e1, fun v q => by rw [d1] at q; cases q⟩
    · rw [q]; exact ⟨o2, e2, fun v q => by rw [d2] at q; cases q⟩
  keep := fun i h h' st k => by
    obtain ⟨hl, hz, hTI, ⟨x, y, hTO⟩, ⟨o1, e1, r1⟩, ⟨o2, e2, r2⟩⟩ := st
    exact ⟨hl, k z (by simp) _ hz, k TI (by simp) _ hTI, ⟨x, y, k TO (by simp) _ hTO⟩, ⟨o1, k i1 (by simp) o1 e1, r1⟩, ⟨o2, k i2 (by simp) o2 e2, r2⟩⟩
  item := by
    intro X hP hw hK hc i pins s σ H E I hf st hg
    subst hP hw hK
    have hh : X.A.in1.handled = none := I.ok.hd hc
    have W := GoesN.zip2 (elts := elts) (x1 := kk) (pos := tpos) D (Draws.text (prog := X.prog) (w := X.w) hh i1 x t1) (Draws.text (prog := X.prog) (w := X.w) hh i2 y t2)
    have lt : ∀ b ∈ zsFp z TI TO i1 i2, b < s.heap.objs.size := fun b hb => by
      obtain ⟨_, hz, hTI, ⟨x, y, hTO⟩, ⟨o1, e1, _, d1⟩, ⟨o2, e2, _, d2⟩⟩ := st
      have e' : b = z ∨ b = TI ∨ b = TO ∨ b = i1 ∨ b = i2 := by simpa using hb
      rcases e' with q | q | q | q | q
      · rw [q]; exact Heap.lt_size hz
      · rw [q]; exact Heap.lt_size hTI
      · rw [q]; exact Heap.lt_size hTO
      · rw [q]; exact Heap.lt_size e1
      · rw [q]; exact Heap.lt_size e2
    refine W.goes i s (fun v s2 => ∃ x' H', Inv X pins σ H' s2 ∧ RelV x' v ∧ (ItzS x y).yld i H x' H' ∧ zsTn x y t1 t2 z TI TO i1 i2 (i + 1) s2.heap ∧ ∀ b ∈ zsFp z TI TO i1 i2, H' b = none) E hg st.2 fun v h' tk hY st' hk htk => ?_
    obtain ⟨T, a, b, rfl, hT, ⟨c, u, hc1, rfl⟩, ⟨d, u', hd1, rfl⟩, hI⟩ := hY
    have new : ObjOk X.prog X.w (upd H T (.tup [.str ⟨#[c]⟩, .str ⟨#[d]⟩])) h' T (.tup [.str ⟨#[c]⟩, .str ⟨#[d]⟩]) :=
      ⟨by show 2 ≤ sizeLine; decide, [.str ⟨#[c]⟩ u, .str ⟨#[d]⟩ u'], .cons ⟨u, rfl⟩ (.cons ⟨u', rfl⟩ .nil), hI⟩
    refine ⟨.ref T, upd H T (.tup [.str ⟨#[c]⟩, .str ⟨#[d]⟩]), I.turnedNew (ch := zsFp z TI TO i1 i2) (fun b o hb e => hk b o (fun hm => hb (W.sub b hm)) e) hf hT new, rfl, ⟨T, c, d, rfl, I.hok.fresh hT, rfl, hc1, hd1⟩, ⟨hg, st'⟩, fun b hb => ?_⟩
    rw [upd_ne (Nat.ne_of_lt (Nat.lt_of_lt_of_le (lt b hb) hT))]
    exact (hf b hb).1
  done := by
    intro X hP hw hK hc i pins s σ H E I hf st hg
    subst hP hw hK
    have hh : X.A.in1.handled = none := I.ok.hd hc
    have W := GoesN.zip2 (elts := elts) (x1 := kk) (pos := tpos) D (Draws.text (prog := X.prog) (w := X.w) hh i1 x t1) (Draws.text (prog := X.prog) (w := X.w) hh i2 y t2)
    have e : i = min x.cps.size y.cps.size := Nat.le_antisymm st.1 hg
    subst e
    exact W.stops s _ E st.2 fun h' tk hk htk => I.turnedL (ch := zsFp z TI TO i1 i2) (fun b o hb e => hk b o (fun hm => hb (W.sub b hm)) e) hf
  self := fun A i s Q E st h => wpAny_pyIter_zip st.2.1 h
def iZipS (ta : TA) : TI := fun σ H R => ta σ H fun vs H1 => ∃ x y, vs = [.str x, .str y] ∧ R (ItzS x y) H1
theorem pi_zipS {X : Cx} {e e2 : Expr} {ta : TA} {p pos tpos : Pos} {elts : List Expr} {kk : Nat} (hg : Gl X "zip") (hm : X.mg "zip" = none) (ha : PA X [e, e2] ta)
    (hs : starEach [e, e2] X.env = (false, eval e X.env) :: starEach [e2] X.env := by rfl) (hpl : (backTo pos (starEach [e2] X.env)).any (·.1) = false := by rfl) :
    PI X (.Tuple elts kk tpos) (.Call (.Name "zip" p) [e, e2] [] pos) (iZipS ta) := by
  refine ⟨fun pins s σ H R I h => ?_⟩
  refine Call_ (ld_blt I hg hm PyProof.Rows.boot_zip (PyProof.Rows.callWith_type1 (thn (ha.run pos pins s σ H _ I h) fun us s1 ⟨vs, H1, I1, r1, x, y, ex, q⟩ => ?_) hs hpl))
  subst ex
  obtain ⟨u, rr, rfl, r, r2⟩ : ∃ u rr, us = u :: rr ∧ RelV (.str x) u ∧ Vals [.str y] rr := by cases r1 with | cons a b => exact ⟨_, _, rfl, a, b⟩
  obtain ⟨u', rfl, r'⟩ := r2.one
  obtain ⟨t1, rfl⟩ := r
  obtain ⟨t2, rfl⟩ := r'
  refine zip_begins2 (begins_text x t1) (begins_text y t2) trivial trivial fun h' hz hTI hTO g1 g2 hsz hk => wpAny_pyIter_zip hz ?_
  have I2 : Inv X pins σ H1 { s1 with heap := h' } := I1.kept (t' := s1.toks) hk
  have S := zip_sep2 (N := s1.heap.objs.size) (fp1 := []) (fp2 := []) (fun _ hb => by cases hb) (fun _ hb => by cases hb)
  refine ⟨s1.heap.objs.size + 4, zsFp (s1.heap.objs.size + 4) (s1.heap.objs.size + 2) (s1.heap.objs.size + 3) s1.heap.objs.size (s1.heap.objs.size + 1), _, _, H1, rfl, I2, turn_zipS (x := x) (y := y) (t1 := t1) (t2 := t2) S, ⟨Nat.zero_le _, hz, hTI, ⟨_, _, hTO⟩, ⟨_, g1, rfl, rfl⟩, ⟨_, g2, rfl, rfl⟩⟩, fun b hb => ?_, q⟩
  have low : s1.heap.objs.size ≤ b := by
    have e' : b = s1.heap.objs.size + 4 ∨ b = s1.heap.objs.size + 2 ∨ b = s1.heap.objs.size + 3 ∨ b = s1.heap.objs.size ∨ b = s1.heap.objs.size + 1 := by simpa using hb
    rcases e' with q | q | q | q | q
    · rw [q]; exact Nat.le_add_right _ _
    · rw [q]; exact Nat.le_add_right _ _
    · rw [q]; exact Nat.le_add_right _ _
    · rw [q]; exact Nat.le_refl _
    · rw [q]; exact Nat.le_add_right _ _
  obtain ⟨a1, a2, a3, a4, a5, a6⟩ := I1.fpOk low (I1.hok.fresh low)
  exact ⟨a1, a2, a3, a4, a5, a6⟩
end MP
set_option linter.all false
set_option Elab.async false
set_option maxHeartbeats 1000000
namespace MP
open PySem L2 PySem.Spec PyProof.Rows
section
variable (K : PySem.W.Frag) (FV : Glo) (φ : Nat → List Val → M Val)
/-- what is walked yields the items, one behind the other -/
structure WalkOk (J : It) (gs : List (Nat × Ob)) (xs : List Val) (hold : List (Val × V)) (fr : Fm) : Prop where
  item : ∀ F S H P i x, (∀ p ∈ fr, p ∈ F) → xs[i]? = some x → Ctx K FV F S H (hold ++ P) → stays gs S → J.go i H ∧ ∀ w H', J.yld i H w H' → Ctx K FV F S H' ((x, w) :: hold ++ P)
  done : ∀ F S H P, (∀ p ∈ fr, p ∈ F) → Ctx K FV F S H (hold ++ P) → stays gs S → J.stop xs.length H
/-- what was locked for the walk -/
def ThOk (H0 : Hp) (F : Fm) (hold : List (Val × V)) : Option Nat → Prop
  | none => True
  | some i => ∃ a, (Val.ref i, V.ref a) ∈ hold ∧ (∀ o u, H0 a ≠ some (.frz o u)) ∧ ∀ p ∈ F, p.1 ≠ a
/-- wanted, or wanted behind an unlocking -/
def Unl (H0 : Hp) (Q : Hp → Prop) (H : Hp) : Prop := Q H ∨ ∃ d od u, H d = some (.frz od u) ∧ (∀ o x, H0 d ≠ some (.frz o x)) ∧ Q (upd H d u)
end
def RI (X : Cx) (FV : Glo) (φ : Nat → List Val → M Val) (it : IT) : TI := fun σ H R => ∃ F ρ S P p S', EnvOk ρ σ P ∧ Ctx X.K FV F S H P ∧ meanI φ it ρ S = .ok p S' ∧ ∀ J H' hold fr, ThOk X.H_0 F hold p.th → WalkOk X.K FV J p.gs p.xs hold fr → Ctx X.K FV (fr ++ F) S' H' (hold ++ P) → R J H'
section
variable {X : Cx} {FV : Glo} {φ : Nat → List Val → M Val}
theorem Unl.mono {H0 : Hp} {Q Q' : Hp → Prop} {H : Hp} (h : Unl H0 Q H) (m : ∀ H, Q H → Q' H) : Unl H0 Q' H := by
  rcases h with h | ⟨d, od, u, h1, h2, h3⟩
  · exact .inl (m _ h)
  · exact .inr ⟨d, od, u, h1, h2, m _ h3⟩
theorem Inv.unl {pins : List (Addr × Obj)} {σ : L2.St} {H : Hp} {s : Shared} {Q : Hp → Prop} (I : Inv X pins σ H s) (h : Unl X.H_0 Q H) : ∃ H', Inv X pins σ H' s ∧ Q H' := by
  rcases h with h | ⟨d, od, u, h1, h2, h3⟩
  · exact ⟨H, I, h⟩
  · exact ⟨_, I.unlock h1 h2, h3⟩
theorem ps_unl {st : Stmt} {t : TS} (h : PS X st t) : PS X st fun D σ H => t ⟨fun σ' => Unl X.H_0 (D.nx σ'), fun v => Unl X.H_0 (D.rt v), fun σ' => Unl X.H_0 (D.bk σ'), fun σ' => Unl X.H_0 (D.ct σ')⟩ σ H := by
  refine ⟨fun pins s σ H D I hw => thn (h.run pins s σ _ _ I hw) fun f s1 q => ?_⟩
  cases f with
  | next => obtain ⟨σ', H', I2, q⟩ := q; obtain ⟨H3, I3, q⟩ := Inv.unl I2 q; exact ⟨σ', _, I3, q⟩
  | brk => obtain ⟨σ', H', I2, q⟩ := q; obtain ⟨H3, I3, q⟩ := Inv.unl I2 q; exact ⟨σ', _, I3, q⟩
  | cont => obtain ⟨σ', H', I2, q⟩ := q; obtain ⟨H3, I3, q⟩ := Inv.unl I2 q; exact ⟨σ', _, I3, q⟩
  | ret v => obtain ⟨x, σ', H', I2, r, q⟩ := q; obtain ⟨H3, I3, q⟩ := Inv.unl I2 q; exact ⟨x, σ', _, I3, r, q⟩
theorem pe_unl {e : Expr} {t : TE} (h : PE X e t) : PE X e fun σ H Q => t σ H fun v => Unl X.H_0 (Q v) := by
  refine ⟨fun pins s σ H Q I hw => thn (h.run pins s σ _ _ I hw) fun v s1 ⟨x, H1, I2, r, q⟩ => ?_⟩
  obtain ⟨H3, I3, q⟩ := Inv.unl I2 q
  exact ⟨x, _, I3, r, q⟩
theorem Ctx.thawed {H0 : Hp} {F fr : Fm} {S S' : Sto} {H : Hp} {hold P : List (Val × V)} {th : Option Nat} {u : Unit} (ht : ThOk H0 F hold th) (c : Ctx X.K FV (fr ++ F) S H (hold ++ P)) (hm : thaw th S = .ok u S') : Unl H0 (fun H' => Ctx X.K FV F S' H' P) H := by
  have c1 : Ctx X.K FV F S H (hold ++ P) := c.frameDropL
  have sb : ∀ p ∈ P, p ∈ hold ++ P := fun p h => List.mem_append_right _ h
  unfold thaw at hm
  cases th with
  | none => cases hm; exact .inl (c1.sub sb)
  | some i =>
    obtain ⟨a, hr, hn, hF⟩ := ht
    simp only at hm
    split at hm
    · rename_i kvs hs
      cases hm
      obtain ⟨a', od, T, e, rfl, h1, h2, h3, h4, c2⟩ := c1.fdc (w := .ref a) (List.mem_append_left _ hr) hs
      cases e
      refine .inr ⟨a, od, _, h1, hn, ?_⟩
      exact (c2.freeD (List.mem_append_right _ (List.mem_append_left _ hr)) hF hs h2 h3 h4 fun t ht q hq => List.mem_append_left _ (List.mem_flatMap.mpr ⟨t, ht, hq⟩)).sub fun p hp => List.mem_append_right _ (sb p hp)
    · cases hm
theorem walk_list {a : Addr} {r : Nat} {xs : List Val} {o : Ob} (ho : o = .lst xs ∨ o = .rol xs) : WalkOk X.K FV (Itl X.K a) [(r, o)] xs [(.ref r, .ref a)] [] := by
  have get : ∀ {F S H P}, Ctx X.K FV F S H ([(.ref r, .ref a)] ++ P) → stays [(r, o)] S → ∃ ys, SqL X.K H a ys ∧ xs.length = ys.length ∧ Ctx X.K FV F S H (xs.zip ys ++ ([(.ref r, .ref a)] ++ P)) := fun {F S H P} c st => by
    have hs := st (r, o) (by simp)
    rcases ho with rfl | rfl
    · obtain ⟨a', ys, e, h1, h2, h3⟩ := c.lst (w := .ref a) (by simp) hs
      cases e
      exact ⟨ys, SqL.of h1, h2, h3⟩
    · obtain ⟨a', ys, e, h1, h2, h3⟩ := c.rol (w := .ref a) (by simp) hs
      cases e
      exact ⟨ys, h1, h2, h3⟩
  refine ⟨fun F S H P i x _ hx c st => ?_, fun F S H P _ c st => ?_⟩
  · obtain ⟨ys, h1, h2, h3⟩ := get c st
    have hi : i < ys.length := by rw [← h2]; exact (List.getElem?_eq_some_iff.mp hx).1
    refine ⟨⟨ys, ys[i], h1, List.getElem?_eq_getElem hi⟩, fun w H' ⟨e, hw⟩ => ?_⟩
    subst e
    have e2 := hw ys h1
    refine h3.sub fun p hp => ?_
    rcases List.mem_cons.mp hp with rfl | hp
    · refine List.mem_append_left _ ?_
      refine List.mem_iff_getElem?.mpr ⟨i, ?_⟩
      rw [List.getElem?_zip_eq_some]
      exact ⟨hx, e2⟩
    · exact List.mem_append_right _ hp
  · obtain ⟨ys, h1, h2, _⟩ := get c st
    exact ⟨ys, h1, by omega⟩
theorem walk_tup {a : Addr} {xs : List Val} : WalkOk X.K FV (Itt X.K a) [] xs [(.tup xs, .ref a)] [] := by
  refine ⟨fun F S H P i x _ hx c st => ?_, fun F S H P _ c st => ?_⟩
  · obtain ⟨a', ys, e, h1, h2, h3⟩ := c.tup (xs := xs) (w := .ref a) (by simp)
    cases e
    have hi : i < ys.length := by rw [← h2]; exact (List.getElem?_eq_some_iff.mp hx).1
    refine ⟨⟨ys, ys[i], h1, List.getElem?_eq_getElem hi⟩, fun w H' ⟨e, hw⟩ => ?_⟩
    subst e
    have e2 := hw ys h1
    refine h3.sub fun p hp => ?_
    rcases List.mem_cons.mp hp with rfl | hp
    · refine List.mem_append_left _ ?_
      refine List.mem_iff_getElem?.mpr ⟨i, ?_⟩
      rw [List.getElem?_zip_eq_some]
      exact ⟨hx, e2⟩
    · exact List.mem_append_right _ hp
  · obtain ⟨a', ys, e, h1, h2, h3⟩ := c.tup (xs := xs) (w := .ref a) (by simp)
    cases e
    exact ⟨ys, h1, by omega⟩
theorem walk_str {cs : Tx} : WalkOk X.K FV (Its (stx cs)) [] (cs.map fun c => Val.str [c]) [] [] := by
  refine ⟨fun F S H P i x _ hx c st => ?_, fun F S H P _ c st => ?_⟩
  · rw [List.getElem?_map] at hx
    obtain ⟨d, hd, rfl⟩ := Option.map_eq_some_iff.mp hx
    have hi : i < cs.length := (List.getElem?_eq_some_iff.mp hd).1
    refine ⟨by show i < (stx cs).cps.size; simpa [stx] using hi, fun w H' ⟨e, c', hc', hw⟩ => ?_⟩
    subst e; subst hw
    have e2 : c' = d := by
      have : (stx cs).cps[i]? = cs[i]? := by simp [stx]
      rw [this, hd] at hc'
      exact (Option.some.inj hc').symm
    subst e2
    exact c.addStr [c']
  · show (stx cs).cps.size ≤ _
    simp [stx]
theorem walk_rng {lo : Int} {n : Nat} : WalkOk X.K FV (Itr lo n) [] ((List.range n).map fun (k : Nat) => Val.int (lo + (k : Int))) [] [] := by
  refine ⟨fun F S H P i x _ hx c st => ?_, fun F S H P _ c st => ?_⟩
  · rw [List.getElem?_map] at hx
    obtain ⟨d, hd, rfl⟩ := Option.map_eq_some_iff.mp hx
    obtain ⟨hi, e⟩ := List.getElem?_eq_some_iff.mp hd
    simp at hi e
    subst e
    refine ⟨hi, fun w H' ⟨e, hw⟩ => ?_⟩
    subst e; subst hw
    exact c.addInt _
  · show n ≤ _
    simp
theorem newPair {F : Fm} {S : Sto} {H : Hp} {P : List (Val × V)} (c : Ctx X.K FV F S H P) {x y : Val} {w w' : V} {T : Addr} (hT : H T = none) (hx : (x, w) ∈ P) (hy : (y, w') ∈ P) : Ctx X.K FV F S (upd H T (.tup [w, w'])) ((.tup [x, y], .ref T) :: P) :=
  c.newTup hT rfl fun q hq => by
    simp at hq
    rcases hq with rfl | rfl
    · exact hx
    · exact hy
end
/-! ### a dict walked -/
/-- by its keys, by its values -/
def Itdk (d : Addr) (o : Obj) (u : HO) (ws : List V) : It := ⟨fun i H => H d = some (.frz o u) ∧ i < ws.length, fun i H x H' => H' = H ∧ ws[i]? = some x, fun i H => H d = some (.frz o u) ∧ ws.length ≤ i⟩
/-- by its pairs -/
def Itdi (d : Addr) (o : Obj) (u : HO) (ws : List (V × V)) : It := ⟨fun i H => H d = some (.frz o u) ∧ i < ws.length, fun i H x H' => ∃ T p, ws[i]? = some p ∧ x = .ref T ∧ H T = none ∧ H' = upd H T (.tup [p.1, p.2]), fun i H => H d = some (.frz o u) ∧ ws.length ≤ i⟩
theorem frz_raw {X : Cx} {pins : List (Addr × Obj)} {σ : L2.St} {H : Hp} {s : Shared} {d : Addr} {o : Obj} {w : World} {xs : List NE} (I : Inv X pins σ H s) (h : H d = some (.frz o (dctO w d xs))) :
    (d == sysModules) = false ∧ s.heap.get? d = some o ∧ o.ExactDict ∧ ∃ (es : Array DictEntry) (ep : Nat), o.data = .dict es ep ∧ es.toList = xs.map (entN w) := by
  obtain ⟨hd, ⟨z, o', es, ep, ho, hx, hdt, he⟩, _⟩ := I.hok d _ h
  rw [hd] at ho; cases ho
  exact ⟨z, hd, hx, es, ep, hdt, he⟩
theorem ent_get {es : Array DictEntry} {T : List DE} {w : World} (he : es.toList = (T.map DE.ne).map (entN w)) {i : Nat} (hi : i < es.size) : ∃ t, T[i]? = some t ∧ es[i].key = t.ku ∧ es[i].val = t.vu := by
  have h1 : es.toList[i]? = some es[i] := by simp [hi]
  rw [he, List.map_map, List.getElem?_map] at h1
  obtain ⟨t, ht, e⟩ := Option.map_eq_some_iff.mp h1
  exact ⟨t, ht, by rw [← e]; rfl, by rw [← e]; rfl⟩
theorem ent_len {es : Array DictEntry} {T : List DE} {w : World} (he : es.toList = (T.map DE.ne).map (entN w)) : T.length = es.size := by
  have := congrArg List.length he
  simpa using this.symm
section
variable {Pg : Program} {w : World} {K : PySem.W.Frag} {tg : Expr} {d : Addr} {o : Obj} {es : Array DictEntry} {ep : Nat} {w' : World} {T : List DE}
theorem turn_dk (it : Addr) (hod : o.data = .dict es ep) (ok : ∀ t ∈ T, t.Ok) : Turn Pg w K tg (Itdk d o (dctO w' d (T.map DE.ne)) (T.map DE.kw)) [it] it (fun i h => h.IsKeyIter it d i T.length ep) where
  mem := by simp
  obj := fun i h st b hb => by
    have e : b = it := by simpa using hb
    subst e
    obtain ⟨oi, e, c, dd⟩ := st
    exact ⟨oi, e, fun v z => by rw [dd] at z; cases z⟩
  keep := fun i h h' st k => st.at fun oi e => k it (by simp) oi e
  item := by
    intro X hP hw hK hc i pins s σ H E I hf st hg
    subst hP hw hK
    obtain ⟨hd, hi⟩ := hg
    obtain ⟨f0, f1, f2, f3, f4, f5⟩ := hf it (by simp)
    obtain ⟨hs, hgd, hx, es', ep', hdt, he⟩ := frz_raw I hd
    obtain ⟨rfl, rfl⟩ := dict_ep hod hdt
    have hl := ent_len he
    have hi2 : i < es'.size := by rw [List.length_map] at hi; omega
    obtain ⟨t, ht, hk, _⟩ := ent_get he hi2
    rw [hl] at st
    refine wpAny_pyNext_keys_item_raw st ⟨o, hgd, hx, hdt⟩ hi2 fun h' st' sb => ?_
    have I1 : Inv X pins σ H { s with heap := h' } := I.turned (t' := s.toks) (fun b ob hb e => (sb.2 b hb).trans e) f0 f1 f3 f4 f5
    obtain ⟨oi, e, c, dd⟩ := id st'
    refine ⟨_, rfl, go_of (s := { s with heap := h' }) e c dd (by decide) ⟨t.kw, H, I1, ?_, ⟨rfl, by rw [List.getElem?_map, ht]; rfl⟩, ?_, fun b hb => (hf b hb).1⟩⟩
    · rw [hk]; exact (ok t (List.mem_of_getElem? ht)).rk
    · show h'.IsKeyIter it d (i + 1) T.length _
      rw [hl]
      exact st'
  done := by
    intro X hP hw hK hc i pins s σ H E I hf st hg
    subst hP hw hK
    obtain ⟨hd, hi⟩ := hg
    obtain ⟨f0, f1, f2, f3, f4, f5⟩ := hf it (by simp)
    obtain ⟨hs, hgd, hx, es', ep', hdt, he⟩ := frz_raw I hd
    obtain ⟨rfl, rfl⟩ := dict_ep hod hdt
    have hl := ent_len he
    rw [hl] at st
    exact wpAny_pyNext_keys_end_raw (I.ok.hd hc) st ⟨o, hgd, hx, hdt⟩ (by rw [List.length_map] at hi; omega) fun h' eb => ⟨rfl, I.turned (t' := s.toks) (fun b ob hb e => eb b ob hb e) f0 f1 f3 f4 f5⟩
  self := fun A i s Q E st h => wpAny_pyIter_keyiter st h
theorem turn_dv (it : Addr) (hod : o.data = .dict es ep) (ok : ∀ t ∈ T, t.Ok) : Turn Pg w K tg (Itdk d o (dctO w' d (T.map DE.ne)) (T.map DE.vw)) [it] it (fun i h => h.IsValIter it d i T.length ep) where
  mem := by simp
  obj := fun i h st b hb => by
    have e : b = it := by simpa using hb
    subst e
    obtain ⟨oi, e, c, dd⟩ := st
    exact ⟨oi, e, fun v z => by rw [dd] at z; cases z⟩
  keep := fun i h h' st k => st.at fun oi e => k it (by simp) oi e
  item := by
    intro X hP hw hK hc i pins s σ H E I hf st hg
    subst hP hw hK
    obtain ⟨hd, hi⟩ := hg
    obtain ⟨f0, f1, f2, f3, f4, f5⟩ := hf it (by simp)
    obtain ⟨hs, hgd, hx, es', ep', hdt, he⟩ := frz_raw I hd
    obtain ⟨rfl, rfl⟩ := dict_ep hod hdt
    have hl := ent_len he
    have hi2 : i < es'.size := by rw [List.length_map] at hi; omega
    obtain ⟨t, ht, _, hk⟩ := ent_get he hi2
    rw [hl] at st
    refine wpAny_pyNext_values_item_raw st ⟨o, hgd, hx, hdt⟩ hi2 fun h' st' sb => ?_
    have I1 : Inv X pins σ H { s with heap := h' } := I.turned (t' := s.toks) (fun b ob hb e => (sb.2 b hb).trans e) f0 f1 f3 f4 f5
    obtain ⟨oi, e, c, dd⟩ := id st'
    refine ⟨_, rfl, go_of (s := { s with heap := h' }) e c dd (by decide) ⟨t.vw, H, I1, ?_, ⟨rfl, by rw [List.getElem?_map, ht]; rfl⟩, ?_, fun b hb => (hf b hb).1⟩⟩
    · rw [hk]; exact (ok t (List.mem_of_getElem? ht)).rv
    · show h'.IsValIter it d (i + 1) T.length _
      rw [hl]
      exact st'
  done := by
    intro X hP hw hK hc i pins s σ H E I hf st hg
    subst hP hw hK
    obtain ⟨hd, hi⟩ := hg
    obtain ⟨f0, f1, f2, f3, f4, f5⟩ := hf it (by simp)
    obtain ⟨hs, hgd, hx, es', ep', hdt, he⟩ := frz_raw I hd
    obtain ⟨rfl, rfl⟩ := dict_ep hod hdt
    have hl := ent_len he
    rw [hl] at st
    exact wpAny_pyNext_values_end_raw (I.ok.hd hc) st ⟨o, hgd, hx, hdt⟩ (by rw [List.length_map] at hi; omega) fun h' eb => ⟨rfl, I.turned (t' := s.toks) (fun b ob hb e => eb b ob hb e) f0 f1 f3 f4 f5⟩
  self := fun A i s Q E st h => wpAny_pyIter_valiter st h
theorem turn_di {elts : List Expr} {kk : Nat} {tpos : Pos} (it : Addr) (hod : o.data = .dict es ep) (ok : ∀ t ∈ T, t.Ok) :
    Turn Pg w K (.Tuple elts kk tpos) (Itdi d o (dctO w' d (T.map DE.ne)) (T.map fun t => (t.kw, t.vw))) [it] it (fun i h => ∃ ok ov, IsItemIter h it d i T.length ep ok ov) where
  mem := by simp
  obj := fun i h st b hb => by
    have e : b = it := by simpa using hb
    subst e
    obtain ⟨ok, ov, e⟩ := st
    exact ⟨_, e, fun v z => nomatch z⟩
  keep := fun i h h' st k => let ⟨ok, ov, e⟩ := st; ⟨ok, ov, k it (by simp) _ e⟩
  item := by
    intro X hP hw hK hc i pins s σ H E I hf st hg
    subst hP hw hK
    obtain ⟨hd, hi⟩ := hg
    obtain ⟨hs, hgd, hx, es', ep', hdt, hE⟩ := frz_raw I hd
    obtain ⟨rfl, rfl⟩ := dict_ep hod hdt
    have hl := ent_len hE
    have hi2 : i < es'.size := by rw [List.length_map] at hi; omega
    obtain ⟨t, ht, hk1, hk2⟩ := ent_get hE hi2
    obtain ⟨ok1, ov, he⟩ := st
    rw [hl] at he
    have hlt : it < s.heap.objs.size := Heap.lt_size he
    refine wpAny_pyNext_items_item_raw he ⟨o, hgd, hx, hdt⟩ hi2 fun h' ho hT hz hk => ?_
    refine ⟨_, rfl, wpAny_letOwnedTupleGo_items (s := { s with heap := h' }) ho fun h'' he' sb => ?_⟩
    have hT2 : h''.get? s.heap.objs.size = some { cls := .type "tuple", data := .seq #[es'[i].key, es'[i].val] } := (sb.2 _ (Nat.ne_of_gt hlt)).trans hT
    rw [hk1, hk2] at hT2
    have tok := ok t (List.mem_of_getElem? ht)
    have new : ObjOk X.prog X.w (upd H s.heap.objs.size (.tup [t.kw, t.vw])) h'' s.heap.objs.size (.tup [t.kw, t.vw]) :=
      ⟨by show 2 ≤ sizeLine; decide, [t.ku, t.vu], .cons tok.rk (.cons tok.rv .nil), ⟨_, hT2, rfl, _, rfl⟩⟩
    have I1 : Inv X pins σ (upd H s.heap.objs.size (.tup [t.kw, t.vw])) { s with heap := h'' } :=
      I.turnedNew (t' := s.toks) (ch := [it]) (fun b ob hb e => (sb.2 b (by simpa using hb)).trans (hk b ob (by simpa using hb) e)) hf (Nat.le_refl _) new
    refine ⟨.ref s.heap.objs.size, _, I1, rfl, ⟨_, (t.kw, t.vw), by rw [List.getElem?_map, ht]; rfl, rfl, I.hok.fresh (Nat.le_refl _), rfl⟩, ⟨es'[i].key, es'[i].val, ?_⟩, fun b hb => ?_⟩
    · rw [hl]; exact he'
    · have e : b = it := by simpa using hb
      rw [e, upd_ne (Nat.ne_of_lt hlt)]
      exact (hf it (by simp)).1
  done := by
    intro X hP hw hK hc i pins s σ H E I hf st hg
    subst hP hw hK
    obtain ⟨hd, hi⟩ := hg
    obtain ⟨f0, f1, f2, f3, f4, f5⟩ := hf it (by simp)
    obtain ⟨hs, hgd, hx, es', ep', hdt, hE⟩ := frz_raw I hd
    obtain ⟨rfl, rfl⟩ := dict_ep hod hdt
    have hl := ent_len hE
    obtain ⟨ok1, ov, he⟩ := st
    rw [hl] at he
    exact wpAny_pyNext_items_end_raw (I.ok.hd hc) he ⟨o, hgd, hx, hdt⟩ (by rw [List.length_map] at hi; omega) fun h' eb => ⟨rfl, I.turned (t' := s.toks) (fun b ob hb e => eb b ob hb e) f0 f1 f3 f4 f5⟩
  self := fun A i s Q E st h => let ⟨_, _, e⟩ := st; PySem.W.kcp_self e h
end
section
variable {X : Cx} {FV : Glo} {φ : Nat → List Val → M Val}
theorem walk_dk {a : Addr} {od : Obj} {u : HO} {T : List DE} {gs : List (Nat × Ob)} {f : Val × Val → Val} {g : DE → V} {hold : List (Val × V)} (hh : ∀ t ∈ T, (f t.kv, g t) ∈ hold) : WalkOk X.K FV (Itdk a od u (T.map g)) gs ((T.map DE.kv).map f) hold [(a, .frz od u)] := by
  refine ⟨fun F S H P i x hF hx c st => ?_, fun F S H P hF c st => ?_⟩
  · rw [List.map_map, List.getElem?_map] at hx
    obtain ⟨t, ht, rfl⟩ := Option.map_eq_some_iff.mp hx
    have hi := (List.getElem?_eq_some_iff.mp ht).1
    have hfr : H a = some (.frz od u) := by
      obtain ⟨loc, c⟩ := c
      exact (c.frm _ (hF _ List.mem_cons_self)).1
    refine ⟨⟨hfr, by rw [List.length_map]; exact hi⟩, fun w H' ⟨e, hw⟩ => ?_⟩
    subst e
    rw [List.getElem?_map, ht] at hw
    cases hw
    refine c.sub fun p hp => ?_
    rcases List.mem_cons.mp hp with rfl | hp
    · exact List.mem_append_left _ (hh t (List.mem_of_getElem? ht))
    · exact hp
  · refine ⟨?_, by simp⟩
    obtain ⟨loc, c⟩ := c
    exact (c.frm _ (hF _ List.mem_cons_self)).1
theorem walk_di {a : Addr} {od : Obj} {u : HO} {T : List DE} {gs : List (Nat × Ob)} {hold : List (Val × V)} (hh : ∀ t ∈ T, ∀ p ∈ t.held, p ∈ hold) : WalkOk X.K FV (Itdi a od u (T.map fun t => (t.kw, t.vw))) gs ((T.map DE.kv).map fun p => .tup [p.1, p.2]) hold [(a, .frz od u)] := by
  refine ⟨fun F S H P i x hF hx c st => ?_, fun F S H P hF c st => ?_⟩
  · rw [List.map_map, List.getElem?_map] at hx
    obtain ⟨t, ht, rfl⟩ := Option.map_eq_some_iff.mp hx
    have hi := (List.getElem?_eq_some_iff.mp ht).1
    have hfr : H a = some (.frz od u) := by
      obtain ⟨loc, c⟩ := c
      exact (c.frm _ (hF _ List.mem_cons_self)).1
    refine ⟨⟨hfr, by rw [List.length_map]; exact hi⟩, fun w H' ⟨Tn, p, hp, e1, e2, e3⟩ => ?_⟩
    subst e1; subst e3
    rw [List.getElem?_map, ht] at hp
    cases hp
    have hm := List.mem_of_getElem? ht
    exact newPair c e2 (List.mem_append_left _ (hh t hm _ List.mem_cons_self)) (List.mem_append_left _ (hh t hm _ (List.mem_cons_of_mem _ List.mem_cons_self)))
  · refine ⟨?_, by simp⟩
    obtain ⟨loc, c⟩ := c
    exact (c.frm _ (hF _ List.mem_cons_self)).1
theorem dct_mut {w : World} {a : Addr} {xs : List NE} : Mut (some (dctO w a xs)) := trivial
/-- the dict is locked, if it is not -/
theorem locked {pins : List (Addr × Obj)} {σ : L2.St} {H : Hp} {s : Shared} {F : Fm} {S S' : Sto} {P : List (Val × V)} {r : Nat} {w : V} {f : Val × Val → Val} {p : Wk} (I : Inv X pins σ H s) (c : Ctx X.K FV F S H ((.ref r, w) :: P)) (hm : viewV f (.ref r) S = .ok p S') :
    ∃ (a : Addr) (od : Obj) (T : List DE) (H' : Hp), w = .ref a ∧ Inv X pins σ H' s ∧ H' a = some (.frz od (dctO FV.w a (T.map DE.ne))) ∧ (∀ t ∈ T, t.Ok) ∧ p.xs = (T.map DE.kv).map f ∧ ThOk X.H_0 F ((.ref r, .ref a) :: T.flatMap DE.held) p.th ∧
      Ctx X.K FV ([(a, .frz od (dctO FV.w a (T.map DE.ne)))] ++ F) S' H' (((.ref r, .ref a) :: T.flatMap DE.held) ++ P) := by
  unfold viewV at hm
  simp only at hm
  split at hm
  · rename_i kvs hs
    cases hm
    obtain ⟨a, T, rfl, rfl, h1, h2, h3, h4, c2⟩ := c.dct m1 hs
    obtain ⟨od, I2⟩ := I.lock h1 dct_mut
    have hr : (Val.ref r, V.ref a) ∈ T.flatMap DE.held ++ (Val.ref r, V.ref a) :: P := List.mem_append_right _ List.mem_cons_self
    have c3 := c2.lockD hr hs h2 h3 h4 (fun t ht q hq => List.mem_append_left _ (List.mem_flatMap.mpr ⟨t, ht, hq⟩)) od
    have hlt : r < S.length := (List.getElem?_eq_some_iff.mp hs).1
    refine ⟨a, od, T, _, rfl, I2, upd_same, h4, rfl, ⟨a, List.mem_cons_self, I.nofrz h1 dct_mut, c2.frameNot hr hs trivial⟩, (c3.frameLock hr (List.getElem?_set_self hlt) upd_same).sub fun q hq => ?_⟩
    rcases List.mem_append.mp hq with hq | hq
    · rcases List.mem_cons.mp hq with rfl | hq
      · exact hr
      · exact List.mem_append_left _ hq
    · exact List.mem_append_right _ (List.mem_cons_of_mem _ hq)
  · rename_i kvs hs
    cases hm
    obtain ⟨a, od, T, rfl, rfl, h1, h2, h3, h4, c2⟩ := c.fdc m1 hs
    have hr : (Val.ref r, V.ref a) ∈ T.flatMap DE.held ++ (Val.ref r, V.ref a) :: P := List.mem_append_right _ List.mem_cons_self
    refine ⟨a, od, T, _, rfl, I, h1, h4, rfl, trivial, (c2.frameLock hr hs h1).sub fun q hq => ?_⟩
    rcases List.mem_append.mp hq with hq | hq
    · rcases List.mem_cons.mp hq with rfl | hq
      · exact hr
      · exact List.mem_append_left _ hq
    · exact List.mem_append_right _ (List.mem_cons_of_mem _ hq)
  · cases hm
theorem held_k {T : List DE} {r : Nat} {a : Addr} : ∀ t ∈ T, ((fun p : Val × Val => p.1) t.kv, t.kw) ∈ (Val.ref r, V.ref a) :: T.flatMap DE.held := fun t ht => List.mem_cons_of_mem _ (List.mem_flatMap.mpr ⟨t, ht, List.mem_cons_self⟩)
theorem held_v {T : List DE} {r : Nat} {a : Addr} : ∀ t ∈ T, ((fun p : Val × Val => p.2) t.kv, t.vw) ∈ (Val.ref r, V.ref a) :: T.flatMap DE.held := fun t ht => List.mem_cons_of_mem _ (List.mem_flatMap.mpr ⟨t, ht, List.mem_cons_of_mem _ List.mem_cons_self⟩)
theorem held_a {T : List DE} {r : Nat} {a : Addr} : ∀ t ∈ T, ∀ p ∈ t.held, p ∈ (Val.ref r, V.ref a) :: T.flatMap DE.held := fun t ht p hp => List.mem_cons_of_mem _ (List.mem_flatMap.mpr ⟨t, ht, hp⟩)
theorem pi_dct {e : Expr} {m : ME} {tg : Expr} (h : PE X e (RD X.K FV φ m)) {pins : List (Addr × Obj)} {s : Shared} {σ : L2.St} {H : Hp} {R : It → Hp → Prop} (I : Inv X pins σ H s) {F : Fm} {ρ : Env} {S S1 S' : Sto} {P : List (Val × V)} {r : Nat} {p : Wk} (e' : EnvOk ρ σ P) (c : Ctx X.K FV F S H P) (h1 : meanE φ m ρ S = .ok (.ref r) S1)
    (hm : viewV (fun p => p.1) (.ref r) S1 = .ok p S') (q : ∀ J H' hold fr, ThOk X.H_0 F hold p.th → WalkOk X.K FV J p.gs p.xs hold fr → Ctx X.K FV (fr ++ F) S' H' (hold ++ P) → R J H') :
    wpAny (model X.prog X.w) X.A (eval e X.env) (fun v s1 => wpAny (model X.prog X.w) X.A (pyIter v) (PIE X pins σ tg R) X.xe s1) X.xe s := by
  refine thn (h.run pins s σ H (fun w H1 => Ctx X.K FV F S1 H1 ((.ref r, w) :: P)) I ⟨F, ρ, S, P, .ref r, S1, e', c, h1, fun w H1 c1 => c1⟩) fun v s1 ⟨x, H1, I1, rx, c1⟩ => ?_
  obtain ⟨a, od, T, H2, rfl, I2, hd, ok, hx, ht, c2⟩ := locked I1 c1 hm
  obtain rfl : v = Value.ref a := rx
  obtain ⟨hs, hgd, hx', es, ep, hdt, he⟩ := frz_raw I2 hd
  refine wpAny_pyIter_dict_raw hs ⟨od, hgd, hx', hdt⟩ (pi_one (tk := s1.toks) I2 _ (turn_dk (d := a) (w' := FV.w) _ hdt ok) ⟨_, Heap.get?_push_size _ rfl, rfl, ?_⟩ (q _ H2 _ _ ht ?_ c2))
  · rw [ent_len he] <;> rfl
  · rw [hx]; exact walk_dk held_k
theorem pi_vlsV {o : Expr} {m : ME} {tg : Expr} {apos cpos : Pos} (hb : baseOk o = true) (hline : (apos.endLine == cpos.line) = true) (h : PE X o (RD X.K FV φ m)) : PI X tg (.Call (.Attribute o "values" apos) [] [] cpos) (RI X FV φ (.vls m)) := by
  refine ⟨fun pins s σ H R I ⟨F, ρ, S, P, p, S', e', c, hm, q⟩ => ?_⟩
  unfold meanI at hm
  obtain ⟨v, S1, h1, hm⟩ := bnd_ok hm
  have hr : ∃ r, v = .ref r := by cases v <;> first | exact ⟨_, rfl⟩ | (cases hm; done)
  obtain ⟨r, rfl⟩ := hr
  refine wpAny_Call_method (T := "dict") (id := "dict.values") (base_of hb) rfl hline PySem.F.plainAttrs_dict PySem.F.slot_dict_values PySem.F.type_dict_values (thn (h.run pins s σ H (fun w H1 => Ctx X.K FV F S1 H1 ((.ref r, w) :: P)) I ⟨F, ρ, S, P, .ref r, S1, e', c, h1, fun w H1 c1 => c1⟩) fun u s1 ⟨x, H1, I1, rx, c1⟩ => ?_)
  obtain ⟨a, od, T, H2, rfl, I2, hd, ok, hx, ht, c2⟩ := locked I1 c1 hm
  obtain rfl : u = Value.ref a := rx
  obtain ⟨hs, hgd, hx', es, ep, hdt, he⟩ := frz_raw I2 hd
  have raw : s1.heap.DictRaw a es ep := ⟨od, hgd, hx', hdt⟩
  refine ⟨raw.typeIs, fun b e => by cases e; exact ⟨od, hgd, hx'.2.1⟩, ?_⟩
  have I3 : Inv X pins σ H2 { s1 with heap := s1.heap.push { cls := .type "dict_values", data := .fields #[.ref a] } } := I2.kept (t' := s1.toks) fun b ob q => Heap.get?_push_of_some _ q
  have fin : wpAny (model X.prog X.w) X.A (pyIter (.ref s1.heap.objs.size)) (PIE X pins σ tg R) X.xe { s1 with heap := s1.heap.push { cls := .type "dict_values", data := .fields #[.ref a] } } := by
    refine wpAny_pyIter_values_raw (d := a) ⟨_, Heap.get?_push_size _ rfl, rfl, rfl⟩ (raw.at fun o e => Heap.get?_push_of_some _ e) (pi_one (tk := s1.toks) I3 _ (turn_dv (d := a) (w' := FV.w) _ hdt ok) ⟨_, Heap.get?_push_size _ rfl, rfl, ?_⟩ (q _ H2 _ _ ht ?_ c2))
    · rw [ent_len he] <;> rfl
    · rw [hx]; exact walk_dk held_v
  show wpAny _ _ (callWith cpos (.builtin "dict.values") [.ref a] [] []) _ X.xe s1
  exact method_meetsIn PySem.F.slot_dict_values PySem.F.entry_dict_values rfl (PySem.evalArgs_none ⟨rfl, raw.typeIs, PySem.F.args_dict_values_1 _, _, meets_dict_values_raw a hs, ⟨es, ep, raw⟩, fin⟩)
theorem pi_itmV {o : Expr} {m : ME} {elts : List Expr} {kk : Nat} {tpos apos cpos : Pos} (hb : baseOk o = true) (hline : (apos.endLine == cpos.line) = true) (h : PE X o (RD X.K FV φ m)) : PI X (.Tuple elts kk tpos) (.Call (.Attribute o "items" apos) [] [] cpos) (RI X FV φ (.itm m)) := by
  refine ⟨fun pins s σ H R I ⟨F, ρ, S, P, p, S', e', c, hm, q⟩ => ?_⟩
  unfold meanI at hm
  obtain ⟨v, S1, h1, hm⟩ := bnd_ok hm
  have hr : ∃ r, v = .ref r := by cases v <;> first | exact ⟨_, rfl⟩ | (cases hm; done)
  obtain ⟨r, rfl⟩ := hr
  refine wpAny_Call_method (T := "dict") (id := "dict.items") (base_of hb) rfl hline PySem.F.plainAttrs_dict PySem.F.slot_dict_items PySem.F.type_dict_items (thn (h.run pins s σ H (fun w H1 => Ctx X.K FV F S1 H1 ((.ref r, w) :: P)) I ⟨F, ρ, S, P, .ref r, S1, e', c, h1, fun w H1 c1 => c1⟩) fun u s1 ⟨x, H1, I1, rx, c1⟩ => ?_)
  obtain ⟨a, od, T, H2, rfl, I2, hd, ok, hx, ht, c2⟩ := locked I1 c1 hm
  obtain rfl : u = Value.ref a := rx
  obtain ⟨hs, hgd, hx', es, ep, hdt, he⟩ := frz_raw I2 hd
  have raw : s1.heap.DictRaw a es ep := ⟨od, hgd, hx', hdt⟩
  refine ⟨raw.typeIs, fun b e => by cases e; exact ⟨od, hgd, hx'.2.1⟩, ?_⟩
  have I3 : Inv X pins σ H2 { s1 with heap := s1.heap.push { cls := .type "dict_items", data := .fields #[.ref a] } } := I2.kept (t' := s1.toks) fun b ob q => Heap.get?_push_of_some _ q
  have fin : wpAny (model X.prog X.w) X.A (pyIter (.ref s1.heap.objs.size)) (PIE X pins σ (.Tuple elts kk tpos) R) X.xe { s1 with heap := s1.heap.push { cls := .type "dict_items", data := .fields #[.ref a] } } := by
    refine wpAny_pyIter_items_raw (d := a) ⟨_, Heap.get?_push_size _ rfl, rfl, rfl⟩ (raw.at fun o e => Heap.get?_push_of_some _ e) (pi_one (tk := s1.toks) I3 _ (turn_di (d := a) (w' := FV.w) _ hdt ok) ⟨.none, .none, ?_⟩ (q _ H2 _ _ ht ?_ c2))
    · rw [ent_len he]
      exact Heap.get?_push_size _ rfl
    · rw [hx]; exact walk_di held_a
  show wpAny _ _ (callWith cpos (.builtin "dict.items") [.ref a] [] []) _ X.xe s1
  exact method_meetsIn PySem.F.slot_dict_items PySem.F.entry_dict_items rfl (PySem.evalArgs_none ⟨rfl, raw.typeIs, PySem.F.args_dict_items_1 _, _, meets_dict_items_raw a hs, ⟨es, ep, raw⟩, fin⟩)
end
section
variable {X : Cx} {FV : Glo} {φ : Nat → List Val → M Val}
theorem pi_ex {e : Expr} {m : ME} {tg : Expr} (h : PE X e (RD X.K FV φ m)) : PI X tg e (RI X FV φ (.ex m)) := by
  refine ⟨fun pins s σ H R I ⟨F, ρ, S, P, p, S', e', c, hm, q⟩ => ?_⟩
  unfold meanI at hm
  obtain ⟨v, S1, h1, hm⟩ := bnd_ok hm
  unfold iterV at hm
  split at hm
  · rename_i xs
    cases hm
    refine (pi_tup h).run pins s σ H R I ⟨F, ρ, S, P, _, _, e', c, h1, fun w H1 c1 => ?_⟩
    obtain ⟨a, ys, e2, h2, h3, _⟩ := c1.tup m1
    subst e2
    exact ⟨a, rfl, ⟨ys, h2⟩, q _ H1 _ [] trivial walk_tup c1⟩
  · rename_i cs
    cases hm
    refine (pi_str h).run pins s σ H R I ⟨F, ρ, S, P, _, _, e', c, h1, fun w H1 c1 => ?_⟩
    have e2 := c1.str m1
    subst e2
    exact ⟨_, rfl, q _ H1 [] [] trivial walk_str (sub1 c1)⟩
  · rename_i r
    split at hm
    · rename_i xs hs
      cases hm
      refine (pi_list h).run pins s σ H R I ⟨F, ρ, S, P, _, _, e', c, h1, fun w H1 c1 => ?_⟩
      obtain ⟨a, ys, e2, h2, h3, _⟩ := c1.lst m1 hs
      subst e2
      exact ⟨a, rfl, ⟨ys, SqL.of h2⟩, q _ H1 _ [] trivial (walk_list (.inl rfl)) c1⟩
    · rename_i xs hs
      cases hm
      refine (pi_list h).run pins s σ H R I ⟨F, ρ, S, P, _, _, e', c, h1, fun w H1 c1 => ?_⟩
      obtain ⟨a, ys, e2, h2, h3, _⟩ := c1.rol m1 hs
      subst e2
      exact ⟨a, rfl, ⟨ys, h2⟩, q _ H1 _ [] trivial (walk_list (.inr rfl)) c1⟩
    · rename_i kvs hs
      exact pi_dct h I e' c h1 (by unfold viewV; simp only [hs]; exact hm) q
    · rename_i kvs hs
      exact pi_dct h I e' c h1 (by unfold viewV; simp only [hs]; exact hm) q
    · cases hm
  · cases hm
theorem pi_rng1 {Γ : TC} (ok : COk Γ X FV) {x : Str} (hx : isB Γ x "range" = true) {n : Nat} {a : Expr} {m : ME} {tg : Expr} {p pos : Pos} (ht : trE n Γ a = some m) (h : PE X a (RD X.K FV φ m)) (ha : PA X [a] (RA X.K FV φ [m])) :
    PI X tg (.Call (.Name x p) [a] [] pos) (RI X FV φ (.rng1 m)) := by
  obtain ⟨rfl, hg, hm⟩ := isB_of ok hx
  refine ⟨fun pins s σ H R I ⟨F, ρ, S, P, pp, S', e', c, hm', q⟩ => ?_⟩
  unfold meanI at hm'
  obtain ⟨v, S1, h1, hm'⟩ := bnd_ok hm'
  cases v with
  | int i =>
    have hm2 : (if -(2 ^ 62) ≤ i ∧ i < 2 ^ 62 then Res.ok (⟨[], (List.range i.toNat).map fun (k : Nat) => Val.int (k : Int), none⟩ : Wk) S1 else Res.bad) = Res.ok pp S' := hm'
    split at hm2
    · rename_i hb
      cases hm2
      refine (pi_range1 hg hm ha (by rw [starEach_cons (not_star ht)]; rfl)).run pins s σ H R I ⟨F, ρ, S, P, [.int i], _, e', c, by unfold meanL; unfold meanL; unfold bnd; rw [h1]; rfl, fun ws H1 hl c1 => ?_⟩
      cases ws with
      | nil => simp at hl
      | cons w ws =>
        cases ws with
        | nil =>
          have e2 := c1.int (b := i) (w := w) (by simp)
          subst e2
          refine ⟨i, rfl, hb.1, hb.2, q _ H1 [] [] trivial ?_ (sub1 c1)⟩
          have := walk_rng (X := X) (FV := FV) (lo := 0) (n := i.toNat)
          simpa using this
        | cons _ _ => simp at hl
    · cases hm2
  | _ => cases hm'
theorem pi_rng2 {Γ : TC} (ok : COk Γ X FV) {x : Str} (hx : isB Γ x "range" = true) {n : Nat} {a b : Expr} {m k : ME} {tg : Expr} {p pos : Pos} (ht : trE n Γ a = some m) (ht2 : trE n Γ b = some k) (ha : PA X [a, b] (RA X.K FV φ [m, k])) :
    PI X tg (.Call (.Name x p) [a, b] [] pos) (RI X FV φ (.rng2 m k)) := by
  obtain ⟨rfl, hg, hm⟩ := isB_of ok hx
  refine ⟨fun pins s σ H R I ⟨F, ρ, S, P, pp, S', e', c, hm', q⟩ => ?_⟩
  unfold meanI at hm'
  obtain ⟨v, S1, h1, hm'⟩ := bnd_ok hm'
  obtain ⟨v2, S2, h2, hm'⟩ := bnd_ok hm'
  cases v with
  | int i =>
    cases v2 with
    | int j =>
      have hm2 : (if -(2 ^ 62) ≤ j ∧ j < 2 ^ 62 ∧ -(2 ^ 62) ≤ i ∧ i < 2 ^ 62 then Res.ok (⟨[], (List.range (j - i).toNat).map fun (k : Nat) => Val.int (i + (k : Int)), none⟩ : Wk) S2 else Res.bad) = Res.ok pp S' := hm'
      split at hm2
      · rename_i hb
        cases hm2
        refine (pi_range2 hg hm ha (by rw [starEach_cons (not_star ht), starEach_cons (not_star ht2)]; rfl) (by rw [starEach_cons (not_star ht2)]; rfl)).run pins s σ H R I ⟨F, ρ, S, P, [.int i, .int j], _, e', c, by unfold meanL; unfold meanL; unfold meanL; unfold bnd; rw [h1]; show Res.bind (bnd _ _ S1) _ = _; unfold bnd; rw [h2]; rfl, fun ws H1 hl c1 => ?_⟩
        cases ws with
        | nil => simp at hl
        | cons w ws =>
          cases ws with
          | nil => simp at hl
          | cons w2 ws =>
            cases ws with
            | nil =>
              have e2 := c1.int (b := i) (w := w) (by simp)
              have e3 := c1.int (b := j) (w := w2) (by simp)
              subst e2; subst e3
              exact ⟨i, j, rfl, ⟨hb.2.2.1, hb.2.2.2, hb.1, hb.2.1⟩, q _ H1 [] [] trivial walk_rng (sub1 (sub1 c1))⟩
            | cons _ _ => simp at hl
      · cases hm2
    | _ => cases hm'
  | _ => cases hm'
theorem walk_rngD {lo : Int} {n : Nat} : WalkOk X.K FV (Itc lo (-1) n) [] ((List.range n).map fun (k : Nat) => Val.int (lo - (k : Int))) [] [] := by
  refine ⟨fun F S H P i x _ hx c st => ?_, fun F S H P _ c st => ?_⟩
  · rw [List.getElem?_map] at hx
    obtain ⟨d, hd, rfl⟩ := Option.map_eq_some_iff.mp hx
    obtain ⟨hi, e⟩ := List.getElem?_eq_some_iff.mp hd
    simp at hi e
    subst e
    refine ⟨hi, fun w H' ⟨e, hw⟩ => ?_⟩
    subst e; subst hw
    have : lo + ((i : Nat) : Int) * (-1) = lo - (i : Int) := by omega
    rw [this]
    exact c.addInt _
  · show n ≤ _
    simp
theorem pi_rng3 {Γ : TC} (ok : COk Γ X FV) {x : Str} (hx : isB Γ x "range" = true) {n : Nat} {a b d : Expr} {m k l : ME} {tg : Expr} {p pos : Pos} (ht : trE n Γ a = some m) (ht2 : trE n Γ b = some k) (ht3 : trE n Γ d = some l) (ha : PA X [a, b, d] (RA X.K FV φ [m, k, l])) :
    PI X tg (.Call (.Name x p) [a, b, d] [] pos) (RI X FV φ (.rng3 m k l)) := by
  obtain ⟨rfl, hg, hm⟩ := isB_of ok hx
  refine ⟨fun pins s σ H R I ⟨F, ρ, S, P, pp, S', e', c, hm', q⟩ => ?_⟩
  unfold meanI at hm'
  obtain ⟨v, S1, h1, hA⟩ := bnd_ok hm'
  obtain ⟨v2, S2, h2, hB⟩ := bnd_ok hA
  obtain ⟨v3, S3, h3, hC⟩ := bnd_ok hB
  clear hm' hA hB
  have hL : meanL φ [m, k, l] ρ S = .ok [v, v2, v3] S3 := by
    unfold meanL; unfold meanL; unfold meanL; unfold meanL; unfold bnd; rw [h1]; show Res.bind (bnd _ _ S1) _ = _; unfold bnd; rw [h2]; show Res.bind (Res.bind (bnd _ _ S2) _) _ = _; unfold bnd; rw [h3]; rfl
  split at hC
  · rename_i i j s1
    split at hC
    · rename_i hb
      obtain ⟨rfl, hb1, hb2, hb3, hb4⟩ := hb
      cases hC
      have pl : (backTo pos (starEach [b, d] X.env)).any (·.1) = false := by
        rw [starEach_cons (not_star ht2), starEach_cons (not_star ht3)]; rfl
      refine (L2.pi_range3 hg hm ha (by rw [starEach_cons (not_star ht)]) pl).run pins s σ H R I ⟨F, ρ, S, P, _, _, e', c, hL, fun ws H1 hl c1 => ?_⟩
      obtain ⟨w1, w2, w3, rfl⟩ : ∃ w1 w2 w3, ws = [w1, w2, w3] := by
        match ws, hl with
        | [w1, w2, w3], _ => exact ⟨w1, w2, w3, rfl⟩
      have e1 := c1.int (b := i) (w := w1) (by simp)
      have e2 := c1.int (b := j) (w := w2) (by simp)
      have e3 := c1.int (b := -1) (w := w3) (by simp)
      subst e1; subst e2; subst e3
      exact ⟨i, j, -1, _, rfl, RgC.neg hb3 hb4 hb1 hb2, q _ H1 [] [] trivial walk_rngD (sub1 (sub1 (sub1 c1)))⟩
    · cases hC
  · cases hC
theorem mapIdx_get {xs : List Val} {i : Nat} {x : Val} (h : (xs.mapIdx fun i x => Val.tup [.int (i : Nat), x])[i]? = some x) : ∃ y, xs[i]? = some y ∧ x = .tup [.int (i : Nat), y] := by
  rw [List.getElem?_mapIdx] at h
  obtain ⟨y, hy, rfl⟩ := Option.map_eq_some_iff.mp h
  exact ⟨y, hy, rfl⟩
/-- enumerate(list) -/
theorem walk_enu {a : Addr} {r : Nat} {xs : List Val} {o : Ob} (ho : o = .lst xs ∨ o = .rol xs) : WalkOk X.K FV (Ite X.K a) [(r, o)] (xs.mapIdx fun i x => Val.tup [.int (i : Nat), x]) [(.ref r, .ref a)] [] := by
  have get : ∀ {F S H P}, Ctx X.K FV F S H ([(.ref r, .ref a)] ++ P) → stays [(r, o)] S → ∃ ys, SqL X.K H a ys ∧ xs.length = ys.length ∧ Ctx X.K FV F S H (xs.zip ys ++ ([(.ref r, .ref a)] ++ P)) := fun {F S H P} c st => by
    have hs := st (r, o) (by simp)
    rcases ho with rfl | rfl
    · obtain ⟨a', ys, e, h1, h2, h3⟩ := c.lst (w := .ref a) (by simp) hs
      cases e
      exact ⟨ys, SqL.of h1, h2, h3⟩
    · obtain ⟨a', ys, e, h1, h2, h3⟩ := c.rol (w := .ref a) (by simp) hs
      cases e
      exact ⟨ys, h1, h2, h3⟩
  refine ⟨fun F S H P i x _ hx c st => ?_, fun F S H P _ c st => ?_⟩
  · obtain ⟨y, hy, rfl⟩ := mapIdx_get hx
    obtain ⟨ys, h1, h2, h3⟩ := get c st
    have hi : i < ys.length := by rw [← h2]; exact (List.getElem?_eq_some_iff.mp hy).1
    refine ⟨⟨ys, ys[i], h1, List.getElem?_eq_getElem hi⟩, fun w H' ⟨T, x', e1, e2, e3, hw⟩ => ?_⟩
    subst e1; subst e3
    have e4 := hw ys h1
    have c2 := newPair (x := .int (i : Nat)) (y := y) (w := .int (i : Nat)) (w' := x') (h3.addInt (i : Nat)) e2 List.mem_cons_self (List.mem_cons_of_mem _ (List.mem_append_left _ (List.mem_iff_getElem?.mpr ⟨i, List.getElem?_zip_eq_some.mpr ⟨hy, e4⟩⟩)))
    refine c2.sub fun p hp => ?_
    rcases List.mem_cons.mp hp with rfl | hp
    · exact List.mem_cons_self
    · exact List.mem_cons_of_mem _ (List.mem_cons_of_mem _ (List.mem_append_right _ hp))
  · obtain ⟨ys, h1, h2, _⟩ := get c st
    exact ⟨ys, h1, by simp [h2]⟩
theorem pi_enuV {Γ : TC} (ok : COk Γ X FV) {x : Str} (hx : isB Γ x "enumerate" = true) {n : Nat} {a : Expr} {m : ME} {elts : List Expr} {kk : Nat} {tpos p pos : Pos} (ht : trE n Γ a = some m) (ha : PA X [a] (RA X.K FV φ [m])) :
    PI X (.Tuple elts kk tpos) (.Call (.Name x p) [a] [] pos) (RI X FV φ (.enu m)) := by
  obtain ⟨rfl, hg, hm⟩ := isB_of ok hx
  refine ⟨fun pins s σ H R I ⟨F, ρ, S, P, pp, S', e', c, hm', q⟩ => ?_⟩
  unfold meanI at hm'
  obtain ⟨v, S1, h1, hm'⟩ := bnd_ok hm'
  unfold enuV at hm'
  split at hm'
  case h_2 => cases hm'
  rename_i r
  refine (pi_enum hg hm ha (by rw [starEach_cons (not_star ht)]; rfl)).run pins s σ H R I ⟨F, ρ, S, P, [.ref r], S1, e', c, by unfold meanL; unfold meanL; unfold bnd; rw [h1]; rfl, fun ws H1 hl c1 => ?_⟩
  cases ws with
  | nil => simp at hl
  | cons w ws =>
    cases ws with
    | cons _ _ => simp at hl
    | nil =>
      have mem : (Val.ref r, w) ∈ [Val.ref r].zip [w] ++ P := by simp
      split at hm'
      · rename_i xs hs
        cases hm'
        obtain ⟨a', ys, rfl, g1, g2, _⟩ := c1.lst mem hs
        exact ⟨a', ys, rfl, SqL.of g1, q _ H1 _ [] trivial (walk_enu (.inl rfl)) c1⟩
      · rename_i xs hs
        cases hm'
        obtain ⟨a', ys, rfl, g1, g2, _⟩ := c1.rol mem hs
        exact ⟨a', ys, rfl, g1, q _ H1 _ [] trivial (walk_enu (.inr rfl)) c1⟩
      · cases hm'
/-- zip of two lists, of two tuples -/
theorem zipped {xs ys : List Val} {i : Nat} {x : Val} (h : ((xs.zip ys).map fun p => Val.tup [p.1, p.2])[i]? = some x) : ∃ a b, xs[i]? = some a ∧ ys[i]? = some b ∧ x = .tup [a, b] := by
  rw [List.getElem?_map] at h
  obtain ⟨p, hp, rfl⟩ := Option.map_eq_some_iff.mp h
  obtain ⟨h1, h2⟩ := List.getElem?_zip_eq_some.mp hp
  exact ⟨p.1, p.2, h1, h2, rfl⟩
theorem walk_zipL {a b : Addr} {r r' : Nat} {xs ys : List Val} : WalkOk X.K FV (Itz X.K a b) [(r, .lst xs), (r', .lst ys)] ((xs.zip ys).map fun p => Val.tup [p.1, p.2]) [(.ref r, .ref a), (.ref r', .ref b)] [] := by
  have get : ∀ {F S H P}, Ctx X.K FV F S H ([(.ref r, .ref a), (.ref r', .ref b)] ++ P) → stays [(r, .lst xs), (r', .lst ys)] S → ∃ vs us, SqL X.K H a vs ∧ SqL X.K H b us ∧ xs.length = vs.length ∧ ys.length = us.length ∧ Ctx X.K FV F S H (ys.zip us ++ (xs.zip vs ++ ([(.ref r, .ref a), (.ref r', .ref b)] ++ P))) := fun {F S H P} c st => by
    have hs := st (r, .lst xs) (by simp)
    have hs2 := st (r', .lst ys) (by simp)
    obtain ⟨a', vs, e, h1, h2, h3⟩ := c.lst (w := .ref a) (by simp) hs
    cases e
    obtain ⟨b', us, e, g1, g2, g3⟩ := h3.lst (w := .ref b) (by simp) hs2
    cases e
    exact ⟨vs, us, SqL.of h1, SqL.of g1, h2, g2, g3⟩
  refine ⟨fun F S H P i x _ hx c st => ?_, fun F S H P _ c st => ?_⟩
  · obtain ⟨x1, x2, hx1, hx2, rfl⟩ := zipped hx
    obtain ⟨vs, us, h1, h2, l1, l2, c2⟩ := get c st
    have i1 : i < vs.length := by rw [← l1]; exact (List.getElem?_eq_some_iff.mp hx1).1
    have i2 : i < us.length := by rw [← l2]; exact (List.getElem?_eq_some_iff.mp hx2).1
    refine ⟨⟨vs, us, vs[i], us[i], h1, h2, List.getElem?_eq_getElem i1, List.getElem?_eq_getElem i2⟩, fun w H' ⟨T, y1, y2, e1, e2, e3, k1, k2⟩ => ?_⟩
    subst e1; subst e3
    refine (newPair c2 e2 (List.mem_append_right _ (List.mem_append_left _ (List.mem_iff_getElem?.mpr ⟨i, List.getElem?_zip_eq_some.mpr ⟨hx1, k1 vs h1⟩⟩))) (List.mem_append_left _ (List.mem_iff_getElem?.mpr ⟨i, List.getElem?_zip_eq_some.mpr ⟨hx2, k2 us h2⟩⟩))).sub fun p hp => ?_
    rcases List.mem_cons.mp hp with rfl | hp
    · exact List.mem_cons_self
    · exact List.mem_cons_of_mem _ (List.mem_append_right _ (List.mem_append_right _ hp))
  · obtain ⟨vs, us, h1, h2, l1, l2, _⟩ := get c st
    refine ⟨vs, us, h1, h2, ?_⟩
    rw [List.length_map, List.length_zip]
    omega
theorem walk_zipT {a b : Addr} {xs ys : List Val} : WalkOk X.K FV (RZ.ItzT X.K a b) [] ((xs.zip ys).map fun p => Val.tup [p.1, p.2]) [(.tup xs, .ref a), (.tup ys, .ref b)] [] := by
  have get : ∀ {F S H P}, Ctx X.K FV F S H ([(.tup xs, .ref a), (.tup ys, .ref b)] ++ P) → ∃ vs us, SqT X.K H a vs ∧ SqT X.K H b us ∧ xs.length = vs.length ∧ ys.length = us.length ∧ Ctx X.K FV F S H (ys.zip us ++ (xs.zip vs ++ ([(.tup xs, .ref a), (.tup ys, .ref b)] ++ P))) := fun {F S H P} c => by
    obtain ⟨a', vs, e, h1, h2, h3⟩ := c.tup (xs := xs) (w := .ref a) (by simp)
    cases e
    obtain ⟨b', us, e, g1, g2, g3⟩ := h3.tup (xs := ys) (w := .ref b) (by simp)
    cases e
    exact ⟨vs, us, h1, g1, h2, g2, g3⟩
  refine ⟨fun F S H P i x _ hx c st => ?_, fun F S H P _ c st => ?_⟩
  · obtain ⟨x1, x2, hx1, hx2, rfl⟩ := zipped hx
    obtain ⟨vs, us, h1, h2, l1, l2, c2⟩ := get c
    have i1 : i < vs.length := by rw [← l1]; exact (List.getElem?_eq_some_iff.mp hx1).1
    have i2 : i < us.length := by rw [← l2]; exact (List.getElem?_eq_some_iff.mp hx2).1
    refine ⟨⟨vs, us, vs[i], us[i], h1, h2, List.getElem?_eq_getElem i1, List.getElem?_eq_getElem i2⟩, fun w H' ⟨T, y1, y2, e1, e2, e3, k1, k2⟩ => ?_⟩
    subst e1; subst e3
    refine (newPair c2 e2 (List.mem_append_right _ (List.mem_append_left _ (List.mem_iff_getElem?.mpr ⟨i, List.getElem?_zip_eq_some.mpr ⟨hx1, k1 vs h1⟩⟩))) (List.mem_append_left _ (List.mem_iff_getElem?.mpr ⟨i, List.getElem?_zip_eq_some.mpr ⟨hx2, k2 us h2⟩⟩))).sub fun p hp => ?_
    rcases List.mem_cons.mp hp with rfl | hp
    · exact List.mem_cons_self
    · exact List.mem_cons_of_mem _ (List.mem_append_right _ (List.mem_append_right _ hp))
  · obtain ⟨vs, us, h1, h2, l1, l2, _⟩ := get c
    refine ⟨vs, us, h1, h2, ?_⟩
    rw [List.length_map, List.length_zip]
    omega
theorem walk_zipS {a b : Tx} : WalkOk X.K FV (ItzS (stx a) (stx b)) [] ((a.zip b).map fun p => Val.tup [.str [p.1], .str [p.2]]) [] [] := by
  have ga : (stx a).cps.size = a.length := by simp [stx]
  have gb : (stx b).cps.size = b.length := by simp [stx]
  refine ⟨fun F S H P i x _ hx c st => ?_, fun F S H P _ c st => ?_⟩
  · rw [List.getElem?_map] at hx
    obtain ⟨p, hp, rfl⟩ := Option.map_eq_some_iff.mp hx
    obtain ⟨h1, h2⟩ := List.getElem?_zip_eq_some.mp hp
    have l1 := (List.getElem?_eq_some_iff.mp h1).1
    have l2 := (List.getElem?_eq_some_iff.mp h2).1
    refine ⟨show i < min _ _ by rw [ga, gb]; omega, fun w H' ⟨T, c1, c2, e1, e2, e3, k1, k2⟩ => ?_⟩
    subst e1; subst e3
    have q1 : c1 = p.1 := by
      have : (stx a).cps[i]? = a[i]? := by simp [stx]
      rw [this, h1] at k1
      exact (Option.some.inj k1).symm
    have q2 : c2 = p.2 := by
      have : (stx b).cps[i]? = b[i]? := by simp [stx]
      rw [this, h2] at k2
      exact (Option.some.inj k2).symm
    subst q1; subst q2
    refine (newPair (x := .str [p.1]) (y := .str [p.2]) ((c.addStr [p.1]).addStr [p.2]) e2 (List.mem_cons_of_mem _ List.mem_cons_self) List.mem_cons_self).sub fun q hq => ?_
    rcases List.mem_cons.mp hq with rfl | hq
    · exact List.mem_cons_self
    · exact List.mem_cons_of_mem _ (List.mem_cons_of_mem _ (List.mem_cons_of_mem _ hq))
  · show min _ _ ≤ _
    rw [ga, gb, List.length_map, List.length_zip]
    exact Nat.le_refl _
theorem pi_zipV {Γ : TC} (ok : COk Γ X FV) {x : Str} (hx : isB Γ x "zip" = true) {n : Nat} {a b : Expr} {m k : ME} {elts : List Expr} {kk : Nat} {tpos p pos : Pos} (ht : trE n Γ a = some m) (ht2 : trE n Γ b = some k) (ha : PA X [a, b] (RA X.K FV φ [m, k])) :
    PI X (.Tuple elts kk tpos) (.Call (.Name x p) [a, b] [] pos) (RI X FV φ (.zip m k)) := by
  obtain ⟨rfl, hg, hm⟩ := isB_of ok hx
  refine ⟨fun pins s σ H R I ⟨F, ρ, S, P, pp, S', e', c, hm', q⟩ => ?_⟩
  unfold meanI at hm'
  obtain ⟨v1, S1, h1, hm'⟩ := bnd_ok hm'
  obtain ⟨v2, S2, h2, hm'⟩ := bnd_ok hm'
  have hL : meanL φ [m, k] ρ S = .ok [v1, v2] S2 := by unfold meanL; unfold meanL; unfold meanL; unfold bnd; rw [h1]; show Res.bind (bnd _ _ S1) _ = _; unfold bnd; rw [h2]; rfl
  by_cases hstr : ∃ x y, v1 = .str x ∧ v2 = .str y
  · obtain ⟨x, y, rfl, rfl⟩ := hstr
    unfold zipV at hm'
    cases hm'
    refine (pi_zipS hg hm ha (by rw [starEach_cons (not_star ht)]) (by rw [starEach_cons (not_star ht2)]; rfl)).run pins s σ H R I ⟨F, ρ, S, P, _, _, e', c, hL, fun ws H1 hl c1 => ?_⟩
    obtain ⟨w1, w2, rfl⟩ : ∃ w1 w2, ws = [w1, w2] := by
      match ws, hl with
      | [w1, w2], _ => exact ⟨w1, w2, rfl⟩
    have e1 := c1.str (b := x) (w := w1) (by simp)
    have e2 := c1.str (b := y) (w := w2) (by simp)
    subst e1; subst e2
    exact ⟨_, _, rfl, q _ H1 [] [] trivial walk_zipS (sub1 (sub1 c1))⟩
  refine (RZ.pi_zipA hg hm ha (by rw [starEach_cons (not_star ht)]) (by rw [starEach_cons (not_star ht2)]; rfl)).run pins s σ H R I ⟨F, ρ, S, P, [v1, v2], S2, e', c, hL, fun ws H1 hl c1 => ?_⟩
  obtain ⟨w1, w2, rfl⟩ : ∃ w1 w2, ws = [w1, w2] := by
    match ws, hl with
    | [w1, w2], _ => exact ⟨w1, w2, rfl⟩
  have mem1 : (v1, w1) ∈ [v1, v2].zip [w1, w2] ++ P := by simp
  have mem2 : (v2, w2) ∈ [v1, v2].zip [w1, w2] ++ P := by simp
  unfold zipV at hm'
  split at hm'
  · split at hm'
    · rename_i xs ys hs hs2
      cases hm'
      obtain ⟨a', vs, rfl, g1, g2, _⟩ := c1.lst mem1 hs
      obtain ⟨b', us, rfl, k1, k2, _⟩ := c1.lst mem2 hs2
      exact ⟨a', b', vs, us, rfl, .inl ⟨SqL.of g1, SqL.of k1, q _ H1 _ [] trivial walk_zipL c1⟩⟩
    · cases hm'
  · cases hm'
    obtain ⟨a', vs, rfl, g1, g2, _⟩ := c1.tup mem1
    obtain ⟨b', us, rfl, k1, k2, _⟩ := c1.tup mem2
    exact ⟨a', b', vs, us, rfl, .inr ⟨g1, k1, q _ H1 _ [] trivial walk_zipT c1⟩⟩
  · exact absurd ⟨_, _, rfl, rfl⟩ hstr
  · cases hm'
end
end MP
set_option linter.all false
set_option Elab.async false
set_option maxHeartbeats 1000000
namespace MP
open PySem L2 PySem.Spec PyProof.Rows
theorem wipe_idem (σ : L2.St) (vs : List Nat) : wipe (wipe σ vs) vs = wipe σ vs := by
  apply List.ext_getElem?
  intro j
  rw [wipe_get, wipe_get]
  by_cases h : j ∈ vs
  · simp only [if_pos h]; cases σ[j]? <;> rfl
  · simp only [if_neg h]
/-- what a comprehension does with an item -/
noncomputable def compF (φ : Nat → List Val → M Val) (m : ME) (t : Tg) (cs : List ME) (ρ : Env) : Val → M (Option Val) :=
  fun x => bnd (tgV t x ρ) fun ρ' => bnd (meanC φ cs ρ') fun k => if k then bnd (meanE φ m ρ') fun y => ret (some y) else ret none
def optL (o : Option Val) (ys : List Val) : List Val := match o with | some y => y :: ys | none => ys
theorem compL_nil {gs : List (Nat × Ob)} {f : Val → M (Option Val)} {S S' : Sto} {ys : List Val} (h : compL gs f [] S = .ok ys S') : stays gs S ∧ ys = [] ∧ S' = S := by
  unfold compL at h
  split at h
  · cases h; exact ⟨by assumption, rfl, rfl⟩
  · cases h
theorem compL_cons {gs : List (Nat × Ob)} {f : Val → M (Option Val)} {x : Val} {xs : List Val} {S S' : Sto} {ys : List Val} (h : compL gs f (x :: xs) S = .ok ys S') :
    stays gs S ∧ ∃ o S1 ys1, f x S = .ok o S1 ∧ compL gs f xs S1 = .ok ys1 S' ∧ ys = optL o ys1 := by
  unfold compL at h
  split at h
  · rename_i hs
    refine ⟨hs, ?_⟩
    cases e : f x S with
    | ok o S1 =>
      rw [e] at h
      obtain ⟨ys1, S2, h1, h2⟩ := bnd_ok (show bnd (compL gs f xs) _ S1 = _ from h)
      obtain ⟨rfl, rfl⟩ := ret_ok h2
      exact ⟨o, S1, ys1, rfl, h1, rfl⟩
    | exc c v S1 => rw [e] at h; cases h
    | bad => rw [e] at h; cases h
  · cases h
theorem thaw_app {th : Option Nat} {S S' T : Sto} {u : Unit} (h : thaw th S = .ok u S') : thaw th (S ++ T) = .ok u (S' ++ T) ∧ S'.length = S.length := by
  unfold thaw at h ⊢
  cases th with
  | none => cases h; exact ⟨rfl, rfl⟩
  | some i =>
    simp only at h ⊢
    split at h
    · rename_i kvs hs
      cases h
      have hi : i < S.length := (List.getElem?_eq_some_iff.mp hs).1
      rw [List.getElem?_append_left hi, hs]
      exact ⟨by simp only [List.set_append_left _ _ hi], List.length_set ..⟩
    · cases h
section
variable {X : Cx} {FV : Glo} {φ : Nat → List Val → M Val}
theorem lc_read {m : ME} {t : Tg} {i : IT} {cs : List ME} {tt : TT} (htt : ∀ (F : Fm) (ρ : Env) (S : Sto) (P : List (Val × V)) (k : Bool) (S' : Sto) (σ : L2.St) (H : Hp) (Q : Bool → Hp → Prop), EnvOk ρ σ P → Ctx X.K FV F S H P → meanC φ cs ρ S = .ok k S' →
      (∀ H', Ctx X.K FV F S' H' P → Q k H') → tt σ H Q) {σ : L2.St} {H : Hp} {Q : VK} (h : RD X.K FV φ (.lc m t i cs) σ H Q) :
    tLc (RI X FV φ i) (RG X.K FV t) tt (RD X.K FV φ m) (slotsT t) σ H fun v => Unl X.H_0 (Q v) := by
  obtain ⟨F, ρ, S, P, v, S', e, c, hm, q⟩ := h
  unfold meanE at hm
  obtain ⟨p, S1, hI, hm⟩ := bnd_ok hm
  obtain ⟨ys, S2, hc, hm⟩ := bnd_ok hm
  obtain ⟨u, S3, hth, hm2⟩ := bnd_ok hm
  have hm2 : (if ys.length ≤ line then newOb (.lst ys) S3 else .bad) = Res.ok v S' := hm2
  split at hm2
  case isFalse => cases hm2
  rename_i hlen
  unfold newOb at hm2
  cases hm2
  refine ⟨F, ρ, S, P, p, S1, e, c, hI, fun J H1 hold fr ht wk c1 => fun D hD => ?_⟩
  have hc' : compL p.gs (compF φ m t cs ρ) p.xs S1 = .ok ys S2 := hc
  refine ⟨fun i mm H' => mm = p.xs.length - i ∧ i ≤ p.xs.length ∧ ∃ Si Pi aV aW ysr, Ctx X.K FV ((D, .lst aW) :: (fr ++ F)) Si H' (hold ++ Pi) ∧ (∀ p ∈ P, p ∈ Pi) ∧ aV.length = aW.length ∧ (∀ p ∈ aV.zip aW, p ∈ Pi) ∧
      compL p.gs (compF φ m t cs ρ) (p.xs.drop i) Si = .ok ysr S2 ∧ ys = aV ++ ysr, ⟨_, rfl, Nat.zero_le _, S1, P, [], [], ys, c1.frameNew hD, fun _ h => h, rfl, by simp, hc', rfl⟩, ?_⟩
  rintro i mm H' ⟨hmm, hi, Si, Pi, aV, aW, ysr, ci, hP, hl, hz, hcm, hys⟩
  by_cases hend : i = p.xs.length
  · left
    subst hend
    rw [List.drop_length] at hcm
    obtain ⟨hs, rfl, rfl⟩ := compL_nil hcm
    refine ⟨wk.done _ _ _ _ (fun p hp => List.mem_cons_of_mem _ (List.mem_append_left _ hp)) ci hs, ?_⟩
    have hv : ys = aV := by rw [hys, List.append_nil]
    subst hv
    obtain ⟨ht1, ht2⟩ := thaw_app (T := [.lst ys]) hth
    rw [ht2] at q
    refine ((ci.frameIn hl fun q hq => List.mem_append_right _ (hz q hq)).sub (P' := hold ++ ((.ref S2.length, .ref D) :: P)) fun q hq => ?_).thawed ht ht1 |>.mono fun H3 c3 => q _ _ c3
    rcases List.mem_append.mp hq with hq | hq
    · exact List.mem_cons_of_mem _ (List.mem_append_left _ hq)
    · rcases List.mem_cons.mp hq with rfl | hq
      · exact m1
      · exact List.mem_cons_of_mem _ (List.mem_append_right _ (hP q hq))
  · right
    have hlt : i < p.xs.length := by omega
    rw [List.drop_eq_getElem_cons hlt] at hcm
    obtain ⟨hs, o, Sj, ys1, hf, hrest, rfl⟩ := compL_cons hcm
    obtain ⟨hgo, hyl⟩ := wk.item _ _ _ _ i p.xs[i] (fun p hp => List.mem_cons_of_mem _ (List.mem_append_left _ hp)) (List.getElem?_eq_getElem hlt) ci hs
    have hf0 : bnd (tgV t p.xs[i] ρ) (fun ρ' => bnd (meanC φ cs ρ') fun k => if k then bnd (meanE φ m ρ') fun y => ret (some y) else ret none) Si = .ok o Sj := hf
    obtain ⟨ρ', Sa, ht, hf1⟩ := bnd_ok hf0
    have ea := tgV_st.1 _ _ _ _ _ _ ht
    subst ea
    obtain ⟨k, Sb, hk, hf⟩ := bnd_ok hf1
    refine ⟨hgo, fun H'' => ∃ m', m' < mm ∧ m' = p.xs.length - (i + 1) ∧ i + 1 ≤ p.xs.length ∧ ∃ Si Pi aV aW ysr, Ctx X.K FV ((D, .lst aW) :: (fr ++ F)) Si H'' (hold ++ Pi) ∧ (∀ p ∈ P, p ∈ Pi) ∧ aV.length = aW.length ∧ (∀ p ∈ aV.zip aW, p ∈ Pi) ∧
      compL p.gs (compF φ m t cs ρ) (p.xs.drop (i + 1)) Si = .ok ysr S2 ∧ ys = aV ++ ysr, fun H'' ⟨m', h1, h2⟩ => ⟨m', h1, h2⟩, fun w H'' hy => ?_⟩
    have c2 := hyl w H'' hy
    refine ⟨_, wipeE ρ (slotsT t), Sa, _, p.xs[i], ρ', (e.wipe (slotsT t)).sup (fun p hp => List.mem_cons_of_mem _ (List.mem_append_right _ (hP p hp))), c2, m1, tgV_wipe ht, fun σ' P' hp he hc3 hw => ?_⟩
    refine ⟨(hw (slotsT t) fun _ h => h).trans (wipe_idem σ _), ?_⟩
    refine htt _ ρ' Sa P' k Sb σ' H'' _ he hc3 hk fun H3 c4 => ?_
    cases k with
    | true =>
      rw [if_pos rfl] at hf ⊢
      obtain ⟨y, Sc, hy2, hf⟩ := bnd_ok hf
      obtain ⟨rfl, rfl⟩ := ret_ok hf
      refine ⟨_, ρ', Sb, P', y, _, he, c4, hy2, fun wy H4 c5 => ⟨aW, c5.frameGet, ?_, _, ?_, rfl, hlt, _, ((y, wy) :: Pi), aV ++ [y], aW ++ [wy], ys1, (c5.frameSet lst_free (fun _ _ e => nomatch e)).sub fun q hq => ?_, fun p hp => List.mem_cons_of_mem _ (hP p hp), by simp [hl], fun q hq => ?_, hrest, by rw [hys]; simp [optL]⟩⟩
      · have : ys.length ≤ line := hlen
        rw [hys] at this
        simp [optL] at this
        have e3 : (line : Nat) = sizeLine := rfl
        omega
      · omega
      · rcases List.mem_append.mp hq with hq | hq
        · exact List.mem_cons_of_mem _ (hp _ (List.mem_cons_of_mem _ (List.mem_append_left _ hq)))
        · rcases List.mem_cons.mp hq with rfl | hq
          · exact m1
          · exact List.mem_cons_of_mem _ (hp _ (List.mem_cons_of_mem _ (List.mem_append_right _ hq)))
      · rw [List.zip_append hl] at hq
        rcases List.mem_append.mp hq with hq | hq
        · exact List.mem_cons_of_mem _ (hz q hq)
        · simp at hq; subst hq; exact m1
    | false =>
      rw [if_neg Bool.false_ne_true] at hf ⊢
      obtain ⟨rfl, rfl⟩ := ret_ok hf
      refine ⟨_, ?_, rfl, hlt, _, Pi, aV, aW, ys1, c4.sub fun q hq => hp _ (List.mem_cons_of_mem _ hq), hP, hl, hz, hrest, hys⟩
      omega
/-- what is walked within, without a lock of its own -/
def RIn (K : PySem.W.Frag) (FV : Glo) (φ : Nat → List Val → M Val) (it : IT) : TI := fun σ H R => ∃ F ρ S P p S', EnvOk ρ σ P ∧ Ctx K FV F S H P ∧ meanI φ it ρ S = .ok p S' ∧ p.th.isSome = false ∧ ∀ J H' hold fr, WalkOk K FV J p.gs p.xs hold fr → Ctx K FV (fr ++ F) S' H' (hold ++ P) → R J H'
theorem pi_n {tg e : Expr} {it : IT} (h : PI X tg e (RI X FV φ it)) : PI X tg e (RIn X.K FV φ it) :=
  ⟨fun pins s σ H R I ⟨F, ρ, S, P, p, S', e', c, hm, ht, q⟩ => h.run pins s σ H R I ⟨F, ρ, S, P, p, S', e', c, hm, fun J H' hold fr _ wk c1 => q J H' hold fr wk c1⟩⟩
theorem wipe_app (σ : L2.St) (A B : List Nat) : wipe σ (B ++ A) = wipe (wipe σ A) B := by
  apply List.ext_getElem?
  intro j
  rw [wipe_get, wipe_get, wipe_get]
  by_cases h : j ∈ B <;> by_cases h' : j ∈ A <;> simp [h, h'] <;> cases σ[j]? <;> rfl
theorem compL2_nil {gs : List (Nat × Ob)} {f : Val → M (List Val)} {S S' : Sto} {ys : List Val} (h : compL2 gs f [] S = .ok ys S') : stays gs S ∧ ys = [] ∧ S' = S := by
  unfold compL2 at h
  split at h
  · cases h; exact ⟨by assumption, rfl, rfl⟩
  · cases h
theorem compL2_cons {gs : List (Nat × Ob)} {f : Val → M (List Val)} {x : Val} {xs : List Val} {S S' : Sto} {ys : List Val} (h : compL2 gs f (x :: xs) S = .ok ys S') :
    stays gs S ∧ ∃ zs S1 ys1, f x S = .ok zs S1 ∧ compL2 gs f xs S1 = .ok ys1 S' ∧ ys = zs ++ ys1 := by
  unfold compL2 at h
  split at h
  · rename_i hs
    refine ⟨hs, ?_⟩
    cases e : f x S with
    | ok o S1 =>
      rw [e] at h
      obtain ⟨ys1, S2, h1, h2⟩ := bnd_ok (show bnd (compL2 gs f xs) _ S1 = _ from h)
      obtain ⟨rfl, rfl⟩ := ret_ok h2
      exact ⟨o, S1, ys1, rfl, h1, rfl⟩
    | exc c v S1 => rw [e] at h; cases h
    | bad => rw [e] at h; cases h
  · cases h
noncomputable def compG (φ : Nat → List Val → M Val) (m : ME) (t : Tg) (t1 : Tg) (i1 : IT) (cs1 : List ME) (ρ : Env) : Val → M (List Val) :=
  fun x => bnd (tgV t x (wipeE ρ (slotsT t1))) fun ρ' => bnd (meanC φ [] ρ') fun k => if k then
      bnd (meanI φ i1 ρ') fun p1 => if p1.th.isSome then stop else compL p1.gs (compF φ m t1 cs1 ρ') p1.xs
      else ret []
theorem lc2_read {m : ME} {t t1 : Tg} {i i1 : IT} {cs1 : List ME} {tt1 : TT} (htt : ∀ (F : Fm) (ρ : Env) (S : Sto) (P : List (Val × V)) (k : Bool) (S' : Sto) (σ : L2.St) (H : Hp) (Q : Bool → Hp → Prop), EnvOk ρ σ P → Ctx X.K FV F S H P → meanC φ cs1 ρ S = .ok k S' →
      (∀ H', Ctx X.K FV F S' H' P → Q k H') → tt1 σ H Q) {σ : L2.St} {H : Hp} {Q : VK} (h : RD X.K FV φ (.lc2 m t i [] t1 i1 cs1) σ H Q) :
    tLc2 (RI X FV φ i) (RG X.K FV t) tYes (RIn X.K FV φ i1) (RG X.K FV t1) tt1 (RD X.K FV φ m) (slotsT t ++ slotsT t1) (slotsT t1) σ H fun v => Unl X.H_0 (Q v) := by
  obtain ⟨F, ρ, S, P, v, S', e, c, hm, q⟩ := h
  unfold meanE at hm
  obtain ⟨p, S1, hI, hm⟩ := bnd_ok hm
  obtain ⟨ys, S2, hc, hm⟩ := bnd_ok hm
  obtain ⟨u, S3, hth, hm2⟩ := bnd_ok hm
  have hm2 : (if ys.length ≤ line then newOb (.lst ys) S3 else .bad) = Res.ok v S' := hm2
  split at hm2
  case isFalse => cases hm2
  rename_i hlen
  unfold newOb at hm2
  cases hm2
  refine ⟨F, ρ, S, P, p, S1, e, c, hI, fun J H1 hold fr ht wk c1 => fun D hD => ?_⟩
  have hc' : compL2 p.gs (compG φ m t t1 i1 cs1 ρ) p.xs S1 = .ok ys S2 := hc
  refine ⟨fun i mm H' => mm = p.xs.length - i ∧ i ≤ p.xs.length ∧ ∃ Si Pi aV aW ysr, Ctx X.K FV ((D, .lst aW) :: (fr ++ F)) Si H' (hold ++ Pi) ∧ (∀ p ∈ P, p ∈ Pi) ∧ aV.length = aW.length ∧ (∀ p ∈ aV.zip aW, p ∈ Pi) ∧
      compL2 p.gs (compG φ m t t1 i1 cs1 ρ) (p.xs.drop i) Si = .ok ysr S2 ∧ ys = aV ++ ysr, ⟨_, rfl, Nat.zero_le _, S1, P, [], [], ys, c1.frameNew hD, fun _ h => h, rfl, by simp, hc', rfl⟩, ?_⟩
  rintro i mm H' ⟨hmm, hi, Si, Pi, aV, aW, ysr, ci, hP, hl, hz, hcm, hys⟩
  by_cases hend : i = p.xs.length
  · left
    subst hend
    rw [List.drop_length] at hcm
    obtain ⟨hs, rfl, rfl⟩ := compL2_nil hcm
    refine ⟨wk.done _ _ _ _ (fun p hp => List.mem_cons_of_mem _ (List.mem_append_left _ hp)) ci hs, ?_⟩
    have hv : ys = aV := by rw [hys, List.append_nil]
    subst hv
    obtain ⟨ht1, ht2⟩ := thaw_app (T := [.lst ys]) hth
    rw [ht2] at q
    refine ((ci.frameIn hl fun q hq => List.mem_append_right _ (hz q hq)).sub (P' := hold ++ ((.ref S2.length, .ref D) :: P)) fun q hq => ?_).thawed ht ht1 |>.mono fun H3 c3 => q _ _ c3
    rcases List.mem_append.mp hq with hq | hq
    · exact List.mem_cons_of_mem _ (List.mem_append_left _ hq)
    · rcases List.mem_cons.mp hq with rfl | hq
      · exact m1
      · exact List.mem_cons_of_mem _ (List.mem_append_right _ (hP q hq))
  · right
    have hlt : i < p.xs.length := by omega
    rw [List.drop_eq_getElem_cons hlt] at hcm
    obtain ⟨hs, zs, Sj, ys1, hf, hrest, rfl⟩ := compL2_cons hcm
    obtain ⟨hgo, hyl⟩ := wk.item _ _ _ _ i p.xs[i] (fun p hp => List.mem_cons_of_mem _ (List.mem_append_left _ hp)) (List.getElem?_eq_getElem hlt) ci hs
    have hf0 : bnd (tgV t p.xs[i] (wipeE ρ (slotsT t1))) (fun ρ' => bnd (meanC φ [] ρ') fun k => if k then bnd (meanI φ i1 ρ') fun p1 => if p1.th.isSome then stop else compL p1.gs (compF φ m t1 cs1 ρ') p1.xs else ret []) Si = .ok zs Sj := hf
    obtain ⟨ρ', Sa, ht', hf1⟩ := bnd_ok hf0
    clear hf hf0
    have ea := tgV_st.1 _ _ _ _ _ _ ht'
    subst ea
    obtain ⟨k, Sb, hk, hf⟩ := bnd_ok hf1
    clear hf1
    unfold meanC at hk
    obtain ⟨rfl, rfl⟩ := ret_ok hk
    rw [if_pos rfl] at hf
    obtain ⟨p1, Sc, hI1, hf⟩ := bnd_ok hf
    have hth1 : p1.th.isSome = false := by
      cases hx : p1.th.isSome with
      | false => rfl
      | true => rw [hx, if_pos rfl] at hf; exact (stop_ok hf).elim
    rw [hth1, if_neg Bool.false_ne_true] at hf
    refine ⟨hgo, fun H'' => ∃ m', m' < mm ∧ m' = p.xs.length - (i + 1) ∧ i + 1 ≤ p.xs.length ∧ ∃ Si Pi aV aW ysr, Ctx X.K FV ((D, .lst aW) :: (fr ++ F)) Si H'' (hold ++ Pi) ∧ (∀ p ∈ P, p ∈ Pi) ∧ aV.length = aW.length ∧ (∀ p ∈ aV.zip aW, p ∈ Pi) ∧
      compL2 p.gs (compG φ m t t1 i1 cs1 ρ) (p.xs.drop (i + 1)) Si = .ok ysr S2 ∧ ys = aV ++ ysr, fun H'' ⟨m', h1, h2⟩ => ⟨m', h1, h2⟩, fun w H'' hy => ?_⟩
    have c2 := hyl w H'' hy
    have hew : EnvOk (wipeE (wipeE ρ (slotsT t1)) (slotsT t)) (wipe σ (slotsT t ++ slotsT t1)) P := by
      rw [wipe_app]
      exact (e.wipe (slotsT t1)).wipe (slotsT t)
    refine ⟨_, wipeE (wipeE ρ (slotsT t1)) (slotsT t), Sa, _, p.xs[i], ρ', hew.sup (fun p hp => List.mem_cons_of_mem _ (List.mem_append_right _ (hP p hp))), c2, m1, tgV_wipe ht', fun σ' P' hp he hc3 hw => ?_⟩
    refine ⟨(hw (slotsT t ++ slotsT t1) fun _ h => List.mem_append_left _ h).trans (wipe_idem σ _), ?_⟩
    simp only [tYes, if_true]
    refine ⟨_, ρ', Sa, P', p1, Sc, he, hc3, hI1, hth1, fun J1 H4 hold1 fr1 wk1 c4 => ?_⟩
    have c4 := c4.frameMove
    have hhold : ∀ z ∈ hold, z ∈ P' := fun z hz => hp z (List.mem_cons_of_mem _ (List.mem_append_left _ hz))
    have hPi : ∀ z ∈ Pi, z ∈ P' := fun z hz => hp z (List.mem_cons_of_mem _ (List.mem_append_right _ hz))
    refine ⟨fun j kk H' => kk = p1.xs.length - j ∧ j ≤ p1.xs.length ∧ ∃ Sk Pk aV1 aW1 zr, Ctx X.K FV ((D, .lst aW1) :: (fr1 ++ (fr ++ F))) Sk H' (hold1 ++ Pk) ∧ (∀ p ∈ P', p ∈ Pk) ∧ aV1.length = aW1.length ∧ (∀ p ∈ aV1.zip aW1, p ∈ Pk) ∧
      compL p1.gs (compF φ m t1 cs1 ρ') (p1.xs.drop j) Sk = .ok zr Sj ∧ aV ++ zs = aV1 ++ zr, ⟨_, rfl, Nat.zero_le _, Sc, P', aV, aW, zs, c4, fun _ h => h, hl, fun z hz' => hPi z (hz z hz'), hf, rfl⟩, ?_⟩
    rintro j kk H5 ⟨hkk, hj, Sk, Pk, aV1, aW1, zr, ck, hPk, hl1, hz1, hcm1, hzs⟩
    by_cases hend1 : j = p1.xs.length
    · left
      subst hend1
      rw [List.drop_length] at hcm1
      obtain ⟨hs1, rfl, rfl⟩ := compL_nil hcm1
      refine ⟨wk1.done _ _ _ _ (fun p hp => List.mem_cons_of_mem _ (List.mem_append_left _ hp)) ck hs1, _, ?_, rfl, hlt, _, Pk, aV1, aW1, ys1, ?_, fun z hz => hPk z (hPi z (hP z hz)), hl1, hz1, hrest, ?_⟩
      · omega
      · refine (ck.frameSub (List.Sublist.cons₂ _ (List.sublist_append_right _ _))).sub fun z hz => ?_
        rcases List.mem_append.mp hz with hz | hz
        · exact List.mem_append_right _ (hPk z (hhold z hz))
        · exact List.mem_append_right _ hz
      · rw [List.append_nil] at hzs
        rw [hys, ← hzs, List.append_assoc]
    · right
      have hlt1 : j < p1.xs.length := by omega
      rw [List.drop_eq_getElem_cons hlt1] at hcm1
      obtain ⟨hs1, o, Sl, zs1, hf1, hrest1, rfl⟩ := compL_cons hcm1
      obtain ⟨hgo1, hyl1⟩ := wk1.item _ _ _ _ j p1.xs[j] (fun p hp => List.mem_cons_of_mem _ (List.mem_append_left _ hp)) (List.getElem?_eq_getElem hlt1) ck hs1
      have hf0 : bnd (tgV t1 p1.xs[j] ρ') (fun ρ' => bnd (meanC φ cs1 ρ') fun k => if k then bnd (meanE φ m ρ') fun y => ret (some y) else ret none) Sk = .ok o Sl := hf1
      clear hf1
      obtain ⟨ρ2, Sm, ht2, hf1⟩ := bnd_ok hf0
      clear hf0
      have ea := tgV_st.1 _ _ _ _ _ _ ht2
      subst ea
      obtain ⟨k, Sb, hk, hf1⟩ := bnd_ok hf1
      refine ⟨hgo1, fun H' => ∃ k', k' < kk ∧ k' = p1.xs.length - (j + 1) ∧ j + 1 ≤ p1.xs.length ∧ ∃ Sk Pk aV1 aW1 zr, Ctx X.K FV ((D, .lst aW1) :: (fr1 ++ (fr ++ F))) Sk H' (hold1 ++ Pk) ∧ (∀ p ∈ P', p ∈ Pk) ∧ aV1.length = aW1.length ∧ (∀ p ∈ aV1.zip aW1, p ∈ Pk) ∧
      compL p1.gs (compF φ m t1 cs1 ρ') (p1.xs.drop (j + 1)) Sk = .ok zr Sj ∧ aV ++ zs = aV1 ++ zr, fun H' ⟨k', h1, h2⟩ => ⟨k', h1, h2⟩, fun w1 H6 hy1 => ?_⟩
      have c6 := hyl1 w1 H6 hy1
      refine ⟨_, wipeE ρ' (slotsT t1), Sm, _, p1.xs[j], ρ2, (he.wipe (slotsT t1)).sup (fun z hz => List.mem_cons_of_mem _ (List.mem_append_right _ (hPk z hz))), c6, m1, tgV_wipe ht2, fun σ2 P2 hp2 he2 hc7 hw2 => ?_⟩
      refine ⟨(hw2 (slotsT t1) fun _ h => h).trans (wipe_idem σ' _), ?_⟩
      refine htt _ ρ2 Sm P2 k Sb σ2 H6 _ he2 hc7 hk fun H7 c8 => ?_
      cases k with
      | true =>
        rw [if_pos rfl] at hf1 ⊢
        obtain ⟨y, Sn, hy2, hf1⟩ := bnd_ok hf1
        obtain ⟨rfl, rfl⟩ := ret_ok hf1
        refine ⟨_, ρ2, Sb, P2, y, _, he2, c8, hy2, fun wy H8 c9 => ⟨aW1, c9.frameGet, ?_, _, ?_, rfl, hlt1, _, ((y, wy) :: Pk), aV1 ++ [y], aW1 ++ [wy], zs1, (c9.frameSet lst_free (fun _ _ e => nomatch e)).sub fun q hq => ?_, fun z hz => List.mem_cons_of_mem _ (hPk z hz), by simp [hl1], fun q hq => ?_, hrest1, by rw [hzs]; simp [optL]⟩⟩
        · have h5 : ys.length ≤ line := hlen
          have h6 : ys.length = aV1.length + (zs1.length + 1) + ys1.length := by
            have h7 := congrArg List.length hzs
            simp [optL] at h7
            rw [hys]
            simp
            omega
          have e3 : (line : Nat) = sizeLine := rfl
          omega
        · omega
        · rcases List.mem_append.mp hq with hq | hq
          · exact List.mem_cons_of_mem _ (hp2 _ (List.mem_cons_of_mem _ (List.mem_append_left _ hq)))
          · rcases List.mem_cons.mp hq with rfl | hq
            · exact m1
            · exact List.mem_cons_of_mem _ (hp2 _ (List.mem_cons_of_mem _ (List.mem_append_right _ hq)))
        · rw [List.zip_append hl1] at hq
          rcases List.mem_append.mp hq with hq | hq
          · exact List.mem_cons_of_mem _ (hz1 q hq)
          · simp at hq; subst hq; exact m1
      | false =>
        rw [if_neg Bool.false_ne_true] at hf1 ⊢
        obtain ⟨rfl, rfl⟩ := ret_ok hf1
        refine ⟨_, ?_, rfl, hlt1, _, Pk, aV1, aW1, zs1, c8.sub fun q hq => hp2 _ (List.mem_cons_of_mem _ hq), hPk, hl1, hz1, hrest1, hzs⟩
        omega
end
end MP
set_option linter.all false
set_option Elab.async false
set_option maxHeartbeats 1000000
namespace MP
open PySem L2 PySem.Spec PyProof.Rows
theorem relabel_lookup {env : PySem.Env} : ∀ {names : List (Str × NameKind)} {x : Str} {k : NameKind}, names.lookup x = some k →
    (names.map fun (n, k) => if (k == NameKind.free && env.scope.kind == .function && env.kindOf n == some .cell) then (n, NameKind.cell) else (n, k)).lookup x = some k ∨
      (k = .free ∧ (names.map fun (n, k) => if (k == NameKind.free && env.scope.kind == .function && env.kindOf n == some .cell) then (n, NameKind.cell) else (n, k)).lookup x = some .cell)
  | [], _, _, h => by simp at h
  | (n, k0) :: r, x, k, h => by
    have ih := @relabel_lookup env r x k
    rw [List.map_cons]
    rw [List.lookup_cons] at h
    by_cases hn : (x == n) = true
    · rw [hn] at h
      have h' : k0 = k := Option.some.inj h
      subst h'
      by_cases hc : (k0 == NameKind.free && env.scope.kind == .function && env.kindOf n == some .cell) = true
      · right
        refine ⟨?_, ?_⟩
        · simp only [Bool.and_eq_true] at hc
          exact eq_of_beq hc.1.1
        · show List.lookup x ((if (k0 == NameKind.free && env.scope.kind == .function && env.kindOf n == some .cell) = true then (n, NameKind.cell) else (n, k0)) :: _) = _
          rw [if_pos hc, List.lookup_cons, hn]
      · left
        show List.lookup x ((if (k0 == NameKind.free && env.scope.kind == .function && env.kindOf n == some .cell) = true then (n, NameKind.cell) else (n, k0)) :: _) = _
        rw [if_neg hc, List.lookup_cons, hn]
    · have hn' : (x == n) = false := by simpa using hn
      rw [hn'] at h
      have hh : ∀ z : NameKind, List.lookup x ((if (k0 == NameKind.free && env.scope.kind == .function && env.kindOf n == some .cell) = true then (n, NameKind.cell) else (n, k0)) :: (r.map fun (n, k) => if (k == NameKind.free && env.scope.kind == .function && env.kindOf n == some .cell) then (n, NameKind.cell) else (n, k))) =
          (r.map fun (n, k) => if (k == NameKind.free && env.scope.kind == .function && env.kindOf n == some .cell) then (n, NameKind.cell) else (n, k)).lookup x := fun _ => by
        by_cases hc : (k0 == NameKind.free && env.scope.kind == .function && env.kindOf n == some .cell) = true
        · rw [if_pos hc, List.lookup_cons, hn']
        · rw [if_neg hc, List.lookup_cons, hn']
      rcases ih h with e | ⟨e, e2⟩
      · exact .inl ((hh .free).trans e)
      · exact .inr ⟨e, (hh .free).trans e2⟩
theorem tru_st {x : Val} {S S' : Sto} {b : Bool} (h : truV x S = .ok b S') : S' = S := by
  unfold truV at h
  split at h
  all_goals first | (injection h with h1 h2; exact h2.symm) | cases h
/-- contexts that differ in the frame alone -/
structure Sim (X Y : Cx) : Prop where
  prog : Y.prog = X.prog
  w : Y.w = X.w
  K : Y.K = X.K
  mg : Y.mg = X.mg
  base : Y.base = X.base
  A : Y.A = X.A
  stack : Y.stack = X.stack
section
variable {FV : Glo} {φ : Nat → List Val → M Val}
theorem cok_blk {X : Cx} {Γ : TC} (ok : COk Γ X FV) (s : Shared) (H : Hp) (scope : Scope) (C : Addr) (cl : List (Str × Addr)) (fp : List Addr) : COk { Γ with names := scope.names } (X.blk s H scope (compEnvC scope cl C X.env) fp) FV where
  N := ok.N
  nd := ok.nd
  x := ⟨ok.x.w, ok.x.calm, ok.x.room, ok.x.gd, ok.x.sm⟩
  kinds := fun x k h => relabel_lookup h
  cells := fun x h => by
    show (scope.names.lookup x == some .cell) = true
    have h' : scope.names.lookup x = some .cell := h
    rw [h']; rfl
  gl := ok.gl
  blt := ok.blt
  con := ok.con
  kt := ok.kt
theorem sim_blk {X : Cx} (s : Shared) (H : Hp) (scope : Scope) (cenv : PySem.Env) (fp : List Addr) : Sim X (X.blk s H scope cenv fp) := ⟨rfl, rfl, rfl, rfl, rfl, rfl, rfl⟩
theorem Sim.trans {X Y Z : Cx} (a : Sim X Y) (b : Sim Y Z) : Sim X Z := ⟨b.prog.trans a.prog, b.w.trans a.w, b.K.trans a.K, b.mg.trans a.mg, b.base.trans a.base, b.A.trans a.A, b.stack.trans a.stack⟩
theorem blk_of {X : Cx} {Γ : TC} (ok : COk Γ X FV) {scope : Scope} {own : List (Str × Nat)} (h : blkC Γ.N (blkScope Γ) scope own = true) : BlkOk X.N X.env.scope scope own := by
  have b := blkOk_by h
  refine ⟨b.kind, b.uniq, fun p hp => by rw [ok.N]; exact b.ix p hp, fun y hy hf => ?_, fun y hy hk => by rw [ok.N]; exact b.own y hy hk⟩
  rcases b.free y hy hf with e | e
  · rcases ok.kinds _ _ e with q | ⟨q, _⟩
    · exact .inl q
    · cases q
  · rcases ok.kinds _ _ e with q | ⟨_, q⟩
    · exact .inr q
    · exact .inl q
theorem trAnd_cons {f : Expr → Option ME} {a b : Expr} {es : List Expr} {m : ME} (h : trAnd f (a :: b :: es) = some m) : ∃ x y, f a = some x ∧ trAnd f (b :: es) = some y ∧ m = .and x y := by
  unfold trAnd at h
  split at h
  · rename_i x y h1 h2; cases h; exact ⟨x, y, h1, h2, rfl⟩
  · cases h
theorem trOr_cons {f : Expr → Option ME} {a b : Expr} {es : List Expr} {m : ME} (h : trOr f (a :: b :: es) = some m) : ∃ x y, f a = some x ∧ trOr f (b :: es) = some y ∧ m = .or x y := by
  unfold trOr at h
  split at h
  · rename_i x y h1 h2; cases h; exact ⟨x, y, h1, h2, rfl⟩
  · cases h
section
variable {X : Cx}
theorem rd_one {op : BoolOp} {a : Expr} {m : ME} {pos : Pos} (h : PE X a (RD X.K FV φ m)) : PE X (.BoolOp op [a] pos) (RD X.K FV φ m) := pe_one h
/-- a chain of and as a test -/
theorem pw_rt_and {x y : ME} {a b : Expr} {rest : List Expr} {pos : Pos} (ha : PT X a (RT X.K FV φ x)) (hb : PW X (.BoolOp .And (b :: rest) pos) (RT X.K FV φ y)) : PW X (.BoolOp .And (a :: b :: rest) pos) (RT X.K FV φ (.and x y)) := by
  refine ⟨fun wh pins s σ H Q I ⟨F, ρ, S, P, k, S', e, c, hm, q⟩ => (pw_and ha hb).run wh pins s σ H Q I ?_⟩
  obtain ⟨v, S3, hm, ht⟩ := bnd_ok hm
  unfold meanE at hm
  obtain ⟨v1, S1, h1, hm⟩ := bnd_ok hm
  obtain ⟨k1, S2, h2, hm⟩ := bnd_ok hm
  refine ⟨F, ρ, S, P, k1, S2, e, c, by unfold bnd; rw [h1]; exact h2, fun H1 c1 => ?_⟩
  cases k1 with
  | true =>
    rw [if_pos rfl] at hm ⊢
    exact ⟨F, ρ, S2, P, k, S', e, c1, by unfold bnd; rw [hm]; exact ht, q⟩
  | false =>
    rw [if_neg Bool.false_ne_true] at hm ⊢
    obtain ⟨rfl, rfl⟩ := ret_ok hm
    have e2 := tru_st h2
    subst e2
    rw [h2] at ht
    cases ht
    exact q _ c1
theorem pw_rt_or {x y : ME} {a b : Expr} {rest : List Expr} {pos : Pos} (ha : PT X a (RT X.K FV φ x)) (hb : PW X (.BoolOp .Or (b :: rest) pos) (RT X.K FV φ y)) : PW X (.BoolOp .Or (a :: b :: rest) pos) (RT X.K FV φ (.or x y)) := by
  refine ⟨fun wh pins s σ H Q I ⟨F, ρ, S, P, k, S', e, c, hm, q⟩ => (pw_or ha hb).run wh pins s σ H Q I ?_⟩
  obtain ⟨v, S3, hm, ht⟩ := bnd_ok hm
  unfold meanE at hm
  obtain ⟨v1, S1, h1, hm⟩ := bnd_ok hm
  obtain ⟨k1, S2, h2, hm⟩ := bnd_ok hm
  refine ⟨F, ρ, S, P, k1, S2, e, c, by unfold bnd; rw [h1]; exact h2, fun H1 c1 => ?_⟩
  cases k1 with
  | false =>
    rw [if_neg Bool.false_ne_true] at hm ⊢
    exact ⟨F, ρ, S2, P, k, S', e, c1, by unfold bnd; rw [hm]; exact ht, q⟩
  | true =>
    rw [if_pos rfl] at hm ⊢
    obtain ⟨rfl, rfl⟩ := ret_ok hm
    have e2 := tru_st h2
    subst e2
    rw [h2] at ht
    cases ht
    exact q _ c1
theorem pt_rt_not {x : ME} {a : Expr} {pos : Pos} (ha : PT X a (RT X.K FV φ x)) : PT X (.UnaryOp .Not a pos) (RT X.K FV φ (.not x)) := by
  refine ⟨fun pins s σ H Q I ⟨F, ρ, S, P, k, S', e, c, hm, q⟩ => (pt_not ha).run pins s σ H Q I ?_⟩
  obtain ⟨v, S3, hm, ht⟩ := bnd_ok hm
  unfold meanE at hm
  obtain ⟨v1, S1, h1, hm⟩ := bnd_ok hm
  obtain ⟨k1, S2, h2, hm⟩ := bnd_ok hm
  obtain ⟨rfl, rfl⟩ := ret_ok hm
  unfold truV at ht
  cases ht
  exact ⟨F, ρ, S, P, k1, _, e, c, by unfold bnd; rw [h1]; exact h2, fun H1 c1 => q _ c1⟩
theorem pt_rt_ite {x y z : ME} {a b d : Expr} {pos : Pos} (hd : PT X d (RT X.K FV φ z)) (ha : PT X a (RT X.K FV φ x)) (hb : PT X b (RT X.K FV φ y)) : PT X (.IfExp d a b pos) (RT X.K FV φ (.ite z x y)) := by
  refine ⟨fun pins s σ H Q I ⟨F, ρ, S, P, k, S', e, c, hm, q⟩ => ?_⟩
  obtain ⟨v, S3, hm, ht⟩ := bnd_ok hm
  unfold meanE at hm
  obtain ⟨v1, S1, h1, hm⟩ := bnd_ok hm
  obtain ⟨k1, S2, h2, hm⟩ := bnd_ok hm
  show wpAny (model X.prog X.w) X.A (PySem.isTrue (.IfExp d a b pos) X.env _) (TP X pins σ Q) X.xe s
  rw [show ∀ w, PySem.isTrue (.IfExp d a b pos) X.env w = (do if ← PySem.isTrue d X.env (eval d X.env) then PySem.isTrue a X.env (eval a X.env) else PySem.isTrue b X.env (eval b X.env)) from fun _ => by simp [PySem.isTrue]]
  refine wpAny_bind (thn (hd.run pins s σ H (fun b1 H1 => if b1 = true then RT X.K FV φ x σ H1 Q else RT X.K FV φ y σ H1 Q) I ⟨F, ρ, S, P, k1, S2, e, c, by unfold bnd; rw [h1]; exact h2, fun H1 c1 => ?_⟩) fun b1 s1 ⟨H1, I1, q1⟩ => ?_)
  · cases k1 with
    | true =>
      rw [if_pos rfl] at hm ⊢
      exact ⟨F, ρ, _, _, k, S', e, c1, by unfold bnd; rw [hm]; exact ht, q⟩
    | false =>
      rw [if_neg Bool.false_ne_true] at hm ⊢
      exact ⟨F, ρ, _, _, k, S', e, c1, by unfold bnd; rw [hm]; exact ht, q⟩
  · cases b1 with
    | true =>
      rw [if_pos rfl] at q1 ⊢
      exact ha.run pins s1 σ H1 Q I1 q1
    | false =>
      rw [if_neg Bool.false_ne_true] at q1 ⊢
      exact hb.run pins s1 σ H1 Q I1 q1
end
end
end MP
set_option linter.all false
set_option Elab.async false
set_option maxHeartbeats 2000000
namespace MP
open PySem L2 PySem.Spec PyProof.Rows
section
variable {FV : Glo} {φ : Nat → List Val → M Val}
theorem fold_of {n : Nat} {Γ : TC} {tg e : Expr} {i : IT} (h : trE.trI n Γ tg e = some i) (env : PySem.Env) : ∀ x, foldedSetIterable e env x = pure x := by
  intro x
  cases e <;> first | rfl | skip
  cases n with
  | zero => simp [trE.trI] at h
  | succ n =>
    simp only [trE.trI] at h
    cases n <;> simp [trE] at h
theorem snd_bool {X : Cx} {n : Nat} {Γ : TC} (ih1 : ∀ e m, trE n Γ e = some m → PE X e (RD X.K FV φ m)) (pos : Pos) : ∀ (es : List Expr) (m : ME), (trAnd (trE n Γ) es = some m → PE X (.BoolOp .And es pos) (RD X.K FV φ m)) ∧ (trOr (trE n Γ) es = some m → PE X (.BoolOp .Or es pos) (RD X.K FV φ m))
  | [], m => ⟨fun h => by simp [trAnd] at h, fun h => by simp [trOr] at h⟩
  | [a], m => ⟨fun h => rd_one (ih1 a m (by simpa [trAnd] using h)), fun h => rd_one (ih1 a m (by simpa [trOr] using h))⟩
  | a :: b :: es, m => by
    refine ⟨fun h => ?_, fun h => ?_⟩
    · obtain ⟨x, y, h1, h2, rfl⟩ := trAnd_cons h
      exact pe_andV (ih1 _ _ h1) ((snd_bool ih1 pos (b :: es) y).1 h2)
    · obtain ⟨x, y, h1, h2, rfl⟩ := trOr_cons h
      exact pe_orV (ih1 _ _ h1) ((snd_bool ih1 pos (b :: es) y).2 h2)
theorem snd_boolT {X : Cx} {n : Nat} {Γ : TC} (ih2 : ∀ e m, trE n Γ e = some m → PT X e (RT X.K FV φ m)) (pos : Pos) : ∀ (es : List Expr) (m : ME), (trAnd (trE n Γ) es = some m → PW X (.BoolOp .And es pos) (RT X.K FV φ m)) ∧ (trOr (trE n Γ) es = some m → PW X (.BoolOp .Or es pos) (RT X.K FV φ m))
  | [], m => ⟨fun h => by simp [trAnd] at h, fun h => by simp [trOr] at h⟩
  | [a], m => ⟨fun h => pw_and1 (ih2 a m (by simpa [trAnd] using h)), fun h => pw_or1 (ih2 a m (by simpa [trOr] using h))⟩
  | a :: b :: es, m => by
    refine ⟨fun h => ?_, fun h => ?_⟩
    · obtain ⟨x, y, h1, h2, rfl⟩ := trAnd_cons h
      exact pw_rt_and (ih2 _ _ h1) ((snd_boolT ih2 pos (b :: es) y).1 h2)
    · obtain ⟨x, y, h1, h2, rfl⟩ := trOr_cons h
      exact pw_rt_or (ih2 _ _ h1) ((snd_boolT ih2 pos (b :: es) y).2 h2)
/-- a comprehension's parts -/
structure LcOk (X : Cx) (FV : Glo) (φ : Nat → List Val → M Val) (elt tg iter : Expr) (ifs : List Expr) (scope : Scope) (own : List (Str × Nat)) (m : ME) (t : Tg) (i : IT) (cs : List ME) : Prop where
  hi : PI X tg iter (RI X FV φ i)
  ok : BlkOk X.N X.env.scope scope own
  own : own.map (·.2) = slotsT t
  hg : ∀ (s : Shared) (H : Hp) (C : Addr) (cl : List (Str × Addr)) (fp : List Addr), PG (X.blk s H scope (compEnvC scope cl C X.env) fp) tg (RG X.K FV t)
  ht : ∃ tt, (∀ (s : Shared) (H : Hp) (C : Addr) (cl : List (Str × Addr)) (fp : List Addr), PTs (X.blk s H scope (compEnvC scope cl C X.env) fp) ifs tt) ∧
    ∀ (F : Fm) (ρ : Env) (S : Sto) (P : List (Val × V)) (k : Bool) (S' : Sto) (σ : L2.St) (H : Hp) (Q : Bool → Hp → Prop), EnvOk ρ σ P → Ctx X.K FV F S H P → meanC φ cs ρ S = .ok k S' → (∀ H', Ctx X.K FV F S' H' P → Q k H') → tt σ H Q
  he : ∀ (s : Shared) (H : Hp) (C : Addr) (cl : List (Str × Addr)) (fp : List Addr), PE (X.blk s H scope (compEnvC scope cl C X.env) fp) elt (RD X.K FV φ m)
  hs : ∀ x, foldedSetIterable iter X.env x = pure x
theorem pe_lcV {X : Cx} {Γ : TC} (ok : COk Γ X FV) {elt tg iter : Expr} {ifs : List Expr} {scope : Scope} {own : List (Str × Nat)} {m : ME} {t : Tg} {i : IT} {cs : List ME} {pos : Pos} (L : LcOk X FV φ elt tg iter ifs scope own m t i cs) :
    PE X (.ListComp elt [⟨tg, iter, ifs, 0⟩] scope pos) (RD X.K FV φ (.lc m t i cs)) := by
  obtain ⟨tt, h1, h2⟩ := L.ht
  refine ⟨fun pins s σ H Q I h => (pe_unl (pe_lc ok.calm (by rw [ok.N]; exact ok.nd) L.hi L.ok L.hg h1 L.he L.hs)).run pins s σ H Q I ?_⟩
  rw [L.own]
  exact lc_read h2 h
/-- a comprehension's parts, of two sources -/
structure Lc2Ok (X : Cx) (FV : Glo) (φ : Nat → List Val → M Val) (elt tg iter tg1 iter1 : Expr) (ifs1 : List Expr) (scope : Scope) (own : List (Str × Nat)) (m : ME) (t : Tg) (i : IT) (t1 : Tg) (i1 : IT) (cs1 : List ME) : Prop where
  hi : PI X tg iter (RI X FV φ i)
  ok : BlkOk X.N X.env.scope scope own
  own : own.map (·.2) = slotsT t ++ slotsT t1
  hg : ∀ (s : Shared) (H : Hp) (C : Addr) (cl : List (Str × Addr)) (fp : List Addr), PG (X.blk s H scope (compEnvC scope cl C X.env) fp) tg (RG X.K FV t)
  hi1 : ∀ (s : Shared) (H : Hp) (C : Addr) (cl : List (Str × Addr)) (fp : List Addr), PI (X.blk s H scope (compEnvC scope cl C X.env) fp) tg1 iter1 (RIn X.K FV φ i1)
  hg1 : ∀ (s : Shared) (H : Hp) (C : Addr) (cl : List (Str × Addr)) (fp : List Addr), PG (X.blk s H scope (compEnvC scope cl C X.env) fp) tg1 (RG X.K FV t1)
  ht : ∃ tt, (∀ (s : Shared) (H : Hp) (C : Addr) (cl : List (Str × Addr)) (fp : List Addr), PTs (X.blk s H scope (compEnvC scope cl C X.env) fp) ifs1 tt) ∧
    ∀ (F : Fm) (ρ : Env) (S : Sto) (P : List (Val × V)) (k : Bool) (S' : Sto) (σ : L2.St) (H : Hp) (Q : Bool → Hp → Prop), EnvOk ρ σ P → Ctx X.K FV F S H P → meanC φ cs1 ρ S = .ok k S' → (∀ H', Ctx X.K FV F S' H' P → Q k H') → tt σ H Q
  he : ∀ (s : Shared) (H : Hp) (C : Addr) (cl : List (Str × Addr)) (fp : List Addr), PE (X.blk s H scope (compEnvC scope cl C X.env) fp) elt (RD X.K FV φ m)
  hs : ∀ x, foldedSetIterable iter X.env x = pure x
  hs1 : ∀ env x, foldedSetIterable iter1 env x = pure x
theorem Lc2Ok.hv {X : Cx} {elt tg iter tg1 iter1 : Expr} {ifs1 : List Expr} {scope : Scope} {own : List (Str × Nat)} {m : ME} {t : Tg} {i : IT} {t1 : Tg} {i1 : IT} {cs1 : List ME} (L : Lc2Ok X FV φ elt tg iter tg1 iter1 ifs1 scope own m t i t1 i1 cs1) : ∀ j ∈ slotsT t1, j ∈ own.map (·.2) := fun j hj => by
  rw [L.own]; exact List.mem_append_right _ hj
theorem pe_lc2V {X : Cx} {Γ : TC} (ok : COk Γ X FV) {elt tg iter tg1 iter1 : Expr} {ifs1 : List Expr} {scope : Scope} {own : List (Str × Nat)} {m : ME} {t : Tg} {i : IT} {t1 : Tg} {i1 : IT} {cs1 : List ME} {pos : Pos} (L : Lc2Ok X FV φ elt tg iter tg1 iter1 ifs1 scope own m t i t1 i1 cs1) :
    PE X (.ListComp elt [⟨tg, iter, [], 0⟩, ⟨tg1, iter1, ifs1, 0⟩] scope pos) (RD X.K FV φ (.lc2 m t i [] t1 i1 cs1)) := by
  obtain ⟨tt, h1, h2⟩ := L.ht
  refine ⟨fun pins s σ H Q I h => (pe_unl (pe_lc2 ok.calm (by rw [ok.N]; exact ok.nd) L.hi L.ok L.hv L.hg (fun s H C cl fp => pts_nil) L.hi1 L.hg1 h1 L.he L.hs L.hs1)).run pins s σ H Q I ?_⟩
  rw [L.own]
  exact lc2_read h2 h
/-- THE SOUNDNESS of expressions -/
def LcEx (X : Cx) (FV : Glo) (φ : Nat → List Val → M Val) (n : Nat) (Γ : TC) : Prop := ∀ elt gs sc pos m, trE n Γ (.ListComp elt gs sc pos) = some m → (∃ tg it ifs own mm t i cs, gs = [⟨tg, it, ifs, 0⟩] ∧ m = .lc mm t i cs ∧ LcOk X FV φ elt tg it ifs sc own mm t i cs) ∨
  ∃ tg it tg1 it1 ifs1 own mm t i t1 i1 cs1, gs = [⟨tg, it, [], 0⟩, ⟨tg1, it1, ifs1, 0⟩] ∧ m = .lc2 mm t i [] t1 i1 cs1 ∧ Lc2Ok X FV φ elt tg it tg1 it1 ifs1 sc own mm t i t1 i1 cs1
theorem snd (X0 : Cx) (hco : ∀ X, Sim X0 X → CallOk X FV φ) : ∀ n, ∀ Γ X, COk Γ X FV → Sim X0 X → (∀ e m, trE n Γ e = some m → PE X e (RD X.K FV φ m)) ∧ (∀ e m, trE n Γ e = some m → PT X e (RT X.K FV φ m)) ∧ (∀ e i tg, trE.trI n Γ tg e = some i → PI X tg e (RI X FV φ i)) ∧ LcEx X FV φ n Γ
  | 0, Γ, X, _, _ => ⟨fun e m h => by simp [trE] at h, fun e m h => by simp [trE] at h, fun e i tg h => by simp [trE.trI] at h, fun elt gs sc pos m h => by simp [trE] at h⟩
  | n + 1, Γ, X, ok, sim => by
    obtain ⟨ih1, ih2, ih3, _⟩ := snd X0 hco n Γ X ok sim
    have pa := @pa_of X FV φ n Γ ih1
    have L : LcEx X FV φ (n + 1) Γ := by
      intro elt gs sc pos m h
      have gsz : (∃ tg it ifs, gs = [⟨tg, it, ifs, 0⟩]) ∨ ∃ tg it tg1 it1 ifs1, gs = [⟨tg, it, [], 0⟩, ⟨tg1, it1, ifs1, 0⟩] := by
        unfold trE at h
        split at h
        all_goals first | (cases h; done) | skip
        all_goals (rename_i q; first | (cases q; done) | skip)
        · injection q with q1 q2 q3 q4
          exact .inl ⟨_, _, _, q2⟩
        · injection q with q1 q2 q3 q4
          exact .inr ⟨_, _, _, _, _, q2⟩
      rcases gsz with ⟨tg, it, ifs, rfl⟩ | ⟨tg, it, tg1, it1, ifs1, rfl⟩
      rotate_left
      · unfold trE at h
        simp only at h
        split at h
        case isFalse => cases h
        rename_i hb
        have bok := blk_of ok hb
        have own2 : ∀ {t t1 : Tg}, trT n { Γ with names := sc.names } tg = some t → trT n { Γ with names := sc.names } tg1 = some t1 → (ownT n { Γ with names := sc.names } tg ++ ownT n { Γ with names := sc.names } tg1).map (·.2) = slotsT t ++ slotsT t1 := fun h2 h4 => by
          rw [List.map_append, (own_slots _).1 _ _ h2 _ (Nat.le_refl _), (own_slots _).1 _ _ h4 _ (Nat.le_refl _)]
        split at h
        · rename_i h1 h2 h3 h4 h5
          cases h
          refine .inr ⟨_, _, _, _, _, _, _, _, _, _, _, _, rfl, rfl, ⟨ih3 _ _ _ h3, bok, own2 h2 h4, fun s H C cl fp => (pg_tr (cok_blk ok s H _ C cl fp) n).1 _ _ h2, fun s H C cl fp => pi_n ((snd X0 hco n _ _ (cok_blk ok s H _ C cl fp) (sim.trans (sim_blk s H _ _ fp))).2.2.1 _ _ _ h5), fun s H C cl fp => (pg_tr (cok_blk ok s H _ C cl fp) n).1 _ _ h4, ⟨tYes, fun s H C cl fp => pts_nil, fun F ρ S P k S' σ H Q e c hm q => ?_⟩, fun s H C cl fp => (snd X0 hco n _ _ (cok_blk ok s H _ C cl fp) (sim.trans (sim_blk s H _ _ fp))).1 _ _ h1, fold_of h3 _, fun env => fold_of h5 env⟩⟩
          unfold meanC at hm
          obtain ⟨rfl, rfl⟩ := ret_ok hm
          exact q H c
        · rename_i h1 h2 h3 h4 h5
          obtain ⟨k, hk, rfl⟩ := Option.map_eq_some_iff.mp h
          refine .inr ⟨_, _, _, _, _, _, _, _, _, _, _, _, rfl, rfl, ⟨ih3 _ _ _ h3, bok, own2 h2 h4, fun s H C cl fp => (pg_tr (cok_blk ok s H _ C cl fp) n).1 _ _ h2, fun s H C cl fp => pi_n ((snd X0 hco n _ _ (cok_blk ok s H _ C cl fp) (sim.trans (sim_blk s H _ _ fp))).2.2.1 _ _ _ h5), fun s H C cl fp => (pg_tr (cok_blk ok s H _ C cl fp) n).1 _ _ h4, ⟨RT X.K FV φ k, fun s H C cl fp => pts_one ((snd X0 hco n _ _ (cok_blk ok s H _ C cl fp) (sim.trans (sim_blk s H _ _ fp))).2.1 _ _ hk), fun F ρ S P kk S' σ H Q e c hm q => ?_⟩, fun s H C cl fp => (snd X0 hco n _ _ (cok_blk ok s H _ C cl fp) (sim.trans (sim_blk s H _ _ fp))).1 _ _ h1, fold_of h3 _, fun env => fold_of h5 env⟩⟩
          unfold meanC at hm
          obtain ⟨v, S1, m1', hm⟩ := bnd_ok hm
          obtain ⟨k1, S2, m2', hm⟩ := bnd_ok hm
          have e2 : kk = k1 ∧ S' = S2 := by
            cases k1 with
            | true =>
              rw [if_pos rfl] at hm
              unfold meanC at hm
              obtain ⟨rfl, rfl⟩ := ret_ok hm
              exact ⟨rfl, rfl⟩
            | false =>
              rw [if_neg Bool.false_ne_true] at hm
              obtain ⟨rfl, rfl⟩ := ret_ok hm
              exact ⟨rfl, rfl⟩
          obtain ⟨rfl, rfl⟩ := e2
          exact ⟨F, ρ, S, P, kk, S', e, c, by unfold bnd; rw [m1']; exact m2', q⟩
        · cases h
      unfold trE at h
      simp only at h
      split at h
      · rename_i hb
        have bok := blk_of ok hb
        split at h
        · rename_i h1 h2 h3
          cases h
          refine .inl ⟨_, _, _, _, _, _, _, _, rfl, rfl, ⟨ih3 _ _ _ h3, bok, (own_slots _).1 _ _ h2 _ (Nat.le_refl _), fun s H C cl fp => (pg_tr (cok_blk ok s H _ C cl fp) n).1 _ _ h2, ⟨tYes, fun s H C cl fp => pts_nil, fun F ρ S P k S' σ H Q e c hm q => ?_⟩, fun s H C cl fp => (snd X0 hco n _ _ (cok_blk ok s H _ C cl fp) (sim.trans (sim_blk s H _ _ fp))).1 _ _ h1, fold_of h3 _⟩⟩
          unfold meanC at hm
          obtain ⟨rfl, rfl⟩ := ret_ok hm
          exact q H c
        · rename_i h1 h2 h3
          obtain ⟨k, hk, rfl⟩ := Option.map_eq_some_iff.mp h
          refine .inl ⟨_, _, _, _, _, _, _, _, rfl, rfl, ⟨ih3 _ _ _ h3, bok, (own_slots _).1 _ _ h2 _ (Nat.le_refl _), fun s H C cl fp => (pg_tr (cok_blk ok s H _ C cl fp) n).1 _ _ h2, ⟨RT X.K FV φ k, fun s H C cl fp => pts_one ((snd X0 hco n _ _ (cok_blk ok s H _ C cl fp) (sim.trans (sim_blk s H _ _ fp))).2.1 _ _ hk), fun F ρ S P kk S' σ H Q e c hm q => ?_⟩, fun s H C cl fp => (snd X0 hco n _ _ (cok_blk ok s H _ C cl fp) (sim.trans (sim_blk s H _ _ fp))).1 _ _ h1, fold_of h3 _⟩⟩
          unfold meanC at hm
          obtain ⟨v, S1, m1', hm⟩ := bnd_ok hm
          obtain ⟨k1, S2, m2', hm⟩ := bnd_ok hm
          have e2 : kk = k1 ∧ S' = S2 := by
            cases k1 with
            | true =>
              rw [if_pos rfl] at hm
              unfold meanC at hm
              obtain ⟨rfl, rfl⟩ := ret_ok hm
              exact ⟨rfl, rfl⟩
            | false =>
              rw [if_neg Bool.false_ne_true] at hm
              obtain ⟨rfl, rfl⟩ := ret_ok hm
              exact ⟨rfl, rfl⟩
          obtain ⟨rfl, rfl⟩ := e2
          exact ⟨F, ρ, S, P, kk, S', e, c, by unfold bnd; rw [m1']; exact m2', q⟩
        · cases h
      · cases h
    have E : ∀ e m, trE (n + 1) Γ e = some m → PE X e (RD X.K FV φ m) := by
      intro e m h
      have h0 := h
      unfold trE at h
      split at h
      · obtain ⟨v, hv, rfl⟩ := Option.map_eq_some_iff.mp h
        exact pe_const hv
      · exact pe_name ok h
      · split at h
        · rename_i h1 h2; cases h; exact pe_bin ok.x (ih1 _ _ h1) (ih1 _ _ h2)
        · cases h
      · obtain ⟨x, hx, rfl⟩ := Option.map_eq_some_iff.mp h
        exact pe_neg (ih1 _ _ hx)
      · obtain ⟨x, hx, rfl⟩ := Option.map_eq_some_iff.mp h
        exact pe_notV (ih1 _ _ hx)
      · exact (snd_bool ih1 _ _ _).1 h
      · exact (snd_bool ih1 _ _ _).2 h
      · split at h
        · rename_i h1 h2 h3; cases h; exact pe_ite (ih2 _ _ h1) (ih1 _ _ h2) (ih1 _ _ h3)
        · cases h
      · split at h
        · rename_i h1 h2; cases h; exact pe_cmpV ok.x (ih1 _ _ h1) (ih1 _ _ h2) (nomark_of h2)
        · cases h
      · split at h
        · rename_i h1 h2 h3; cases h; exact pe_chn ok.x (ih1 _ _ h1) (ih1 _ _ h2) (ih1 _ _ h3) (nomark_of h3)
        · cases h
      · obtain ⟨ms, hms, rfl⟩ := Option.map_eq_some_iff.mp h
        exact pe_tupV (pa hms)
      · obtain ⟨ms, hms, rfl⟩ := Option.map_eq_some_iff.mp h
        exact pe_lstV (pa hms)
      · split at h
        · rename_i h15
          obtain ⟨ms, hms, rfl⟩ := Option.map_eq_some_iff.mp h
          exact pe_dctV ok.x ih1 hms h15
        · cases h
      · split at h
        · rename_i h1 h2 h3; cases h; exact pe_slV ih1 (ih1 _ _ h1) h2 h3
        · cases h
      · obtain ⟨x, hx, rfl⟩ := Option.map_eq_some_iff.mp h
        exact pe_revV (ih1 _ _ hx)
      · split at h
        · rename_i hp
          split at h
          · rename_i h1 h2; cases h; exact pe_ixV ok.x (ih1 _ _ h1) (ih1 _ _ h2) hp
          · cases h
        · cases h
      · split at h
        · rename_i hb
          simp only [Bool.and_eq_true] at hb
          split at h
          · rename_i h1 h2; cases h; exact pe_isiV ok hb.1 hb.2 h2 h1 (ih1 _ _ h1)
          · cases h
        · cases h
      · split at h
        · rename_i hb
          simp only [Bool.and_eq_true, decide_eq_true_eq] at hb
          split at h
          · rename_i h1 h2 h3; cases h; exact pe_mtdV ok hb.1.1 hb.1.2 hb.2 h2 h3 (ih1 _ _ h1) (pa h3)
          · cases h
        · cases h
      · split at h
        · rename_i hb
          split at h
          · rename_i h1 h2; cases h; exact pe_bltV ok hb h1 h2 (pa h2)
          · rename_i h1 h2; exact pe_vwV ok hb h1 h (fun e m => ih1 e m)
          · cases h
        · split at h
          · rename_i hp
            split at h
            · rename_i h1 h2 h3; cases h; exact pe_cal ok (hco X sim) hp h1 h2 h3 (pa h3)
            · cases h
          · cases h
      · split at h
        · rename_i hp
          split at h
          · rename_i h1 h2 h3 h4 h5
            obtain ⟨st, hst, rfl⟩ := Option.map_eq_some_iff.mp h
            exact pe_calk ok (hco X sim) ih1 hp h1 h2 h3 h4 h5 hst
          · cases h
        · cases h
      · rcases L _ _ _ _ _ h0 with ⟨tg, it, ifs, own, mm, t, i, cs, hg, rfl, lc⟩ | ⟨tg, it, tg1, it1, ifs1, own, mm, t, i, t1, i1, cs1, hg, rfl, lc⟩
        · cases hg
          exact pe_lcV ok lc
        · cases hg
      · rcases L _ _ _ _ _ h0 with ⟨tg, it, ifs, own, mm, t, i, cs, hg, rfl, lc⟩ | ⟨tg, it, tg1, it1, ifs1, own, mm, t, i, t1, i1, cs1, hg, rfl, lc⟩
        · cases hg
        · cases hg
          exact pe_lc2V ok lc
      · cases h
    refine ⟨E, fun e m h => ?_, fun e i tg h => ?_, L⟩
    · have hE := E e m h
      unfold trE at h
      split at h
      · exact rt_of hE
      · exact rt_of hE
      · exact rt_of hE
      · exact rt_of hE
      · obtain ⟨x, hx, rfl⟩ := Option.map_eq_some_iff.mp h
        exact pt_rt_not (ih2 _ _ hx)
      · exact ((snd_boolT ih2 _ _ m).1 h).pt
      · exact ((snd_boolT ih2 _ _ m).2 h).pt
      · split at h
        · rename_i h1 h2 h3; cases h; exact pt_rt_ite (ih2 _ _ h1) (ih2 _ _ h2) (ih2 _ _ h3)
        · cases h
      · split at h
        · rename_i h1 h2; cases h; exact pt_cmpV ok.x (ih1 _ _ h1) (ih1 _ _ h2) (nomark_of h2)
        · cases h
      · split at h
        · rename_i h1 h2 h3; cases h; exact pt_chn ok.x (ih1 _ _ h1) (ih1 _ _ h2) (ih1 _ _ h3) (nomark_of h3)
        · cases h
      all_goals first
        | exact rt_of hE
        | (cases h; done)
    · unfold trE.trI at h
      split at h
      · split at h
        · rename_i hb
          obtain ⟨m, hm, rfl⟩ := Option.map_eq_some_iff.mp h
          exact pi_rng1 ok hb hm (ih1 _ _ hm) (pa (es := [_]) (ms := [m]) (by simp [trL, hm]))
        · split at h
          · rename_i hb
            simp only [Bool.and_eq_true] at hb
            obtain ⟨m, hm, rfl⟩ := Option.map_eq_some_iff.mp h
            cases tg <;> first
              | exact pi_enuV ok hb.1 hm (pa (es := [_]) (ms := [m]) (by simp [trL, hm]))
              | (exfalso; simp [isTupE] at hb; done)
          · obtain ⟨m, hm, rfl⟩ := Option.map_eq_some_iff.mp h
            exact pi_ex (ih1 _ _ hm)
      · split at h
        · rename_i hb
          split at h
          · rename_i h1 h2
            cases h
            exact pi_rng2 ok hb h1 h2 (pa (es := [_, _]) (ms := [_, _]) (by simp [trL, h1, h2]))
          · cases h
        · split at h
          · rename_i hb
            simp only [Bool.and_eq_true] at hb
            split at h
            · rename_i h1 h2
              cases h
              cases tg <;> first
                | exact pi_zipV ok hb.1 h1 h2 (pa (es := [_, _]) (ms := [_, _]) (by simp [trL, h1, h2]))
                | (exfalso; simp [isTupE] at hb; done)
            · cases h
          · obtain ⟨m, hm, rfl⟩ := Option.map_eq_some_iff.mp h
            exact pi_ex (ih1 _ _ hm)
      · split at h
        · rename_i hb
          split at h
          · rename_i h1 h2 h3
            cases h
            exact pi_rng3 ok hb h1 h2 h3 (pa (es := [_, _, _]) (ms := [_, _, _]) (by simp [trL, h1, h2, h3]))
          · cases h
        · obtain ⟨m, hm, rfl⟩ := Option.map_eq_some_iff.mp h
          exact pi_ex (ih1 _ _ hm)
      · split at h
        · rename_i hb
          simp only [Bool.and_eq_true] at hb
          obtain ⟨m, hm, rfl⟩ := Option.map_eq_some_iff.mp h
          have hn := eq_of_beq hb.1.2
          subst hn
          cases tg <;> first
            | exact pi_itmV hb.1.1.1 hb.1.1.2 (ih1 _ _ hm)
            | (exfalso; simp [isTupE] at hb; done)
        · split at h
          · rename_i hb
            simp only [Bool.and_eq_true] at hb
            obtain ⟨m, hm, rfl⟩ := Option.map_eq_some_iff.mp h
            have hn := eq_of_beq hb.2
            subst hn
            exact pi_vlsV hb.1.1 hb.1.2 (ih1 _ _ hm)
          · obtain ⟨m, hm, rfl⟩ := Option.map_eq_some_iff.mp h
            exact pi_ex (ih1 _ _ hm)
      · obtain ⟨m, hm, rfl⟩ := Option.map_eq_some_iff.mp h
        exact pi_ex (ih1 _ _ hm)
end
end MP
set_option linter.all false
set_option Elab.async false
set_option maxHeartbeats 2000000
namespace MP
open PySem L2 PySem.Spec PyProof.Rows
/-! ### statements -/
def isLc : Expr → Bool
  | .ListComp .. => true
  | .SetComp .. => true
  | .DictComp .. => true
  | _ => false
def isTup : Expr → Bool
  | .Tuple .. => true
  | .List .. => true
  | _ => false
/-- whether name = [..] is stored within the comprehension -/
def swB (Γ : TC) (y : Str) (py : Pos) (e : Expr) : Bool := match e with
  | .ListComp _ _ sc pos => decide (Γ.names.lookup y = some .local) && (py.line == pos.line) && !(sc.names.any fun (n, k) => n == y && (k == .local || k == .cell))
  | _ => false
def trSs (f : Stmt → Option MS) : List Stmt → Option (List MS)
  | [] => some []
  | s :: ss => match f s, trSs f ss with
    | some m, some ms => some (m :: ms)
    | _, _ => none
/-- x, y = a, b of plain names: the model stores them from the right, by no tuple -/
def parB (Γ : TC) (x y : Str) (px py : Pos) (a b : Expr) : Bool := decide (Γ.names.lookup x = some .local) && decide (Γ.names.lookup y = some .local) && (px.line == py.line) && !(x == y) && !(foldedForSure 8 a && foldedForSure 8 b) && !(constantsAlone 8 a && constantsAlone 8 b)
def trS : Nat → TC → Stmt → Option MS
  | 0, _, _ => none
  | n + 1, Γ, s => match s with
    | .Return (some e) _ => (trE n Γ e).map .ret
    | .Return none _ => some .retN
    | .Pass _ => some .pass
    | .Break _ => some .brk
    | .Continue _ => some .cnt
    | .Raise _ _ _ => some .bad
    | .Assign [.Subscript a i _] e _ => if plainIxB i then match trE n Γ a, trE n Γ i, trE n Γ e with
      | some x, some k, some m => some (.put x k m)
      | _, _, _ => none
      else none
    | .AugAssign (.Subscript a i _) o e _ => if plainIxB i then match trE n Γ a, trE n Γ i, trE n Γ e with
      | some x, some k, some m => some (.augx x k o m)
      | _, _, _ => none
      else none
    | .Assign [.Tuple [.Name x px, .Name y py] _ _] (.Tuple [a, b] _ _) _ => if parB Γ x y px py a b then match Γ.N.findIdx? (· == x), Γ.N.findIdx? (· == y), trE n Γ a, trE n Γ b with
      | some i, some j, some m, some k => some (.asg (.tp [.nm i, .nm j]) (.tup [m, k]))
      | _, _, _, _ => none
      else none
    | .Assign [tg] e _ => if isTup tg && isTup e then none else match trT n Γ tg, trE n Γ e with
      | some t, some m => some (.asg t m)
      | _, _ => none
    | .AugAssign (.Name x _) o e _ => if plainNm x && decide (Γ.names.lookup x = some .local) then match Γ.N.findIdx? (· == x), trE n Γ e with
        | some i, some m => some (.aug i o m)
        | _, _ => none
      else none
    | .Expr e _ => if isLc e then none else (trE n Γ e).map .exp
    | .If c a b _ => match trE n Γ c, trSs (trS n Γ) a, trSs (trS n Γ) b with
      | some k, some x, some y => some (.ite k x y)
      | _, _, _ => none
    | .While c b [] _ => match trE n Γ c, trSs (trS n Γ) b with
      | some k, some x => some (.whl k x)
      | _, _ => none
    | .For tg it b [] _ => match trT n Γ tg, trE.trI n Γ tg it, trSs (trS n Γ) b with
      | some t, some i, some x => some (.for_ t i x)
      | _, _, _ => none
    | _ => none
/-- what is wanted behind a statement, by its end -/
def Done (K : PySem.W.Frag) (FV : Glo) (F : Fm) (P : List (Val × V)) (D : Ends) (S : Sto) : Fl → Prop
  | .nx ρ => ∀ σ H P', (∀ p ∈ P, p ∈ P') → EnvOk ρ σ P' → Ctx K FV F S H P' → D.nx σ H
  | .rt v => ∀ w H, Ctx K FV F S H ((v, w) :: P) → D.rt w H
  | .bk ρ => ∀ σ H P', (∀ p ∈ P, p ∈ P') → EnvOk ρ σ P' → Ctx K FV F S H P' → D.bk σ H
  | .ct ρ => ∀ σ H P', (∀ p ∈ P, p ∈ P') → EnvOk ρ σ P' → Ctx K FV F S H P' → D.ct σ H
def RS (K : PySem.W.Frag) (FV : Glo) (m : Env → M Fl) : TS := fun D σ H => ∃ F ρ S P r S', EnvOk ρ σ P ∧ Ctx K FV F S H P ∧ m ρ S = .ok r S' ∧ Done K FV F P D S' r
section
variable {X : Cx} {FV : Glo} {φ : Nat → List Val → M Val} {W : Nat}
theorem swaps_false {Γ : TC} (ok : COk Γ X FV) (hk : X.env.scope.kind = .function) {e tg : Expr} {l : Nat} (h : ∀ y p, tg = .Name y p → swB Γ y p e = false) {n : Nat} {t : Tg} (ht : trT n Γ tg = some t) (hl : ∀ a b c d p, e ≠ .SetComp a b c p ∧ e ≠ .DictComp a d b c p) :
    swapsWith e (some tg) l X.env = pure false := by
  cases e with
  | ListComp elt gs sc pos =>
    cases tg with
    | Name y p =>
      have h1 := h y p rfl
      unfold swapsWith
      show (pure (X.env.blockKind == .function && X.env.kindOf y == some .local && p.line == pos.line && !(sc.names.any fun (n, k) => n == y && (k == .local || k == .cell))) : Sem Bool) = pure false
      congr 1
      unfold swB at h1
      by_cases hlo : Γ.names.lookup y = some .local
      · simp only [hlo, decide_true, Bool.true_and] at h1
        rw [Bool.and_assoc, h1, Bool.and_false]
      · have hc : X.env.kindOf y ≠ some .local := by
          have : Γ.names.lookup y = some .cell := by
            cases n with
            | zero => simp [trT] at ht
            | succ n =>
              unfold trT at ht
              simp only at ht
              split at ht
              · split at ht
                · rename_i hh; exact absurd hh hlo
                · rename_i hh; exact hh
                · cases ht
              · cases ht
          rcases ok.kinds y _ this with q | ⟨q, _⟩
          · show X.env.scope.names.lookup y ≠ some .local
            rw [q]; intro z; cases z
          · cases q
        have : (X.env.kindOf y == some .local) = false := by
          cases hz : (X.env.kindOf y == some .local) with
          | false => rfl
          | true => exact absurd (eq_of_beq hz) hc
        rw [this]; simp
    | _ => rfl
  | SetComp a b c p => exact absurd rfl (hl a b c a p).1
  | DictComp a d b c p => exact absurd rfl (hl a b c d p).2
  | _ => rfl
theorem swapped_none {tg e : Expr} {env : PySem.Env} (h : (isTup tg && isTup e) = false) : swappedStores [tg] e env = pure none := by
  cases tg <;> first | rfl | (cases e <;> first | rfl | (simp [isTup] at h))
theorem ps_asgV {Γ : TC} (ok : COk Γ X FV) (hk : X.env.scope.kind = .function) {tg e : Expr} {t : Tg} {m : ME} {pos : Pos} {n : Nat} (hg : PG X tg (RG X.K FV t)) (ht : trT n Γ tg = some t) (he : PE X e (RD X.K FV φ m)) (htup : (isTup tg && isTup e) = false)
    (h : ∀ y p, tg = .Name y p → swB Γ y p e = false) (hl : ∀ a b c d p, e ≠ .SetComp a b c p ∧ e ≠ .DictComp a d b c p) : PS X (.Assign [tg] e pos) (RS X.K FV (meanS φ W (.asg t m))) := by
  refine ⟨fun pins s σ H D I ⟨F, ρ, S, P, r, S', e', c, hm, q⟩ => (ps_asg he hg (swaps_false ok hk h ht hl) (swapped_none htup) (by rw [assignEach_cons (trT_star ht)]; rfl)).run pins s σ H D I ?_⟩
  unfold meanS at hm
  obtain ⟨v, S1, h1, hm⟩ := bnd_ok hm
  obtain ⟨ρ', S2, h2, hm⟩ := bnd_ok hm
  obtain ⟨rfl, rfl⟩ := ret_ok hm
  have e2 := tgV_st.1 _ _ _ _ _ _ h2
  subst e2
  refine ⟨F, ρ, S, P, v, _, e', c, h1, fun w H1 c1 => ⟨F, ρ, _, _, v, ρ', e'.cons, c1, m1, h2, fun σ' P' hp he hc _ => q σ' H1 P' (fun p hpp => hp p (List.mem_cons_of_mem _ hpp)) he hc⟩⟩
theorem par_sw {x y : Str} {px py pt pt2 : Pos} {kt k2} {a b : Expr} {env : PySem.Env} (hk : env.blockKind = .function) (hx : env.kindOf x = some .local) (hy : env.kindOf y = some .local) (hl : (px.line == py.line) = true) (hn : (x == y) = false)
    (h1 : (foldedForSure 8 a && foldedForSure 8 b) = false) (h2 : (constantsAlone 8 a && constantsAlone 8 b) = false) (sa : ∀ e p, a ≠ .Starred e p) (sb : ∀ e p, b ≠ .Starred e p) :
    swappedStores [.Tuple [.Name x px, .Name y py] kt pt] (.Tuple [a, b] k2 pt2) env = pure (some [x, y]) := by
  have hst : ([a, b].any fun | .Starred .. => true | _ => false) = false := by
    cases a <;> first | exact absurd rfl (sa _ _) | (cases b <;> first | exact absurd rfl (sb _ _) | rfl)
  have e1 : py.line = px.line := (eq_of_beq hl).symm
  have e0 : ([Expr.Name x px, Expr.Name y py].filterMap fun
    | .Name id pos => if env.kindOf id == some .local && pos.line == px.line then some id else none
    | _ => none) = [x, y] := by
    have q1 : (if (env.kindOf x == some .local && px.line == px.line) = true then some x else none) = some x := by rw [hx, if_pos (by simp)]
    have q2 : (if (env.kindOf y == some .local && py.line == px.line) = true then some y else none) = some y := by rw [hy, e1, if_pos (by simp)]
    refine (List.filterMap_cons_some (a := Expr.Name x px) (l := [Expr.Name y py]) (b := x) (by exact q1)).trans ?_
    refine congrArg (x :: ·) ?_
    exact (List.filterMap_cons_some (a := Expr.Name y py) (l := []) (b := y) (by exact q2)).trans rfl
  have e2 : ([x, y].eraseDups.length) = 2 := by
    have hn' : (y == x) = false := by
      cases q : y == x with
      | false => rfl
      | true => rw [eq_of_beq q] at hn; simp at hn
    simp [List.eraseDups_cons, hn']
  unfold swappedStores
  simp only [List.length_cons, List.length_nil, hk]
  refine (if_neg (by decide)).trans ?_
  refine (if_neg (fun h => absurd (hst.symm.trans h) (by decide))).trans ?_
  refine (if_neg (fun h => ?_)).trans ?_
  · have h' : ([x, y].length != 2 || [x, y].eraseDups.length != [x, y].length) = true := by
      rw [← e0]; exact h
    rw [e2] at h'
    exact absurd h' (by simp)
  refine (if_neg (fun h => ?_)).trans ?_
  · have h' : (foldedForSure 8 a && (foldedForSure 8 b && true)) = true := h
    rw [Bool.and_true, h1] at h'
    cases h'
  refine (if_neg (fun h => ?_)).trans ?_
  · have h' : (constantsAlone 8 a && (constantsAlone 8 b && true)) = true := h
    rw [Bool.and_true, h2] at h'
    cases h'
  exact congrArg (fun z => pure (some z)) e0
theorem ps_parV {Γ : TC} (ok : COk Γ X FV) (hk : X.env.scope.kind = .function) {x y : Str} {px py pt pt2 pos : Pos} {kt k2} {a b : Expr} {m k : ME} {i j : Nat} (hi : Γ.N.findIdx? (· == x) = some i) (hj : Γ.N.findIdx? (· == y) = some j)
    (hp : parB Γ x y px py a b = true) (ha : PA X [a, b] (RA X.K FV φ [m, k])) (sa : ∀ e p, a ≠ .Starred e p) (sb : ∀ e p, b ≠ .Starred e p) :
    PS X (.Assign [.Tuple [.Name x px, .Name y py] kt pt] (.Tuple [a, b] k2 pt2) pos) (RS X.K FV (meanS φ W (.asg (.tp [.nm i, .nm j]) (.tup [m, k])))) := by
  unfold parB at hp
  simp only [Bool.and_eq_true, Bool.not_eq_true', decide_eq_true_eq] at hp
  obtain ⟨⟨⟨⟨⟨hx, hy⟩, hl⟩, hn⟩, h1⟩, h2⟩ := hp
  have kx : X.env.scope.names.lookup x = some .local := by
    rcases ok.kinds x _ hx with h | ⟨h, _⟩
    · exact h
    · cases h
  have ky : X.env.scope.names.lookup y = some .local := by
    rcases ok.kinds y _ hy with h | ⟨h, _⟩
    · exact h
    · cases h
  have hij : i ≠ j := fun e => by
    subst e
    have e1 := find_ix hi
    rw [find_ix hj] at e1
    cases e1
    simp at hn
  have hb : X.env.blockKind = .function := by unfold PySem.Env.blockKind; rw [hk]; rfl
  refine ⟨fun pins s σ H D I ⟨F, ρ, S, P, r, S', e', c, hm, q⟩ => (ps_par ok.calm (by rw [ok.N]; exact ok.nd) (by rw [ok.N]; exact find_ix hi) (by rw [ok.N]; exact find_ix hj) hij kx ky ha (par_sw hb kx ky hl hn h1 h2 sa sb)).run pins s σ H D I ?_⟩
  unfold meanS at hm
  obtain ⟨v, S1, hv, hm⟩ := bnd_ok hm
  obtain ⟨ρ', S2, ht, hm⟩ := bnd_ok hm
  obtain ⟨rfl, rfl⟩ := ret_ok hm
  unfold meanE at hv
  obtain ⟨vs, S3, hvs, hv⟩ := bnd_ok hv
  split at hv
  case isFalse => cases hv
  cases hv
  refine ⟨F, ρ, S, P, vs, _, e', c, hvs, fun ws H' hlen c1 => ?_⟩
  unfold tgV at ht
  match vs, ws, hlen, ht, c1 with
  | [v1, v2], [w1, w2], _, ht, c1 =>
    refine ⟨w1, w2, rfl, ?_⟩
    unfold tgsV at ht
    obtain ⟨r1, S4, t1, ht⟩ := bnd_ok ht
    unfold tgV at t1
    obtain ⟨rfl, rfl⟩ := ret_ok t1
    unfold tgsV at ht
    obtain ⟨r2, S5, t2, ht⟩ := bnd_ok ht
    unfold tgV at t2
    obtain ⟨rfl, rfl⟩ := ret_ok t2
    unfold tgsV at ht
    obtain ⟨rfl, rfl⟩ := ret_ok ht
    exact q _ H' _ (fun p hp => List.mem_append_right _ hp) ((e'.app.set m1).set (List.mem_cons_of_mem _ m1)) c1
  | [], _, _, ht, _ => unfold tgsV at ht; exact (stop_ok ht).elim
  | [_], _, _, ht, _ =>
    unfold tgsV at ht
    obtain ⟨r1, S4, t1, ht⟩ := bnd_ok ht
    unfold tgsV at ht
    exact (stop_ok ht).elim
  | _ :: _ :: _ :: _, _, _, ht, _ =>
    unfold tgsV at ht
    obtain ⟨r1, S4, t1, ht⟩ := bnd_ok ht
    unfold tgsV at ht
    obtain ⟨r2, S5, t2, ht⟩ := bnd_ok ht
    unfold tgsV at ht
    exact (stop_ok ht).elim
theorem ps_asgLc {Γ : TC} (ok : COk Γ X FV) (hk : X.env.scope.kind = .function) {y : Str} {py pos spos : Pos} {elt tg iter : Expr} {ifs : List Expr} {scope : Scope} {own : List (Str × Nat)} {m : ME} {t : Tg} {i : IT} {cs : List ME} {j : Nat} (hi : Γ.N.findIdx? (· == y) = some j)
    (hsw : swB Γ y py (.ListComp elt [⟨tg, iter, ifs, 0⟩] scope pos) = true) (L : LcOk X FV φ elt tg iter ifs scope own m t i cs) : PS X (.Assign [.Name y py] (.ListComp elt [⟨tg, iter, ifs, 0⟩] scope pos) spos) (RS X.K FV (meanS φ W (.asg (.nm j) (.lc m t i cs)))) := by
  unfold swB at hsw
  simp only [Bool.and_eq_true, decide_eq_true_eq, Bool.not_eq_true'] at hsw
  have hyl : X.env.scope.names.lookup y = some .local := by
    rcases ok.kinds y _ hsw.1.1 with q | ⟨q, _⟩
    · exact q
    · cases q
  obtain ⟨tt, h1, h2⟩ := L.ht
  refine ⟨fun pins s σ H D I ⟨F, ρ, S, P, r, S', e', c, hm, q⟩ => (ps_unl (ps_setLc (i := j) ok.calm (by rw [ok.N]; exact ok.nd) (by rw [ok.N]; exact find_ix hi) hyl (sw_true hk hyl hsw.1.2 hsw.2) L.hi L.ok L.hg h1 L.he L.hs)).run pins s σ H D I ?_⟩
  unfold meanS at hm
  obtain ⟨v, S1, hm1, hm⟩ := bnd_ok hm
  obtain ⟨ρ', S2, hm2, hm⟩ := bnd_ok hm
  obtain ⟨rfl, rfl⟩ := ret_ok hm
  unfold tgV at hm2
  obtain ⟨rfl, rfl⟩ := ret_ok hm2
  rw [L.own]
  exact lc_read h2 ⟨F, ρ, S, P, v, _, e', c, hm1, fun w H1 c1 => q _ H1 _ (fun p hp => List.mem_cons_of_mem _ hp) (EnvOk.set e'.cons m1) c1⟩
theorem ps_asgLc2 {Γ : TC} (ok : COk Γ X FV) (hk : X.env.scope.kind = .function) {y : Str} {py pos spos : Pos} {elt tg iter tg1 iter1 : Expr} {ifs1 : List Expr} {scope : Scope} {own : List (Str × Nat)} {m : ME} {t : Tg} {i : IT} {t1 : Tg} {i1 : IT} {cs1 : List ME} {j : Nat} (hi : Γ.N.findIdx? (· == y) = some j)
    (hsw : swB Γ y py (.ListComp elt [⟨tg, iter, [], 0⟩, ⟨tg1, iter1, ifs1, 0⟩] scope pos) = true) (L : Lc2Ok X FV φ elt tg iter tg1 iter1 ifs1 scope own m t i t1 i1 cs1) : PS X (.Assign [.Name y py] (.ListComp elt [⟨tg, iter, [], 0⟩, ⟨tg1, iter1, ifs1, 0⟩] scope pos) spos) (RS X.K FV (meanS φ W (.asg (.nm j) (.lc2 m t i [] t1 i1 cs1)))) := by
  unfold swB at hsw
  simp only [Bool.and_eq_true, decide_eq_true_eq, Bool.not_eq_true'] at hsw
  have hyl : X.env.scope.names.lookup y = some .local := by
    rcases ok.kinds y _ hsw.1.1 with q | ⟨q, _⟩
    · exact q
    · cases q
  obtain ⟨tt, h1, h2⟩ := L.ht
  refine ⟨fun pins s σ H D I ⟨F, ρ, S, P, r, S', e', c, hm, q⟩ => (ps_unl (ps_setLc2 (i := j) ok.calm (by rw [ok.N]; exact ok.nd) (by rw [ok.N]; exact find_ix hi) hyl (sw_true hk hyl hsw.1.2 hsw.2) L.hi L.ok L.hv L.hg (fun s H C cl fp => pts_nil) L.hi1 L.hg1 h1 L.he L.hs L.hs1)).run pins s σ H D I ?_⟩
  unfold meanS at hm
  obtain ⟨v, S1, hm1, hm⟩ := bnd_ok hm
  obtain ⟨ρ', S2, hm2, hm⟩ := bnd_ok hm
  obtain ⟨rfl, rfl⟩ := ret_ok hm
  unfold tgV at hm2
  obtain ⟨rfl, rfl⟩ := ret_ok hm2
  rw [L.own]
  exact lc2_read h2 ⟨F, ρ, S, P, v, _, e', c, hm1, fun w H1 c1 => q _ H1 _ (fun p hp => List.mem_cons_of_mem _ hp) (EnvOk.set e'.cons m1) c1⟩
theorem ps_retV {e : Expr} {m : ME} {pos : Pos} (he : PE X e (RD X.K FV φ m)) : PS X (.Return (some e) pos) (RS X.K FV (meanS φ W (.ret m))) := by
  refine ⟨fun pins s σ H D I ⟨F, ρ, S, P, r, S', e', c, hm, q⟩ => (ps_ret he).run pins s σ H D I ?_⟩
  unfold meanS at hm
  obtain ⟨v, S1, h1, hm⟩ := bnd_ok hm
  obtain ⟨rfl, rfl⟩ := ret_ok hm
  exact ⟨F, ρ, S, P, v, _, e', c, h1, q⟩
theorem ps_exprV {e : Expr} {m : ME} {pos : Pos} (he : PE X e (RD X.K FV φ m)) (hl : isLc e = false) : PS X (.Expr e pos) (RS X.K FV (meanS φ W (.exp m))) := by
  refine ⟨fun pins s σ H D I ⟨F, ρ, S, P, r, S', e', c, hm, q⟩ => (ps_expr he (by cases e <;> first | rfl | (simp [isLc] at hl))).run pins s σ H D I ?_⟩
  unfold meanS at hm
  obtain ⟨v, S1, h1, hm⟩ := bnd_ok hm
  obtain ⟨rfl, rfl⟩ := ret_ok hm
  exact ⟨F, ρ, S, P, v, _, e', c, h1, fun w H1 c1 => q σ H1 _ (fun p hp => List.mem_cons_of_mem _ hp) e'.cons c1⟩
theorem ps_iteV {c : Expr} {a b : List Stmt} {k : ME} {x y : List MS} {pos : Pos} (hc : PT X c (RT X.K FV φ k)) (ha : PSs X a (RS X.K FV (meanB φ W x))) (hb : PSs X b (RS X.K FV (meanB φ W y))) : PS X (.If c a b pos) (RS X.K FV (meanS φ W (.ite k x y))) := by
  refine ⟨fun pins s σ H D I ⟨F, ρ, S, P, r, S', e', c, hm, q⟩ => (ps_if hc ha hb).run pins s σ H D I ?_⟩
  unfold meanS at hm
  obtain ⟨v, S1, h1, hm⟩ := bnd_ok hm
  obtain ⟨kk, S2, h2, hm⟩ := bnd_ok hm
  refine ⟨F, ρ, S, P, kk, S2, e', c, by unfold bnd; rw [h1]; exact h2, fun H1 c1 => ?_⟩
  cases kk with
  | true =>
    rw [if_pos rfl] at hm ⊢
    exact ⟨F, ρ, S2, P, r, S', e', c1, hm, q⟩
  | false =>
    rw [if_neg Bool.false_ne_true] at hm ⊢
    exact ⟨F, ρ, S2, P, r, S', e', c1, hm, q⟩
theorem ps_augV {Γ : TC} (ok : COk Γ X FV) {x : Str} {o : Operator} {e : Expr} {m : ME} {i : Nat} {p pos : Pos} (hk : Γ.names.lookup x = some .local) (hi : Γ.N.findIdx? (· == x) = some i) (he : PE X e (RD X.K FV φ m))
    (ho : PIp X o (rO X.K FV (augV o))) : PS X (.AugAssign (.Name x p) o e pos) (RS X.K FV (meanS φ W (.aug i o m))) := by
  have hyl : X.env.scope.names.lookup x = some .local := by
    rcases ok.kinds x _ hk with q | ⟨q, _⟩
    · exact q
    · cases q
  refine ⟨fun pins s σ H D I ⟨F, ρ, S, P, r, S', e', c, hm, q⟩ => (ps_aug (i := i) (by rw [ok.N]; exact ok.nd) (by rw [ok.N]; exact find_ix hi) (.inl hyl) he ho (.inr hyl)).run pins s σ H D I ?_⟩
  unfold meanS at hm
  rcases hv : ρ[i]? with _ | _ | v1
  · rw [hv] at hm; exact (stop_ok hm).elim
  · rw [hv] at hm; exact (stop_ok hm).elim
  · rw [hv] at hm
    have hm' : bnd (meanE φ m ρ) (fun y => bnd (augV o v1 y) fun z => ret (.nx (setE ρ i z))) S = .ok r S' := hm
    obtain ⟨v2, S1, h1, hm'⟩ := bnd_ok hm'
    obtain ⟨z, S2, h2, hm'⟩ := bnd_ok hm'
    obtain ⟨rfl, rfl⟩ := ret_ok hm'
    obtain ⟨w, h3, h4⟩ := e'.2 i _ hv
    refine ⟨w, h3, F, ρ, S, P, v2, S1, e', c, h1, fun w2 H1 c1 => ⟨F, S1, _, v1, v2, z, _, h2, c1, List.mem_cons_of_mem _ h4, m1, fun wz H2 c2 => q _ H2 _ (fun p hp => List.mem_cons_of_mem _ (List.mem_cons_of_mem _ hp)) (EnvOk.set e'.cons.cons m1) c2⟩⟩
theorem pip_aug (o : Operator) : PIp X o (rO X.K FV (augV o)) := by
  intro pins s σ H vx vy u1 u2 Q I r1 r2 ⟨F, S, P, x, y, z, S', h, c, hx, hy, q⟩
  unfold augV at h
  split at h
  · obtain ⟨rfl, rfl⟩ := ret_ok h
    exact ip_add pins s σ H _ _ _ _ _ I r1 r2 ⟨_, _, c.int hx, c.int hy, q _ _ (c.addInt _)⟩
  · obtain ⟨rfl, rfl⟩ := ret_ok h
    exact ip_sub pins s σ H _ _ _ _ _ I r1 r2 ⟨_, _, c.int hx, c.int hy, q _ _ (c.addInt _)⟩
  · exact (stop_ok h).elim
/-- a block -/
theorem pss_of {n : Nat} {Γ : TC} (ih : ∀ s m, trS n Γ s = some m → PS X s (RS X.K FV (meanS φ W m))) : ∀ {ss : List Stmt} {ms : List MS}, trSs (trS n Γ) ss = some ms → PSs X ss (RS X.K FV (meanB φ W ms))
  | [], ms, h => by
    unfold trSs at h
    cases h
    refine ⟨fun pins s σ H D I ⟨F, ρ, S, P, r, S', e', c, hm, q⟩ => pss_nil.run pins s σ H D I ?_⟩
    unfold meanB at hm
    obtain ⟨rfl, rfl⟩ := ret_ok hm
    exact q σ H P (fun _ h => h) e' c
  | st :: ss, ms, h => by
    unfold trSs at h
    split at h
    · rename_i m1' ms1 h1 h2
      cases h
      refine ⟨fun pins s σ H D I ⟨F, ρ, S, P, r, S', e', c, hm, q⟩ => (pss_cons (ih _ _ h1) (pss_of ih h2)).run pins s σ H D I ?_⟩
      unfold meanB at hm
      obtain ⟨r1, S1, h3, hm⟩ := bnd_ok hm
      refine ⟨F, ρ, S, P, r1, S1, e', c, h3, ?_⟩
      cases r1 with
      | nx ρ' => exact fun σ' H' P' hp he hc => ⟨F, ρ', S1, P', r, S', he, hc, hm, by
          cases r with
          | nx ρ2 => exact fun σ2 H2 P2 hp2 => q σ2 H2 P2 fun p h => hp2 p (hp p h)
          | rt v => exact fun w H2 c2 => q w H2 (c2.sub fun p h => by
              rcases List.mem_cons.mp h with rfl | h
              · exact m1
              · exact List.mem_cons_of_mem _ (hp p h))
          | bk ρ2 => exact fun σ2 H2 P2 hp2 => q σ2 H2 P2 fun p h => hp2 p (hp p h)
          | ct ρ2 => exact fun σ2 H2 P2 hp2 => q σ2 H2 P2 fun p h => hp2 p (hp p h)⟩
      | rt v => obtain ⟨rfl, rfl⟩ := ret_ok hm; exact q
      | bk ρ2 => obtain ⟨rfl, rfl⟩ := ret_ok hm; exact q
      | ct ρ2 => obtain ⟨rfl, rfl⟩ := ret_ok hm; exact q
    · cases h
theorem Done.sub {K : PySem.W.Frag} {F : Fm} {P P1 : List (Val × V)} {D : Ends} {S : Sto} {r : Fl} (hp : ∀ p ∈ P, p ∈ P1) (q : Done K FV F P D S r) : Done K FV F P1 D S r := by
  cases r with
  | nx ρ2 => exact fun σ2 H2 P2 hp2 => q σ2 H2 P2 fun p h => hp2 p (hp p h)
  | rt v => exact fun w H2 c2 => q w H2 (c2.sub fun p h => by
      rcases List.mem_cons.mp h with rfl | h
      · exact m1
      · exact List.mem_cons_of_mem _ (hp p h))
  | bk ρ2 => exact fun σ2 H2 P2 hp2 => q σ2 H2 P2 fun p h => hp2 p (hp p h)
  | ct ρ2 => exact fun σ2 H2 P2 hp2 => q σ2 H2 P2 fun p h => hp2 p (hp p h)
theorem ps_whlV (hpo : PassesOwn (model X.prog X.w) X.A X.env X.xe) {c : Expr} {b : List Stmt} {k : ME} {y : List MS} {pos : Pos} (hc : PT X c (RT X.K FV φ k)) (hb : PSs X b (RS X.K FV (meanB φ W y))) : PS X (.While c b [] pos) (RS X.K FV (meanS φ W (.whl k y))) := by
  refine ⟨fun pins s σ H D I ⟨F, ρ, S, P, r, S', e', c, hm, q⟩ => (ps_while hpo hc hb).run pins s σ H D I ?_⟩
  unfold meanS at hm
  refine ⟨fun n σ H => ∃ ρ S P1, (∀ p ∈ P, p ∈ P1) ∧ EnvOk ρ σ P1 ∧ Ctx X.K FV F S H P1 ∧ whlL (fun ρ => bnd (meanE φ k ρ) truV) (fun ρ => meanB φ W y ρ) n ρ S = .ok r S', ⟨W, ρ, S, P, fun _ h => h, e', c, hm⟩, ?_⟩
  rintro n σ1 H1 ⟨ρ1, S1, P1, hp1, e1, c1, hw⟩
  cases n with
  | zero => unfold whlL at hw; exact (stop_ok hw).elim
  | succ n =>
    unfold whlL at hw
    obtain ⟨kk, S2, h2, hw⟩ := bnd_ok hw
    refine ⟨F, ρ1, S1, P1, kk, S2, e1, c1, h2, fun H2 c2 => ?_⟩
    cases kk with
    | false =>
      rw [if_neg Bool.false_ne_true] at hw ⊢
      obtain ⟨rfl, rfl⟩ := ret_ok hw
      exact q σ1 H2 P1 hp1 e1 c2
    | true =>
      rw [if_pos rfl] at hw ⊢
      obtain ⟨r3, S3, h3, hw⟩ := bnd_ok hw
      refine ⟨fun σ H => ∃ m', m' < n + 1 ∧ ∃ ρ S P1, (∀ p ∈ P, p ∈ P1) ∧ EnvOk ρ σ P1 ∧ Ctx X.K FV F S H P1 ∧ whlL (fun ρ => bnd (meanE φ k ρ) truV) (fun ρ => meanB φ W y ρ) m' ρ S = .ok r S', fun σ' H' h => h, F, ρ1, S2, P1, r3, S3, e1, c2, h3, ?_⟩
      cases r3 with
      | nx ρ' => exact fun σ' H' P' hp he hc => ⟨n, Nat.lt_succ_self n, ρ', S3, P', fun p h => hp p (hp1 p h), he, hc, hw⟩
      | ct ρ' => exact fun σ' H' P' hp he hc => ⟨n, Nat.lt_succ_self n, ρ', S3, P', fun p h => hp p (hp1 p h), he, hc, hw⟩
      | bk ρ' =>
        obtain ⟨rfl, rfl⟩ := ret_ok hw
        exact fun σ' H' P' hp he hc => q σ' H' P' (fun p h => hp p (hp1 p h)) he hc
      | rt v =>
        obtain ⟨rfl, rfl⟩ := ret_ok hw
        exact Done.sub (D := D) hp1 q
theorem forL_nil {gs : List (Nat × Ob)} {f : Val → Env → M Fl} {ρ : Env} {S S' : Sto} {r : Fl} (h : forL gs f [] ρ S = .ok r S') : stays gs S ∧ r = .nx ρ ∧ S' = S := by
  unfold forL at h
  split at h
  · cases h; exact ⟨by assumption, rfl, rfl⟩
  · cases h
theorem forL_cons {gs : List (Nat × Ob)} {f : Val → Env → M Fl} {x : Val} {xs : List Val} {ρ : Env} {S S' : Sto} {r : Fl} (h : forL gs f (x :: xs) ρ S = .ok r S') :
    stays gs S ∧ ∃ r1 S1, f x ρ S = .ok r1 S1 ∧ (match r1 with
      | .nx ρ' => forL gs f xs ρ'
      | .ct ρ' => forL gs f xs ρ'
      | .bk ρ' => ret (.nx ρ')
      | .rt v => ret (.rt v)) S1 = .ok r S' := by
  unfold forL at h
  split at h
  · rename_i hs
    refine ⟨hs, ?_⟩
    cases e : f x ρ S with
    | ok r1 S1 => rw [e] at h; exact ⟨r1, S1, rfl, h⟩
    | exc c v S1 => rw [e] at h; cases h
    | bad => rw [e] at h; cases h
  · cases h
theorem ps_forV (hpo : PassesOwn (model X.prog X.w) X.A X.env X.xe) (hcalm : X.calm = true) {tg iter : Expr} {b : List Stmt} {t : Tg} {i : IT} {y : List MS} {pos : Pos} (hi : PI X tg iter (RI X FV φ i)) (hg : PG X tg (RG X.K FV t)) (hb : PSs X b (RS X.K FV (meanB φ W y)))
    (hs : ∀ x, foldedSetIterable iter X.env x = pure x) : PS X (.For tg iter b [] pos) (RS X.K FV (meanS φ W (.for_ t i y))) := by
  refine ⟨fun pins s σ H D I ⟨F, ρ, S, P, r, S', e', c, hm, q⟩ => (ps_unl (ps_for hpo hcalm hi hg hb hs)).run pins s σ H D I ?_⟩
  unfold meanS at hm
  obtain ⟨p, S1, hI, hm0⟩ := bnd_ok hm
  refine ⟨F, ρ, S, P, p, S1, e', c, hI, fun J H1 hold fr hth wk c1 => ?_⟩
  obtain ⟨r0, S0, hm4, hm1⟩ := bnd_ok hm0
  obtain ⟨u, S9, hm2, hm3⟩ := bnd_ok hm1
  obtain ⟨er, eS⟩ := ret_ok hm3
  have er' : r0 = r := by first | exact er | exact er.symm
  subst er'
  have eS' : S' = S9 := by first | exact eS | exact eS.symm
  subst S'
  refine ⟨fun i n σ H => n = p.xs.length - i ∧ i ≤ p.xs.length ∧ ∃ ρ S P1, (∀ p ∈ P, p ∈ P1) ∧ EnvOk ρ σ P1 ∧ Ctx X.K FV (fr ++ F) S H (hold ++ P1) ∧ forL p.gs (fun x ρ => bnd (tgV t x ρ) fun ρ' => meanB φ W y ρ') (p.xs.drop i) ρ S = .ok r0 S0,
    ⟨_, rfl, Nat.zero_le _, ρ, S1, P, fun _ h => h, e', c1, hm4⟩, ?_⟩
  rintro i n σ1 H1 ⟨hn, hi2, ρ1, S2, P1, hp1, e1, c2, hf⟩
  by_cases hend : i = p.xs.length
  · left
    subst hend
    rw [List.drop_length] at hf
    obtain ⟨hs, rfl, rfl⟩ := forL_nil hf
    exact ⟨wk.done _ _ _ _ (fun p hp => List.mem_append_left _ hp) c2 hs, (c2.thawed hth hm2).mono fun H3 c3 => q σ1 H3 P1 hp1 e1 c3⟩
  · right
    have hlt : i < p.xs.length := by omega
    rw [List.drop_eq_getElem_cons hlt] at hf
    obtain ⟨hs, r1, S3, hx, hrest⟩ := forL_cons hf
    obtain ⟨hgo, hyl⟩ := wk.item _ _ _ _ i p.xs[i] (fun p hp => List.mem_append_left _ hp) (List.getElem?_eq_getElem hlt) c2 hs
    have hx0 : bnd (tgV t p.xs[i] ρ1) (fun ρ' => meanB φ W y ρ') S2 = .ok r1 S3 := hx
    obtain ⟨ρ', Sa, ht, hbody⟩ := bnd_ok hx0
    have ea := tgV_st.1 _ _ _ _ _ _ ht
    subst ea
    refine ⟨hgo, fun σ H => ∃ m', m' < n ∧ m' = p.xs.length - (i + 1) ∧ i + 1 ≤ p.xs.length ∧ ∃ ρ S P1, (∀ p ∈ P, p ∈ P1) ∧ EnvOk ρ σ P1 ∧ Ctx X.K FV (fr ++ F) S H (hold ++ P1) ∧ forL p.gs (fun x ρ => bnd (tgV t x ρ) fun ρ' => meanB φ W y ρ') (p.xs.drop (i + 1)) ρ S = .ok r0 S0,
      fun σ' H' ⟨m', h1, h2⟩ => ⟨m', h1, h2⟩, fun w H'' hy => ?_⟩
    have c3 := hyl w H'' hy
    refine ⟨fr ++ F, ρ1, Sa, _, p.xs[i], ρ', e1.sup (fun p h => List.mem_cons_of_mem _ (List.mem_append_right _ h)), c3, m1, ht, fun σ' P' hp he hc4 _ => ⟨fr ++ F, ρ', Sa, P', r1, S3, he, hc4, hbody, ?_⟩⟩
    have hh : ∀ q ∈ hold, q ∈ P' := fun q hq => hp q (List.mem_cons_of_mem _ (List.mem_append_left _ hq))
    have hP : ∀ q ∈ P1, q ∈ P' := fun q hq => hp q (List.mem_cons_of_mem _ (List.mem_append_right _ hq))
    have again : ∀ ρ2, forL p.gs (fun x ρ => bnd (tgV t x ρ) fun ρ' => meanB φ W y ρ') (p.xs.drop (i + 1)) ρ2 S3 = .ok r0 S0 → ∀ σ2 H2 P2, (∀ q ∈ P', q ∈ P2) → EnvOk ρ2 σ2 P2 → Ctx X.K FV (fr ++ F) S3 H2 P2 →
        ∃ m', m' < n ∧ m' = p.xs.length - (i + 1) ∧ i + 1 ≤ p.xs.length ∧ ∃ ρ S P1, (∀ p ∈ P, p ∈ P1) ∧ EnvOk ρ σ2 P1 ∧ Ctx X.K FV (fr ++ F) S H2 (hold ++ P1) ∧ forL p.gs (fun x ρ => bnd (tgV t x ρ) fun ρ' => meanB φ W y ρ') (p.xs.drop (i + 1)) ρ S = .ok r0 S0 := fun ρ2 hr σ2 H2 P2 hp2 he2 hc5 =>
      ⟨_, by omega, rfl, hlt, ρ2, S3, P2, fun p h => hp2 p (hP p (hp1 p h)), he2, hc5.sub fun q hq => by
        rcases List.mem_append.mp hq with hq | hq
        · exact hp2 q (hh q hq)
        · exact hq, hr⟩
    cases r1 with
    | nx ρ2 => exact again ρ2 hrest
    | ct ρ2 => exact again ρ2 hrest
    | bk ρ2 =>
      obtain ⟨rfl, rfl⟩ := ret_ok hrest
      exact fun σ2 H2 P2 hp2 he2 hc5 => ((hc5.sub (P' := hold ++ P2) fun z hz => (List.mem_append.mp hz).elim (fun h => hp2 z (hh z h)) fun h => h).thawed hth hm2).mono fun H3 c3 => q σ2 H3 P2 (fun p h => hp2 p (hP p (hp1 p h))) he2 c3
    | rt v =>
      obtain ⟨rfl, rfl⟩ := ret_ok hrest
      exact fun w2 H2 hc5 => ((hc5.sub (P' := hold ++ ((v, w2) :: P)) fun z hz => (List.mem_append.mp hz).elim (fun h => List.mem_cons_of_mem _ (hh z h)) fun h => (List.mem_cons.mp h).elim (fun e => by rw [e]; exact List.mem_cons_self) fun h => List.mem_cons_of_mem _ (hP z (hp1 z h))).thawed hth hm2).mono fun H3 c3 => q w2 H3 c3
/-! ### stores -/
def rPut (K : PySem.W.Frag) (FV : Glo) : V → V → V → Hp → (Hp → Prop) → Prop := fun wx wi wv H Q => ∃ F S P x i v z S', putV x i v S = .ok z S' ∧ Ctx K FV F S H P ∧ (x, wx) ∈ P ∧ (i, wi) ∈ P ∧ (v, wv) ∈ P ∧ ∀ H', Ctx K FV F S' H' P → Q H'
theorem pset_put (xo : XOk X FV) : PSet X (rPut X.K FV) := fun pins s σ H wx wi wv ux ui uv Q I rx ri rv ⟨F, S, P, x, i, v, z, S', h, c, hx, hi, hv, q⟩ => put_run xo I c hx hi hv rx ri rv h q
theorem swaps_sub {a i e : Expr} {p : Pos} {l : Nat} {env : PySem.Env} (h : ∀ a b c d p, e ≠ .SetComp a b c p ∧ e ≠ .DictComp a d b c p) : swapsWith e (some (.Subscript a i p)) l env = pure false := by
  cases e with
  | SetComp a b c p => exact absurd rfl (h a b c a p).1
  | DictComp a d b c p => exact absurd rfl (h a b c d p).2
  | _ => rfl
theorem ps_putV (xo : XOk X FV) {a i e : Expr} {x k m : ME} {p pos : Pos} (ha : PE X a (RD X.K FV φ x)) (hi : PE X i (RD X.K FV φ k)) (he : PE X e (RD X.K FV φ m)) (hp : plainIxB i = true) (hsd : ∀ a b c d p, e ≠ .SetComp a b c p ∧ e ≠ .DictComp a d b c p) :
    PS X (.Assign [.Subscript a i p] e pos) (RS X.K FV (meanS φ W (.put x k m))) := by
  have hg : PG X (.Subscript a i p) (gSub (RD X.K FV φ x) (RD X.K FV φ k) (rPut X.K FV)) := pg_sub ha hi (pset_put xo) (fun _ => by cases i <;> first | rfl | (simp [plainIxB] at hp))
  refine ⟨fun pins s σ H D I ⟨F, ρ, S, P, r, S', e', c, hm, q⟩ => (ps_asg he hg (swaps_sub (env := X.env) (l := pos.line) (p := p) (a := a) (i := i) hsd) (swapped_none rfl) rfl).run pins s σ H D I ?_⟩
  unfold meanS at hm
  obtain ⟨v, S1, h1, hm⟩ := bnd_ok hm
  obtain ⟨v2, S2, h2, hm⟩ := bnd_ok hm
  obtain ⟨v3, S3, h3, hm⟩ := bnd_ok hm
  obtain ⟨z, S4, h4, hm⟩ := bnd_ok hm
  obtain ⟨rfl, rfl⟩ := ret_ok hm
  exact ⟨F, ρ, S, P, v, S1, e', c, h1, fun w H1 c1 => ⟨F, ρ, S1, _, v2, S2, e'.cons, c1, h2, fun w2 H2 c2 => ⟨F, ρ, S2, _, v3, S3, e'.cons.cons, c2, h3, fun w3 H3 c3 => ⟨F, S3, _, v2, v3, v, z, S4, h4, c3, m2, m1, m3, fun H4 c4 => q σ H4 _ (fun p hp => List.mem_cons_of_mem _ (List.mem_cons_of_mem _ (List.mem_cons_of_mem _ hp))) e'.cons.cons.cons c4⟩⟩⟩⟩
def rGet (K : PySem.W.Frag) (FV : Glo) : V → V → Hp → VK → Prop := rO K FV idxM
theorem pget_idx (xo : XOk X FV) : PGet X (rGet X.K FV) := fun pins s σ H wx wi ux ui Q I rx ri ⟨F, S, P, x, i, v, S', h, c, hx, hi, q⟩ => get_run xo I c hx hi rx ri h q
theorem ps_augxV (xo : XOk X FV) {a i e : Expr} {x k m : ME} {o : Operator} {p pos : Pos} (ha : PE X a (RD X.K FV φ x)) (hi : PE X i (RD X.K FV φ k)) (he : PE X e (RD X.K FV φ m)) (hp : plainIxB i = true) :
    PS X (.AugAssign (.Subscript a i p) o e pos) (RS X.K FV (meanS φ W (.augx x k o m))) := by
  refine ⟨fun pins s σ H D I ⟨F, ρ, S, P, r, S', e', c, hm, q⟩ => (ps_augS ha hi (pget_idx xo) he (pip_aug (FV := FV) o) (pset_put xo) (fun _ _ _ => by cases i <;> first | rfl | (simp [plainIxB] at hp))).run pins s σ H D I ?_⟩
  unfold meanS at hm
  obtain ⟨v1, S1, h1, hm⟩ := bnd_ok hm
  obtain ⟨v2, S2, h2, hm⟩ := bnd_ok hm
  obtain ⟨v3, S3, h3, hm⟩ := bnd_ok hm
  obtain ⟨v4, S4, h4, hm⟩ := bnd_ok hm
  obtain ⟨v5, S5, h5, hm⟩ := bnd_ok hm
  obtain ⟨z, S6, h6, hm⟩ := bnd_ok hm
  obtain ⟨rfl, rfl⟩ := ret_ok hm
  refine ⟨F, ρ, S, P, v1, S1, e', c, h1, fun w1 H1 c1 => ⟨F, ρ, S1, _, v2, S2, e'.cons, c1, h2, fun w2 H2 c2 => ⟨F, S2, _, v1, v2, v3, S3, h3, c2, m2, m1, fun w3 H3 c3 => ?_⟩⟩⟩
  refine ⟨F, ρ, S3, _, v4, S4, e'.cons.cons.cons, c3, h4, fun w4 H4 c4 => ⟨F, S4, _, v3, v4, v5, S5, h5, c4, m2, m1, fun w5 H5 c5 => ?_⟩⟩
  refine ⟨F, S5, _, v1, v2, v5, z, S6, h6, c5, ?_, ?_, m1, fun H6 c6 => q σ H6 _ (fun p hp => ?_) e'.cons.cons.cons.cons.cons c6⟩
  · exact List.mem_cons_of_mem _ (List.mem_cons_of_mem _ (List.mem_cons_of_mem _ m2))
  · exact List.mem_cons_of_mem _ (List.mem_cons_of_mem _ (List.mem_cons_of_mem _ m1))
  · exact List.mem_cons_of_mem _ (List.mem_cons_of_mem _ (List.mem_cons_of_mem _ (List.mem_cons_of_mem _ (List.mem_cons_of_mem _ hp))))
end
end MP
set_option linter.all false
set_option Elab.async false
set_option maxHeartbeats 2000000
namespace MP
open PySem L2 PySem.Spec PyProof.Rows
section
variable {FV : Glo} {φ : Nat → List Val → M Val} {W : Nat}
theorem no_sd {n : Nat} {Γ : TC} {e : Expr} {m : ME} (h : trE n Γ e = some m) : ∀ a b c d p, e ≠ .SetComp a b c p ∧ e ≠ .DictComp a d b c p := by
  intro a b c d p
  refine ⟨fun q => ?_, fun q => ?_⟩ <;> (subst q; cases n <;> simp [trE] at h)
theorem bad_any {X : Cx} {s : Stmt} : PS X s (RS X.K FV (meanS φ W .bad)) := by
  refine ⟨fun pins s σ H D I ⟨F, ρ, S, P, r, S', e', c, hm, q⟩ => ?_⟩
  unfold meanS at hm
  exact (stop_ok hm).elim
/-- THE SOUNDNESS of statements -/
theorem sndS (X : Cx) (hk : X.env.scope.kind = .function) (hpo : PassesOwn (model X.prog X.w) X.A X.env X.xe) (hco : ∀ Y, Sim X Y → CallOk Y FV φ) {Γ : TC} (ok : COk Γ X FV) : ∀ n s m, trS n Γ s = some m → PS X s (RS X.K FV (meanS φ W m))
  | 0, s, m, h => by simp [trS] at h
  | n + 1, s, m, h => by
    obtain ⟨ih1, ih2, ih3, ihL⟩ := snd X hco n Γ X ok ⟨rfl, rfl, rfl, rfl, rfl, rfl, rfl⟩
    have ih := sndS X hk hpo hco ok n
    have pss := @pss_of X FV φ W n Γ ih
    have pg := (pg_tr ok n).1
    unfold trS at h
    split at h
    · obtain ⟨x, hx, rfl⟩ := Option.map_eq_some_iff.mp h
      exact ps_retV (ih1 _ _ hx)
    · cases h
      refine ⟨fun pins s σ H D I ⟨F, ρ, S, P, r, S', e', c, hm, q⟩ => ps_retN.run pins s σ H D I ?_⟩
      unfold meanS at hm
      obtain ⟨rfl, rfl⟩ := ret_ok hm
      exact q _ H c.addNon
    · cases h
      refine ⟨fun pins s σ H D I ⟨F, ρ, S, P, r, S', e', c, hm, q⟩ => ps_pass.run pins s σ H D I ?_⟩
      unfold meanS at hm
      obtain ⟨rfl, rfl⟩ := ret_ok hm
      exact q σ H P (fun _ h => h) e' c
    · cases h
      refine ⟨fun pins s σ H D I ⟨F, ρ, S, P, r, S', e', c, hm, q⟩ => ps_break.run pins s σ H D I ?_⟩
      unfold meanS at hm
      obtain ⟨rfl, rfl⟩ := ret_ok hm
      exact q σ H P (fun _ h => h) e' c
    · cases h
      refine ⟨fun pins s σ H D I ⟨F, ρ, S, P, r, S', e', c, hm, q⟩ => ps_continue.run pins s σ H D I ?_⟩
      unfold meanS at hm
      obtain ⟨rfl, rfl⟩ := ret_ok hm
      exact q σ H P (fun _ h => h) e' c
    · cases h
      exact bad_any
    · split at h
      · rename_i hp
        split at h
        · rename_i h1 h2 h3; cases h; exact ps_putV ok.x (ih1 _ _ h1) (ih1 _ _ h2) (ih1 _ _ h3) hp (no_sd h3)
        · cases h
      · cases h
    · split at h
      · rename_i hp
        split at h
        · rename_i h1 h2 h3; cases h; exact ps_augxV ok.x (ih1 _ _ h1) (ih1 _ _ h2) (ih1 _ _ h3) hp
        · cases h
      · cases h
    · split at h
      · rename_i hp
        split at h
        · rename_i h1 h2 h3 h4
          cases h
          exact ps_parV ok hk h1 h2 hp (pa_of ih1 (by unfold trL trL trL; rw [h3, h4])) (not_star h3) (not_star h4)
        · cases h
      · cases h
    · split at h
      · cases h
      · rename_i htup
        split at h
        · rename_i t m ht hm
          cases h
          rename_i tg e pos _ _ _ _
          cases hb : (match tg with | .Name y p => swB Γ y p e | _ => false) with
          | false => exact ps_asgV ok hk (pg _ _ ht) ht (ih1 _ _ hm) (by simpa using htup) (fun y p q => by subst q; exact hb) (no_sd hm)
          | true =>
            cases tg with
            | Name y p =>
              cases e with
              | ListComp elt gs sc lpos =>
                have hj : ∃ j, Γ.N.findIdx? (· == y) = some j ∧ t = .nm j := by
                  cases n with
                  | zero => simp [trT] at ht
                  | succ n =>
                    unfold trT at ht
                    simp only at ht
                    split at ht
                    · split at ht
                      · obtain ⟨j, h1, h2⟩ := Option.map_eq_some_iff.mp ht; exact ⟨j, h1, h2.symm⟩
                      · obtain ⟨j, h1, h2⟩ := Option.map_eq_some_iff.mp ht; exact ⟨j, h1, h2.symm⟩
                      · cases ht
                    · cases ht
                obtain ⟨j, h1, rfl⟩ := hj
                rcases ihL _ _ _ _ _ hm with ⟨tg, it, ifs, own, mm, t', i, cs, rfl, rfl, lc⟩ | ⟨tg, it, tg1, it1, ifs1, own, mm, t', i, t1, i1, cs1, rfl, rfl, lc⟩
                · exact ps_asgLc ok hk h1 hb lc
                · exact ps_asgLc2 ok hk h1 hb lc
              | _ => cases hb
            | _ => cases hb
        · cases h
    · split at h
      · rename_i hp
        simp only [Bool.and_eq_true, decide_eq_true_eq] at hp
        split at h
        · rename_i h1 h2
          cases h
          exact ps_augV ok hp.2 h1 (ih1 _ _ h2) (pip_aug _)
        · cases h
      · cases h
    · split at h
      · cases h
      · rename_i hl
        obtain ⟨x, hx, rfl⟩ := Option.map_eq_some_iff.mp h
        exact ps_exprV (ih1 _ _ hx) (by simpa using hl)
    · split at h
      · rename_i h1 h2 h3; cases h; exact ps_iteV (ih2 _ _ h1) (pss h2) (pss h3)
      · cases h
    · split at h
      · rename_i h1 h2; cases h; exact ps_whlV hpo (ih2 _ _ h1) (pss h2)
      · cases h
    · split at h
      · rename_i h1 h2 h3; cases h; exact ps_forV hpo ok.calm (ih3 _ _ _ h2) (pg _ _ h1) (pss h3) (fold_of h2 _)
      · cases h
    · cases h
end
end MP
set_option linter.all false
set_option Elab.async false
set_option maxHeartbeats 2000000
namespace MP
open PySem L2 PySem.Spec PyProof.Rows
/-! ### defs -/
/-- np: how many parameters, nl: how many names -/
structure FnD where
  np : Nat
  nl : Nat
  body : List MS
def startE (d : FnD) (vs : List Val) : Env := vs.map some ++ List.replicate (d.nl - d.np) none
def endF : Fl → M Val
  | .rt v => ret v
  | .nx _ => ret .non
  | _ => stop
noncomputable def callF (T : Nat → Option FnD) (W : Nat) : Nat → Nat → List Val → M Val
  | 0, _, _ => stop
  | k + 1, f, vs => match T f with
    | some d => if vs.length = d.np then fun S => gcM S (bnd (meanB (callF T W k) W d.body (startE d vs)) endF S) else stop
    | none => stop
def AOk (kt : List Site) (f : Nat) (args : Args) (us : List Value) : Prop := args = ⟨us, []⟩ ∨ ∃ st ∈ kt, st.f = f ∧ ∃ us1 us2 : List Value, us1.length = st.n ∧ us2.length = st.ks.length ∧ args = ⟨us1, st.ks.zip us2⟩ ∧ us = st.perm.map fun i => (us1 ++ us2).getD i .none
structure RoomI (k : Nat) (A : Around) : Prop where
  r : Room (2 * k) A
  g : A.guards = some []
section
variable (P : Program) (w : World) (K : PySem.W.Frag) (mg : Str → Option Value) (base : Heap) (FV : Glo)
/-- the defs answer as φ says, at a depth -/
def FnI (k : Nat) (φ : Nat → List Val → M Val) : Prop := ∀ f a, FV.fv f a → ∀ (A : Around) (outer : List PySem.Env) (s : Shared) (H : Hp) (args : Args) (us : List Value) (ws : List V) (Q : VK), AOk FV.kt f args us → RoomI k A → Env0 P w K mg base A outer s H → Vals ws us → rC K FV (φ f) ws H Q →
  codeAny (model P w) A (.call (.ref a) args) (CR CX0 outer P w H s Q E0) s
/-- what the text holds of a def -/
structure DefOk (T : Nat → Option FnD) (fns : List (Str × Nat)) (cons : List (Str × Val)) (blts : List Str) (f : Nat) (a : Addr) : Prop where
  ex : ∃ (x qual : Str) (pr : Arguments) (bd : List Stmt) (scp : Scope) (dvs : List V) (kws : List (Str × V)) (fd : FuncData) (N ps : List Str) (d : FnD) (n : Nat), FunD K x qual pr bd scp dvs kws a fd ∧ FnScope N ps scp ∧ Binds K fd ps [] ∧ (∀ st ∈ FV.kt, st.f = f → ∀ (s : Shared) (us1 us2 : List Value), us1.length = st.n → us2.length = st.ks.length → BindsTo s fd ⟨us1, st.ks.zip us2⟩ (ps.zip (st.perm.map fun i => (us1 ++ us2).getD i .none))) ∧ T f = some d ∧ d.np = ps.length ∧ d.nl = N.length ∧
    trSs (trS n ⟨N, scp.names, fns, cons, blts, FV.kt⟩) bd = some d.body
/-- what the module's names hold -/
structure GlOk (fns : List (Str × Nat)) (cons : List (Str × Val)) (blts : List Str) : Prop where
  gl : ∀ x f, fns.lookup x = some f → ∃ a, mg x = some (.ref a) ∧ PySem.W.keepIn K (.ref a) = true ∧ FV.fv f a
  blt : ∀ x, blts.contains x = true → mg x = none
  con : ∀ x v, cons.lookup x = some v → ∃ u z, mg x = some u ∧ RelV z u ∧ ∀ F S H P, Ctx K FV F S H P → Ctx K FV F S H ((v, z) :: P)
end
section
variable {P : Program} {w : World} {K : PySem.W.Frag} {mg : Str → Option Value} {base : Heap} {FV : Glo}
theorem callOk_of {k : Nat} {φ : Nat → List Val → M Val} (F : FnI P w K mg base FV k φ) {X : Cx} (h1 : X.prog = P) (h2 : X.w = w) (h3 : X.K = K) (h4 : X.mg = mg) (h5 : X.base = base) (hr : RoomI k X.A) : CallOk X FV φ := by
  subst h1; subst h2; subst h3; subst h4; subst h5
  refine ⟨fun f a hf pins s σ H ws us Q I r q => ?_, fun st hst a hf pins s σ H us1 us2 ws Q h1 h2 I r q => ?_⟩
  · refine wpAny_call (codeAny_mono (F f a hf X.A X.stack s H ⟨us, []⟩ us ws Q (.inl rfl) hr I.env0 r q) fun res s' hq => ?_)
    cases res with
    | error e => exact False.elim hq
    | ok fl =>
      cases fl with
      | ret u => exact I.after hq
      | next => exact False.elim hq
      | brk => exact False.elim hq
      | cont => exact False.elim hq
  · refine wpAny_call (codeAny_mono (F st.f a hf X.A X.stack s H ⟨us1, st.ks.zip us2⟩ _ ws Q (.inr ⟨st, hst, rfl, us1, us2, h1, h2, rfl, rfl⟩) hr I.env0 r q) fun res s' hq => ?_)
    cases res with
    | error e => exact False.elim hq
    | ok fl =>
      cases fl with
      | ret u => exact I.after hq
      | next => exact False.elim hq
      | brk => exact False.elim hq
      | cont => exact False.elim hq
theorem start_env {N : List Str} {vs : List Val} {ws : List V} {d : FnD} {Q : List (Val × V)} (h1 : d.nl = N.length) (h2 : vs.length = d.np) (h3 : vs.length = ws.length) (h : ∀ q ∈ vs.zip ws, q ∈ Q) : EnvOk (startE d vs) (L2.start N ws) Q := by
  unfold startE L2.start
  refine ⟨by simp [h1, ← h2, h3], fun i v hi => ?_⟩
  by_cases hl : i < vs.length
  · rw [List.getElem?_append_left (by simpa using hl), List.getElem?_map, List.getElem?_eq_getElem hl] at hi
    have e : vs[i] = v := by simpa using hi
    have hw : i < ws.length := by omega
    refine ⟨ws[i], by rw [List.getElem?_append_left (by simpa using hw), List.getElem?_map, List.getElem?_eq_getElem hw]; rfl, h _ ?_⟩
    rw [← e]
    have hz : i < (vs.zip ws).length := by simp; omega
    have := List.getElem_mem hz
    simpa using this
  · rw [List.getElem?_append_right (by simpa using hl), List.getElem?_replicate] at hi
    split at hi
    · cases hi
    · cases hi
theorem fni_zero {T : Nat → Option FnD} {W : Nat} : FnI P w K mg base FV 0 (callF T W 0) := by
  intro f a hf A outer s H args us ws Q ao hr e0 r ⟨F, S, PP, xs, v, S', h, _⟩
  unfold callF at h
  exact (stop_ok h).elim
theorem fni_succ (hw : FV.w = w) (sm : SmOk base) {T : Nat → Option FnD} {W k : Nat} {fns : List (Str × Nat)} {cons : List (Str × Val)} {blts : List Str} (G : GlOk K mg FV fns cons blts) (Dk : ∀ f a, FV.fv f a → DefOk K FV T fns cons blts f a)
    (F : FnI P w K mg base FV k (callF T W k)) : FnI P w K mg base FV (k + 1) (callF T W (k + 1)) := by
  intro f a hf A outer s H args us ws Q ao hr e0 r ⟨Fr, S, PP, xs, v, S', h, hl, c, hz, q⟩
  obtain ⟨x, qual, pr, bd0, scp, dvs, kws, fd, N, ps, d, n, U, sc, B, KB, hT, hnp, hnl, htr⟩ := (Dk f a hf).ex
  unfold callF at h
  rw [hT] at h
  have h1 : (if xs.length = d.np then fun S => gcM S (bnd (meanB (callF T W k) W d.body (startE d xs)) endF S) else stop) S = .ok v S' := h
  clear h
  split at h1
  case isFalse => exact (stop_ok h1).elim
  rename_i hlen
  have h2 : gcM S (bnd (meanB (callF T W k) W d.body (startE d xs)) endF S) = .ok v S' := h1
  obtain ⟨v0, S0, h3⟩ : ∃ v0 S0, bnd (meanB (callF T W k) W d.body (startE d xs)) endF S = .ok v0 S0 := by
    cases e : bnd (meanB (callF T W k) W d.body (startE d xs)) endF S with
    | ok v0 S0 => exact ⟨v0, S0, rfl⟩
    | exc _ _ _ => rw [e] at h2; cases h2
    | bad => rw [e] at h2; cases h2
  rw [h3] at h2
  have swp : ∀ z H', Ctx K FV Fr S0 H' ((v0, z) :: PP) → Ctx K FV Fr S' H' ((v, z) :: PP) := fun z H' c' => c'.gcM c.lts (fun p hp => c.lt hp) h2
  obtain ⟨fl, S1, hbody, hend⟩ := bnd_ok h3
  obtain ⟨oc, od, dV, kV, doc, pm, an, cdv, ct, osl, rfl, lk, hcd, _, _⟩ := U.ex
  -- the context of the body, in which nothing is raised
  let Y : Cx := (cxOf CX0 P w K mg base N qual scp a cdv A outer s H E0).nox
  have hup : ∀ b o, base.get? b = some o → s.heap.get? b = some o := fun b o hb => (e0.bs b o hb).1
  have hin : K.In s.heap := e0.mod.kin.keeps hup
  have hlim : s.heap.NoLimit := e0.mod.nolimit.keeps hup
  have hps : ws.length = ps.length := by omega
  have hus : us.length = ps.length := by rw [← hps]; exact r.length.symm
  have hdeep : Room (2 * k + 1) (A.deeper (envOfC qual scp s.heap.objs.size a cdv)) := (show Room (2 * k + 1 + 1) A from hr.r).deeper _
  have hroom : Y.A.units + 100 < cLine := by
    have hu := hdeep.un
    show (A.deeper (envOfC qual scp s.heap.objs.size a cdv)).units + 100 < cLine
    omega
  have ok : COk ⟨N, scp.names, fns, cons, blts, FV.kt⟩ Y FV :=
    ⟨rfl, sc.nd, ⟨hw, rfl, hroom, hr.g, sm⟩, fun y kd hy => .inl hy, fun y hy => rfl, G.gl, G.blt, G.con, rfl⟩
  have call : ∀ Z, Sim Y Z → CallOk Z FV (callF T W k) := fun Z sm => callOk_of F sm.prog sm.w sm.K sm.mg sm.base (by
    rw [sm.A]
    exact ⟨hdeep.mono (by omega), hr.g⟩)
  have run : PSs Y bd0 (RS K FV (meanB (callF T W k) W d.body)) := pss_of (fun sx mx hx => sndS Y sc.kind PassesOwn.never call ok n sx mx hx) htr
  have locs : ∀ y ∈ ps.zip us, scp.names.lookup y.1 = some .local ∨ (scp.names.lookup y.1 = some .cell ∧ ((cellsFrom (s.heap.objs.size + 1) scp.names []).lookup y.1).isSome = true) := by
    rintro ⟨nm, val⟩ hy
    refine (sc.par nm (List.of_mem_zip hy).1).imp id fun hc => ⟨hc, PySem.W.cellsFrom_some _ _ _ (.inl hc)⟩
  have bd : BindsTo s (PySem.W.fnOf x qual pr bd0 scp dV kV doc pm an cdv ct) args (ps.zip us) := by
    rcases ao with rfl | ⟨st, hst, hf2, us1, us2, h1, h2, rfl, rfl⟩
    · have bd := B s us hin (by simpa using hus)
      rw [List.append_nil] at bd
      exact bd
    · exact KB st hst hf2 s us1 us2 h1 h2
  refine codeAny_call_function hr.r.depth (hin _ _ lk) rfl sc.co sc.gen rfl (PySem.W.codeRec_of hin hcd) (bd _ _ _ _ ?_)
  refine wpAny_newFunctionEnv_cells sc.kind locs fun env he s1 x1 => ?_
  subst he
  refine ⟨hlim.keeps x1.toInCall.keep, codeAny_func ?_⟩
  have I0 : L2.Inv (cxOf CX0 P w K mg base N qual scp a cdv A outer s H E0) [] (L2.start N ws) H s1 := inv_start sc hr.r.hd e0 hps r x1
  refine wpAny_mono (run.nox.run [] s1 (L2.start N ws) H { nx := fun _ H' => Q .non H', rt := Q } I0 ⟨Fr, startE d xs, S, PP, fl, S1, start_env hnl hlen hl hz, c, hbody, ?_⟩) (fun fl2 s2 hs => ?_) fun e s2 hs => hs
  · cases fl with
    | nx ρ =>
      obtain ⟨rfl, rfl⟩ := ret_ok hend
      exact fun σ H' P' hp he hc => q _ H' (swp _ H' ((hc.sub hp).addNon))
    | rt u =>
      obtain ⟨rfl, rfl⟩ := ret_ok hend
      exact fun z H' hc => q z H' (swp z H' hc)
    | bk ρ => simp [endF, stop] at hend
    | ct ρ => simp [endF, stop] at hend
  · cases fl2 with
    | ret u =>
      obtain ⟨z, σ', H', J, rz, qz⟩ := hs
      exact ⟨z, H', J.os, J.bare, J.base, J.hok, rz, qz⟩
    | next =>
      obtain ⟨σ', H', J, qz⟩ := hs
      exact ⟨V.non, H', J.os, J.bare, J.base, J.hok, rfl, qz⟩
    | brk =>
      obtain ⟨_, _, _, qz⟩ := hs
      exact qz.elim
    | cont =>
      obtain ⟨_, _, _, qz⟩ := hs
      exact qz.elim
theorem fni_all (hw : FV.w = w) (sm : SmOk base) {T : Nat → Option FnD} {W : Nat} {fns : List (Str × Nat)} {cons : List (Str × Val)} {blts : List Str} (G : GlOk K mg FV fns cons blts) (Dk : ∀ f a, FV.fv f a → DefOk K FV T fns cons blts f a) :
    ∀ k, FnI P w K mg base FV k (callF T W k)
  | 0 => fni_zero
  | k + 1 => fni_succ hw sm G Dk (fni_all hw sm G Dk k)
end
end MP
set_option linter.all false
set_option Elab.async false
set_option maxHeartbeats 2000000
namespace MP
open PySem L2 PySem.Spec PyProof.Rows
section
variable {P : Program} {w : World} {K : PySem.W.Frag} {mg mb : Str → Option Value} {FV : Glo}
/-- the script is tracked, unless it is an object of the top -/
def scrH (K : PySem.W.Frag) (a : Addr) (u : HO) : Hp := fun b => if b = a ∧ K.lookup a = none then some u else none
theorem scrH_some {a b : Addr} {u v : HO} (h : scrH K a u b = some v) : b = a ∧ v = u ∧ K.lookup a = none := by
  unfold scrH at h
  split at h
  · rename_i hc; cases h; exact ⟨hc.1, rfl, hc.2⟩
  · cases h
theorem vrs_ints {loc : Nat → Addr} {H : Hp} : ∀ ns : List Int, VRs K FV loc H (ns.map Val.int) (ns.map V.int)
  | [] => .nil
  | n :: ns => .cons (.int n) (vrs_ints ns)
theorem lt_ints (k : Nat) : ∀ ns : List Int, ltVs k (ns.map Val.int)
  | [] => trivial
  | n :: ns => ⟨trivial, lt_ints k ns⟩
/-- THE END: the call of the law with the script -/
theorem law_runs {k : Nat} {φ : Nat → List Val → M Val} {f : Nat} {fa a : Addr} {s1 : Shared} {vs : List Value} {ns : List Int} {S' : Sto}
    (hin : K.In s1.heap) (hsm : SmOk s1.heap) (hg : s1.heap.Ns mainGlobals mg) (hb : s1.heap.Ns builtinsNs mb) (hbb : ∀ x : Str, x ≠ "__name__" → mb x = bootBuiltins x) (hlim : s1.heap.NoLimit) (hgen : s1.gens = #[])
    (ho : s1.heap.get? a = some { cls := .type "list", data := .seq vs.toArray }) (hi : IntsAre vs ns) (hl : ns.length ≤ sizeLine) (hr : RoomI k callerA) (hf : FV.fv f fa)
    (F : ∀ base : Heap, SmOk base → FnI P w K mg base FV k φ) (hφ : φ f [.ref 0] [.rol (ns.map Val.int)] = .ok (.bl true) S') :
    codeAny (model P w) callerA (.call (.ref fa) ⟨[.ref a], []⟩) (fun r s' => r = .ok (.ret (.bool true)) ∧ OldK s1.heap s'.heap ∧ s'.os = s1.os ∧ AllBare s'.gens) s1 := by
  have rv := vals_ints hi
  have hlen := hi.length
  let scr : Obj := { cls := .type "list", data := .seq vs.toArray }
  let H : Hp := scrH K a (.frz scr (.lst (ns.map V.int)))
  have free : ∀ {b : Addr} {o : Obj}, s1.heap.get? b = some o → (∀ (z : Array Value) (e : Nat), o.data ≠ .seq z e) → H b = none := fun {b o} hb hd => by
    cases q : H b with
    | none => rfl
    | some u =>
      obtain ⟨e, _, _⟩ := scrH_some q
      subst e
      rw [ho] at hb
      cases hb
      exact absurd rfl (hd _ _)
  have keep : ∀ {b : Addr} {o : Obj}, s1.heap.get? b = some o → H b = none → (hidT s1.heap H).get? b = some o := fun hb hn => hidT_get hb hn
  have nsk : ∀ {b : Addr} {m : Str → Option Value}, s1.heap.Ns b m → (hidT s1.heap H).Ns b m := fun {b m} hn => by
    obtain ⟨o, es, ep, h1, h2, h3⟩ := hn
    exact ⟨o, es, ep, keep h1 (free h1 fun z e q => by rw [h2] at q; cases q), h2, h3⟩
  have hK : K.In (hidT s1.heap H) := fun b o hbo => keep (hin b o hbo) (by
    cases q : H b with
    | none => rfl
    | some u =>
      obtain ⟨e, _, hn⟩ := scrH_some q
      subst e
      rw [hn] at hbo
      cases hbo)
  have hsm' : SmOk (hidT s1.heap H) := by
    obtain ⟨o, h1, h2⟩ := hsm
    refine ⟨o, keep h1 ?_, h2⟩
    cases q : H sysModules with
    | none => rfl
    | some u =>
      obtain ⟨e, _, _⟩ := scrH_some q
      rw [e, ho] at h1
      cases h1
      exact absurd (Value.type.inj h2) (by decide)
  have hok : HOk P w H s1.heap := fun b u hbu => by
    obtain ⟨e, e2, _⟩ := scrH_some hbu
    subst e; subst e2
    exact ⟨ho, by rw [List.length_map]; exact hl, vs, 0, rv, ho⟩
  have mod : Mod K mg (hidT s1.heap H) := ⟨hK, nsk hg, ⟨mb, nsk hb, hbb⟩, by
    obtain ⟨mc, h1, h2⟩ := hlim
    exact ⟨mc, nsk h1, h2⟩⟩
  have env : Env0 P w K mg (hidT s1.heap H) callerA [] s1 H := ⟨rfl, mod, fun b o hb => of_hidT hb, Nat.le_of_eq (hidT_size _ _), trivial, (fun b hb => by cases hb), hok, .of_eq hgen⟩
  have rolk : RolL K H a (ns.map V.int) := by
    cases q : K.lookup a with
    | none => exact .inl ⟨scr, if_pos ⟨rfl, q⟩⟩
    | some o =>
      have e := hin a o q
      rw [ho] at e
      cases e
      exact .inr ⟨_, vs.toArray, 0, q, rfl, rfl, rfl, by rw [List.size_toArray, hlen]; exact hl, by simpa using rv⟩
  have c : Ctx K FV [] [.rol (ns.map Val.int)] H [(.ref 0, .ref a)] := by
    refine ⟨fun _ => a, fun i o h => ?_, fun i o h => ?_, fun i j o o' h h' m => ?_, fun p hp => ?_, fun p hp => (by cases hp), by simp⟩
    · cases i with
      | zero => simp at h; subst h; exact ⟨_, rolk, vrs_ints ns⟩
      | succ i => simp at h
    · cases i with
      | zero => simp at h; subst h; exact lt_ints _ ns
      | succ i => simp at h
    · cases i with
      | zero => simp at h; subst h; exact m.elim
      | succ i => simp at h
    · simp at hp
      subst hp
      exact ⟨.ref 0, by show ltV _ _; unfold ltV; simp⟩
  refine codeAny_mono (F _ hsm' f fa hf callerA [] s1 H ⟨[.ref a], []⟩ [.ref a] [.ref a] (fun v _ => v = .bl true) (.inl rfl) hr env (.cons rfl .nil) ⟨[], _, _, [.ref 0], .bl true, S', hφ, rfl, c, fun q hq => by simpa using hq, fun z H' c' => c'.bl m1⟩) fun r s' h => ?_
  cases r with
  | error e => exact h.elim
  | ok fl =>
    cases fl with
    | next => exact False.elim h
    | brk => exact False.elim h
    | cont => exact False.elim h
    | ret u =>
      obtain ⟨z, H', hos, hbare, hun, hok', rz, qz⟩ := h
      subst qz
      cases rz
      refine ⟨rfl, OldK.of_keep fun b o hbo => ?_, hos, hbare⟩
      cases q : H b with
      | none => exact hun.keep b o hbo q (by intro z; cases z) (by simp)
      | some u =>
        obtain ⟨e, e2, _⟩ := scrH_some q
        subst e; subst e2
        have h2 := hun.frzs _ _ _ q
        have h3 := (hok' _ _ h2).1
        rw [ho] at hbo
        cases hbo
        exact h3
/-- a law's end, over a head by facts -/
theorem law_end {l : PySem.W.OpenLaw} {n : Nat} {q : Program} {loose : List Str} {XP : (Str → Option Value) → Heap → Prop} {YP : World → Heap → Prop} {d : DefRec}
    (hn : l.most = some n) (hn2 : n ≤ sizeLine) (hdf : d.params.defaults = [])
    (F : ∀ (w : World) (mg : Str → Option Value) (fa : Addr) (h : Heap), YP w h → h.Ns mainGlobals mg → mg d.name = some (.ref fa) →
      ∃ (K : PySem.W.Frag) (FV : Glo) (T : Nat → Option FnD) (W k f : Nat) (fns : List (Str × Nat)) (cons : List (Str × Val)) (blts : List Str), K.In h ∧ SmOk h ∧ FV.w = w ∧ RoomI k callerA ∧ FV.fv f fa ∧
        GlOk K mg FV fns cons blts ∧ (∀ f a, FV.fv f a → DefOk K FV T fns cons blts f a) ∧ ∀ ns : List Int, ns.length ≤ n → ∃ S', callF T W k f [.ref 0] [.rol (ns.map Val.int)] = .ok (.bl true) S') :
    PySem.W.WalkO q loose XP YP l.row.toRowW d [] (fun f vs => PySem.call f vs) := by
  refine Att.attach_call hn hdf fun w s0 s1 mg mb fa o pm cd doc a vs ns G Y ho hd hcd hmg hobj hints hlen hg => ?_
  obtain ⟨K, FV, T, W, k, f, fns, cons, blts, hin, hsm, hw, hr, hf, hG, hD, hφ⟩ := F w mg fa _ Y G.T.g hmg
  obtain ⟨S', hS⟩ := hφ ns hlen
  exact law_runs hin hsm G.T.g G.T.b G.T.builtins G.T.nolimit hg hobj hints (Nat.le_trans hlen hn2) hr hf (fun base sm => fni_all hw sm hG hD k) hS
end
/-! ### the hook: the kit's defs hook, and the dict at sysModules -/
def smB (K : PySem.W.Frag) : Bool := match K.lookup sysModules with
  | some o => decide (o.cls = .type "dict")
  | none => false
abbrev AlM : Type := Bool × He.AlD
def obsMG (n : Nat) (fa : List He.Fa) (fn : List He.DefD) (g : Addr → Option Obj) : AlM :=
  (smB (He.frG g (sysModules :: He.asD g n)), He.obsD fa fn (He.frG g (sysModules :: He.asD g n)))
def SaysM (fa : List He.Fa) (fn : List He.DefD) (K : PySem.W.Frag) : Prop := smB K = true ∧ He.SaysD fa fn K
def hookM (n : Nat) (fa : List He.Fa) (fn : List He.DefD) : PySem.W.Hook where
  α := AlM
  obs := fun s => obsMG n fa fn s.heap.get?
  val := fun _ => (true, He.valD fn)
  says := fun _ h => ∃ K : PySem.W.Frag, K.In h ∧ SaysM fa fn K
  of := fun _ _ e => ⟨_, He.frG_in, congrArg (fun z : AlM => z.1) e, congrArg (fun z : AlM => z.2) e⟩
  keeps := fun _ _ _ ⟨K, hK, c⟩ k => ⟨K, PySem.W.Frag.In.keeps hK k, c⟩
theorem obsMG_eq {n : Nat} {fa : List He.Fa} {fn : List He.DefD} {g : Addr → Option Obj} {s : Shared} (h : ∀ a, g a = s.heap.get? a) : obsMG n fa fn g = (hookM n fa fn).obs s := by
  have e : g = s.heap.get? := funext h
  rw [e] <;> rfl
theorem smB_ok {K : PySem.W.Frag} {h : Heap} (hin : K.In h) (c : smB K = true) : SmOk h := by
  unfold smB at c
  split at c
  · rename_i o q
    exact ⟨o, hin _ _ q, of_decide_eq_true c⟩
  · cases c
end MP
set_option linter.all false
set_option Elab.async false
set_option maxHeartbeats 2000000
namespace MP
open PySem L2 PySem.Spec PyProof.Rows
/-! ### a law by its data -/
structure LD where
  no : Nat
  x : Str
  st : Stmt
  N : List Str
  ps : List Str
  n : Nat
  fd : FnD
def LD.he (d : LD) : He.DefD := ⟨(d.x, none), d.x, d.x, defArgs d.st, defBody d.st, defScope d.st, [], []⟩
def conFa : Str × Val → List He.Fa
  | (x, .int i) => [.int x i]
  | (x, .str l) => [.str x (stx l)]
  | _ => []
def isCon : Str × Val → Bool
  | (_, .int _) => true
  | (_, .str _) => true
  | _ => false
def faOf (ds : List LD) (cons : List (Str × Val)) (blts : List Str) : List He.Fa := ds.map (fun d => .glo d.x) ++ blts.map (fun b => .free b) ++ cons.flatMap conFa
def fnOf' (ds : List LD) : List He.DefD := ds.map LD.he
def tabT (ds : List LD) (f : Nat) : Option FnD := (ds.find? fun d => d.no == f).map (·.fd)
def gloOf (ds : List LD) (kt : List Site) (K : PySem.W.Frag) (w : World) : Glo := ⟨fun f a => ∃ d, d ∈ ds ∧ d.no = f ∧ a = He.ga K d.x, w, kt⟩
theorem lookup_mem {β : Type} {x : Str} {v : β} : ∀ {l : List (Str × β)}, l.lookup x = some v → (x, v) ∈ l
  | [], h => by cases h
  | (y, u) :: l, h => by
    rw [List.lookup_cons] at h
    split at h
    · rename_i e
      cases h
      rw [eq_of_beq e]
      exact List.mem_cons_self
    · exact List.mem_cons_of_mem _ (lookup_mem h)
theorem says_all {fa : List He.Fa} {fn : List He.DefD} {K : PySem.W.Frag} (c : He.SaysD fa fn K) {f : He.Fa} (h : f ∈ fa) : f.ok K = true := by
  have c1 := (He.ba (show ((fa.all fun f => f.ok K) && fn.all fun d => d.ok K) = true from congrArg (fun z : He.AlD => z.1) c)).1
  exact List.all_eq_true.mp c1 f h
theorem allc {α : Type} {P : α → Prop} {a : α} {l : List α} (h : P a) (t : ∀ d ∈ l, P d) : ∀ d ∈ a :: l, P d := fun d hd => by
  rcases List.mem_cons.mp hd with rfl | hd
  · exact h
  · exact t d hd
theorem alln {α : Type} {P : α → Prop} : ∀ d ∈ ([] : List α), P d := fun d hd => by cases hd
section
variable {kt : List Site} {ds : List LD} {cons : List (Str × Val)} {blts : List Str} {fns : List (Str × Nat)} {K : PySem.W.Frag} {w : World} {h : Heap} {mg : Str → Option Value}
structure LawD (kt : List Site) (ds : List LD) (fns : List (Str × Nat)) (cons : List (Str × Val)) (blts : List Str) : Prop where
  fnsOk : (fns.all fun p => ds.any fun d => d.no == p.2 && d.x == p.1) = true
  nd : (ds.map (·.no)).Nodup
  consOk : cons.all isCon = true
  tr : ∀ d ∈ ds, trSs (trS d.n ⟨d.N, (defScope d.st).names, fns, cons, blts, kt⟩) (defBody d.st) = some d.fd.body
  sc : ∀ d ∈ ds, FnScope d.N d.ps (defScope d.st)
  np : ∀ d ∈ ds, d.fd.np = d.ps.length ∧ d.fd.nl = d.N.length
  bd : ∀ d ∈ ds, ∀ (kV doc pm : Value) (an : Option Addr) (cdv ct : Value) (us : List Value), us.length = d.ps.length → bindArgs (PySem.W.fnOf d.x d.x (defArgs d.st) (defBody d.st) (defScope d.st) .none kV doc pm an cdv ct) ⟨us, []⟩ = pure (d.ps.zip us)
  kb : ∀ st ∈ kt, ∀ d ∈ ds, d.no = st.f → ∀ (kV doc pm : Value) (an : Option Addr) (cdv ct : Value) (us1 us2 : List Value), us1.length = st.n → us2.length = st.ks.length → bindArgs (PySem.W.fnOf d.x d.x (defArgs d.st) (defBody d.st) (defScope d.st) .none kV doc pm an cdv ct) ⟨us1, st.ks.zip us2⟩ = pure (d.ps.zip (st.perm.map fun i => (us1 ++ us2).getD i .none))
theorem glOk_of (L : LawD kt ds fns cons blts) (X : K.In h) (G : h.Ns mainGlobals mg) (c : He.SaysD (faOf ds cons blts) (fnOf' ds) K) : GlOk K mg (gloOf ds kt K w) fns cons blts := by
  refine ⟨fun x f hx => ?_, fun x hx => ?_, fun x v hx => ?_⟩
  · have hm := List.all_eq_true.mp L.fnsOk _ (lookup_mem hx)
    simp only at hm
    · obtain ⟨d, hmem, hm⟩ := List.any_eq_true.mp hm
      simp only [Bool.and_eq_true, beq_iff_eq] at hm
      have e : d.x = x := hm.2
      obtain ⟨i, hi, hd⟩ := List.getElem_of_mem hmem
      have hd : ds[i]? = some d := by rw [List.getElem?_eq_getElem hi, hd]
      have hg := He.glo_ok X G (x := d.x) (says_all c (List.mem_append_left _ (List.mem_append_left _ (List.mem_map.mpr ⟨d, hmem, rfl⟩))))
      obtain ⟨fd, F⟩ := c.def_ i (d := d.he) (by unfold fnOf'; rw [List.getElem?_map, hd]; rfl)
      refine ⟨_, by rw [← e]; exact hg, F.kp, d, hmem, hm.1, rfl⟩
  · exact He.free_ok X G (says_all c (List.mem_append_left _ (List.mem_append_right _ (List.mem_map.mpr ⟨x, List.contains_iff_mem.mp hx, rfl⟩))))
  · have hm := lookup_mem hx
    have hc := List.all_eq_true.mp L.consOk _ hm
    have fm : ∀ f ∈ conFa (x, v), f.ok K = true := fun f hf => says_all c (List.mem_append_right _ (List.mem_flatMap.mpr ⟨_, hm, hf⟩))
    cases v with
    | int i =>
      obtain ⟨t, e⟩ := He.int_ok X G (fm (.int x i) (by simp [conFa]))
      exact ⟨_, .int i, e, ⟨t, rfl⟩, fun F S H P c' => c'.addInt i⟩
    | str l =>
      obtain ⟨t, e⟩ := He.str_ok X G (fm (.str x (stx l)) (by simp [conFa]))
      exact ⟨_, .str (stx l), e, ⟨t, rfl⟩, fun F S H P c' => c'.addStr l⟩
    | _ => cases hc
theorem find_no : ∀ {ds : List LD}, (ds.map (·.no)).Nodup → ∀ {d : LD}, d ∈ ds → (ds.find? fun e => e.no == d.no) = some d
  | e :: ds, h, d, hd => by
    rw [List.map_cons, List.nodup_cons] at h
    rw [List.find?_cons]
    rcases List.mem_cons.mp hd with rfl | hd
    · rw [beq_self_eq_true]
    · have : (e.no == d.no) = false := by
        refine beq_eq_false_iff_ne.mpr fun z => h.1 ?_
        rw [z]; exact List.mem_map.mpr ⟨d, hd, rfl⟩
      rw [this]
      exact find_no h.2 hd
theorem ld_uniq : ∀ {ds : List LD}, (ds.map (·.no)).Nodup → ∀ {d e : LD}, d ∈ ds → e ∈ ds → d.no = e.no → d = e := fun {ds} h d e hd he z => by
  have h1 := find_no h hd
  have h2 := find_no h he
  rw [z] at h1
  rw [h1] at h2
  exact Option.some.inj h2
theorem defOk_of (L : LawD kt ds fns cons blts) (c : He.SaysD (faOf ds cons blts) (fnOf' ds) K) : ∀ f a, (gloOf ds kt K w).fv f a → DefOk K (gloOf ds kt K w) (tabT ds) fns cons blts f a := by
  rintro f a ⟨d, hmem, rfl, rfl⟩
  obtain ⟨i, hi, hd⟩ := List.getElem_of_mem hmem
  have hd : ds[i]? = some d := by rw [List.getElem?_eq_getElem hi, hd]
  obtain ⟨fd, F⟩ := c.def_ i (d := d.he) (by unfold fnOf'; rw [List.getElem?_map, hd]; rfl)
  have hT : tabT ds d.no = some d.fd := by
    unfold tabT
    rw [find_no L.nd hmem]; rfl
  refine ⟨d.x, d.x, _, _, _, _, _, fd, d.N, d.ps, d.fd, d.n, F, L.sc d hmem, F.bindsN (L.bd d hmem), fun st hst e s us1 us2 h1 h2 => ?_, hT, (L.np d hmem).1, (L.np d hmem).2, L.tr d hmem⟩
  obtain ⟨oc, od, dV, kV, doc, pm, an, cdv, ct, osl, rfl, lk, hcd, hD, hK⟩ := F.ex
  rcases hD with ⟨_, rfl⟩ | ⟨e, _⟩
  · exact .of_eq (L.kb st hst d hmem e.symm kV doc pm an cdv ct us1 us2 h1 h2)
  · exact absurd rfl e
/-- the law's end, by its data -/
theorem law_of {l : PySem.W.OpenLaw} {n : Nat} {q : Program} {loose : List Str} {XP : (Str → Option Value) → Heap → Prop} {YP : World → Heap → Prop} {d : DefRec} {k W f : Nat} {dl : LD}
    (hn : l.most = some n) (hn2 : n ≤ sizeLine) (hdf : d.params.defaults = []) (L : LawD kt ds fns cons blts) (hr : RoomI k callerA) (hdl : dl ∈ ds) (hno : dl.no = f) (hx : d.name = dl.x)
    (Y : ∀ w h, YP w h → ∃ K : PySem.W.Frag, K.In h ∧ SaysM (faOf ds cons blts) (fnOf' ds) K)
    (F : ∀ ns : List Int, ns.length ≤ n → ∃ S', callF (tabT ds) W k f [.ref 0] [.rol (ns.map Val.int)] = .ok (.bl true) S') :
    PySem.W.WalkO q loose XP YP l.row.toRowW d [] (fun f vs => PySem.call f vs) := by
  refine law_end hn hn2 hdf fun w mg fa h hY G hmg => ?_
  obtain ⟨K, X, c0, c⟩ := Y w h hY
  have hmem := hdl
  have hg := He.glo_ok X G (x := dl.x) (says_all c (List.mem_append_left _ (List.mem_append_left _ (List.mem_map.mpr ⟨dl, hmem, rfl⟩))))
  rw [hx, hg] at hmg
  cases hmg
  exact ⟨K, gloOf ds kt K w, tabT ds, W, k, f, fns, cons, blts, X, smB_ok X c0, rfl, hr, ⟨dl, hdl, hno, rfl⟩, glOk_of L X G c, defOk_of L c, F⟩
end
end MP
set_option linter.all false
set_option Elab.async false
/-! reasoning about the interpreter: an evaluation and what follows it -/
namespace MP
open PySem
@[simp ↓] theorem bind_ok {α β : Type} (a : α) (S : Sto) (f : α → M β) : (Res.ok a S).bind f = f a S := Eq.trans rfl rfl
@[simp ↓] theorem bind_bad {α β : Type} (f : α → M β) : (Res.bad : Res α).bind f = .bad := Eq.trans rfl rfl
@[simp ↓] theorem bind_exc {α β : Type} (c : Nat) (v : Val) (S : Sto) (f : α → M β) : (Res.exc c v S : Res α).bind f = .exc c v S := Eq.trans rfl rfl
theorem bind_bind {α β γ : Type} (r : Res α) (f : α → M β) (g : β → M γ) : (r.bind f).bind g = r.bind fun a S => (f a S).bind g := by cases r <;> rfl
theorem bind_id {α : Type} (r : Res α) : (r.bind fun a S => .ok a S) = r := by cases r <;> rfl
@[simp ↓] theorem ite_bind {α β : Type} {c : Prop} [Decidable c] (a b : Res α) (f : α → M β) : (if c then a else b).bind f = if c then a.bind f else b.bind f := by split <;> rfl
@[simp ↓] theorem bnd_ap {α β : Type} (m : M α) (f : α → M β) (S : Sto) : bnd m f S = (m S).bind f := Eq.trans rfl rfl
@[simp ↓] theorem ret_ap {α : Type} (a : α) (S : Sto) : ret a S = .ok a S := Eq.trans rfl rfl
@[simp ↓] theorem stop_ap {α : Type} (S : Sto) : (stop : M α) S = .bad := Eq.trans rfl rfl
def varR : Option (Option Val) → M Val
  | some (some v) => ret v
  | _ => stop
@[simp] theorem varR_some (v : Val) (S : Sto) : varR (some (some v)) S = .ok v S := Eq.trans rfl rfl
def negR : Val → M Val
  | .int i => ret (.int (-i))
  | _ => stop
@[simp] theorem negR_int (i : Int) (S : Sto) : negR (.int i) S = .ok (.int (-i)) S := Eq.trans rfl rfl
def slR (x : Val) (l h : List Val) : M Val := fun S => match partOf l, partOf h with
  | some l', some h' => slV x l' h' S
  | _, _ => .bad
def tupR (xs : List Val) : M Val := fun S => if xs.length ≤ line then .ok (.tup xs) S else .bad
def lstR (xs : List Val) : M Val := fun S => if xs.length ≤ line then .ok (.ref S.length) (S ++ [.lst xs]) else .bad
@[simp] theorem tupR_ok {xs : List Val} {S : Sto} (h : xs.length ≤ line) : tupR xs S = .ok (.tup xs) S := if_pos h
@[simp] theorem lstR_ok {xs : List Val} {S : Sto} (h : xs.length ≤ line) : lstR xs S = .ok (.ref S.length) (S ++ [.lst xs]) := if_pos h
@[simp] theorem tupR0 {S : Sto} : tupR [] S = .ok (.tup []) S := tupR_ok (by show 0 ≤ 16777216; decide)
@[simp] theorem lstR0 {S : Sto} : lstR [] S = .ok (.ref S.length) (S ++ [.lst []]) := lstR_ok (by show 0 ≤ 16777216; decide)
@[simp] theorem tupR1 {a0 : Val} {S : Sto} : tupR [a0] S = .ok (.tup [a0]) S := tupR_ok (by show 1 ≤ 16777216; decide)
@[simp] theorem lstR1 {a0 : Val} {S : Sto} : lstR [a0] S = .ok (.ref S.length) (S ++ [.lst [a0]]) := lstR_ok (by show 1 ≤ 16777216; decide)
@[simp] theorem tupR2 {a0 a1 : Val} {S : Sto} : tupR [a0, a1] S = .ok (.tup [a0, a1]) S := tupR_ok (by show 2 ≤ 16777216; decide)
@[simp] theorem lstR2 {a0 a1 : Val} {S : Sto} : lstR [a0, a1] S = .ok (.ref S.length) (S ++ [.lst [a0, a1]]) := lstR_ok (by show 2 ≤ 16777216; decide)
@[simp] theorem tupR3 {a0 a1 a2 : Val} {S : Sto} : tupR [a0, a1, a2] S = .ok (.tup [a0, a1, a2]) S := tupR_ok (by show 3 ≤ 16777216; decide)
@[simp] theorem lstR3 {a0 a1 a2 : Val} {S : Sto} : lstR [a0, a1, a2] S = .ok (.ref S.length) (S ++ [.lst [a0, a1, a2]]) := lstR_ok (by show 3 ≤ 16777216; decide)
@[simp] theorem tupR4 {a0 a1 a2 a3 : Val} {S : Sto} : tupR [a0, a1, a2, a3] S = .ok (.tup [a0, a1, a2, a3]) S := tupR_ok (by show 4 ≤ 16777216; decide)
@[simp] theorem lstR4 {a0 a1 a2 a3 : Val} {S : Sto} : lstR [a0, a1, a2, a3] S = .ok (.ref S.length) (S ++ [.lst [a0, a1, a2, a3]]) := lstR_ok (by show 4 ≤ 16777216; decide)
@[simp] theorem tupR5 {a0 a1 a2 a3 a4 : Val} {S : Sto} : tupR [a0, a1, a2, a3, a4] S = .ok (.tup [a0, a1, a2, a3, a4]) S := tupR_ok (by show 5 ≤ 16777216; decide)
@[simp] theorem lstR5 {a0 a1 a2 a3 a4 : Val} {S : Sto} : lstR [a0, a1, a2, a3, a4] S = .ok (.ref S.length) (S ++ [.lst [a0, a1, a2, a3, a4]]) := lstR_ok (by show 5 ≤ 16777216; decide)
@[simp] theorem tupR6 {a0 a1 a2 a3 a4 a5 : Val} {S : Sto} : tupR [a0, a1, a2, a3, a4, a5] S = .ok (.tup [a0, a1, a2, a3, a4, a5]) S := tupR_ok (by show 6 ≤ 16777216; decide)
@[simp] theorem lstR6 {a0 a1 a2 a3 a4 a5 : Val} {S : Sto} : lstR [a0, a1, a2, a3, a4, a5] S = .ok (.ref S.length) (S ++ [.lst [a0, a1, a2, a3, a4, a5]]) := lstR_ok (by show 6 ≤ 16777216; decide)
@[simp] theorem tupR7 {a0 a1 a2 a3 a4 a5 a6 : Val} {S : Sto} : tupR [a0, a1, a2, a3, a4, a5, a6] S = .ok (.tup [a0, a1, a2, a3, a4, a5, a6]) S := tupR_ok (by show 7 ≤ 16777216; decide)
@[simp] theorem lstR7 {a0 a1 a2 a3 a4 a5 a6 : Val} {S : Sto} : lstR [a0, a1, a2, a3, a4, a5, a6] S = .ok (.ref S.length) (S ++ [.lst [a0, a1, a2, a3, a4, a5, a6]]) := lstR_ok (by show 7 ≤ 16777216; decide)
@[simp] theorem tupR8 {a0 a1 a2 a3 a4 a5 a6 a7 : Val} {S : Sto} : tupR [a0, a1, a2, a3, a4, a5, a6, a7] S = .ok (.tup [a0, a1, a2, a3, a4, a5, a6, a7]) S := tupR_ok (by show 8 ≤ 16777216; decide)
@[simp] theorem lstR8 {a0 a1 a2 a3 a4 a5 a6 a7 : Val} {S : Sto} : lstR [a0, a1, a2, a3, a4, a5, a6, a7] S = .ok (.ref S.length) (S ++ [.lst [a0, a1, a2, a3, a4, a5, a6, a7]]) := lstR_ok (by show 8 ≤ 16777216; decide)
@[simp] theorem tupR9 {a0 a1 a2 a3 a4 a5 a6 a7 a8 : Val} {S : Sto} : tupR [a0, a1, a2, a3, a4, a5, a6, a7, a8] S = .ok (.tup [a0, a1, a2, a3, a4, a5, a6, a7, a8]) S := tupR_ok (by show 9 ≤ 16777216; decide)
@[simp] theorem lstR9 {a0 a1 a2 a3 a4 a5 a6 a7 a8 : Val} {S : Sto} : lstR [a0, a1, a2, a3, a4, a5, a6, a7, a8] S = .ok (.ref S.length) (S ++ [.lst [a0, a1, a2, a3, a4, a5, a6, a7, a8]]) := lstR_ok (by show 9 ≤ 16777216; decide)
@[simp] theorem tupR10 {a0 a1 a2 a3 a4 a5 a6 a7 a8 a9 : Val} {S : Sto} : tupR [a0, a1, a2, a3, a4, a5, a6, a7, a8, a9] S = .ok (.tup [a0, a1, a2, a3, a4, a5, a6, a7, a8, a9]) S := tupR_ok (by show 10 ≤ 16777216; decide)
@[simp] theorem lstR10 {a0 a1 a2 a3 a4 a5 a6 a7 a8 a9 : Val} {S : Sto} : lstR [a0, a1, a2, a3, a4, a5, a6, a7, a8, a9] S = .ok (.ref S.length) (S ++ [.lst [a0, a1, a2, a3, a4, a5, a6, a7, a8, a9]]) := lstR_ok (by show 10 ≤ 16777216; decide)
@[simp] theorem tupR11 {a0 a1 a2 a3 a4 a5 a6 a7 a8 a9 a10 : Val} {S : Sto} : tupR [a0, a1, a2, a3, a4, a5, a6, a7, a8, a9, a10] S = .ok (.tup [a0, a1, a2, a3, a4, a5, a6, a7, a8, a9, a10]) S := tupR_ok (by show 11 ≤ 16777216; decide)
@[simp] theorem lstR11 {a0 a1 a2 a3 a4 a5 a6 a7 a8 a9 a10 : Val} {S : Sto} : lstR [a0, a1, a2, a3, a4, a5, a6, a7, a8, a9, a10] S = .ok (.ref S.length) (S ++ [.lst [a0, a1, a2, a3, a4, a5, a6, a7, a8, a9, a10]]) := lstR_ok (by show 11 ≤ 16777216; decide)
@[simp] theorem tupR12 {a0 a1 a2 a3 a4 a5 a6 a7 a8 a9 a10 a11 : Val} {S : Sto} : tupR [a0, a1, a2, a3, a4, a5, a6, a7, a8, a9, a10, a11] S = .ok (.tup [a0, a1, a2, a3, a4, a5, a6, a7, a8, a9, a10, a11]) S := tupR_ok (by show 12 ≤ 16777216; decide)
@[simp] theorem lstR12 {a0 a1 a2 a3 a4 a5 a6 a7 a8 a9 a10 a11 : Val} {S : Sto} : lstR [a0, a1, a2, a3, a4, a5, a6, a7, a8, a9, a10, a11] S = .ok (.ref S.length) (S ++ [.lst [a0, a1, a2, a3, a4, a5, a6, a7, a8, a9, a10, a11]]) := lstR_ok (by show 12 ≤ 16777216; decide)
@[simp] theorem tupR13 {a0 a1 a2 a3 a4 a5 a6 a7 a8 a9 a10 a11 a12 : Val} {S : Sto} : tupR [a0, a1, a2, a3, a4, a5, a6, a7, a8, a9, a10, a11, a12] S = .ok (.tup [a0, a1, a2, a3, a4, a5, a6, a7, a8, a9, a10, a11, a12]) S := tupR_ok (by show 13 ≤ 16777216; decide)
@[simp] theorem lstR13 {a0 a1 a2 a3 a4 a5 a6 a7 a8 a9 a10 a11 a12 : Val} {S : Sto} : lstR [a0, a1, a2, a3, a4, a5, a6, a7, a8, a9, a10, a11, a12] S = .ok (.ref S.length) (S ++ [.lst [a0, a1, a2, a3, a4, a5, a6, a7, a8, a9, a10, a11, a12]]) := lstR_ok (by show 13 ≤ 16777216; decide)
@[simp] theorem tupR14 {a0 a1 a2 a3 a4 a5 a6 a7 a8 a9 a10 a11 a12 a13 : Val} {S : Sto} : tupR [a0, a1, a2, a3, a4, a5, a6, a7, a8, a9, a10, a11, a12, a13] S = .ok (.tup [a0, a1, a2, a3, a4, a5, a6, a7, a8, a9, a10, a11, a12, a13]) S := tupR_ok (by show 14 ≤ 16777216; decide)
@[simp] theorem lstR14 {a0 a1 a2 a3 a4 a5 a6 a7 a8 a9 a10 a11 a12 a13 : Val} {S : Sto} : lstR [a0, a1, a2, a3, a4, a5, a6, a7, a8, a9, a10, a11, a12, a13] S = .ok (.ref S.length) (S ++ [.lst [a0, a1, a2, a3, a4, a5, a6, a7, a8, a9, a10, a11, a12, a13]]) := lstR_ok (by show 14 ≤ 16777216; decide)
@[simp] theorem tupR15 {a0 a1 a2 a3 a4 a5 a6 a7 a8 a9 a10 a11 a12 a13 a14 : Val} {S : Sto} : tupR [a0, a1, a2, a3, a4, a5, a6, a7, a8, a9, a10, a11, a12, a13, a14] S = .ok (.tup [a0, a1, a2, a3, a4, a5, a6, a7, a8, a9, a10, a11, a12, a13, a14]) S := tupR_ok (by show 15 ≤ 16777216; decide)
@[simp] theorem lstR15 {a0 a1 a2 a3 a4 a5 a6 a7 a8 a9 a10 a11 a12 a13 a14 : Val} {S : Sto} : lstR [a0, a1, a2, a3, a4, a5, a6, a7, a8, a9, a10, a11, a12, a13, a14] S = .ok (.ref S.length) (S ++ [.lst [a0, a1, a2, a3, a4, a5, a6, a7, a8, a9, a10, a11, a12, a13, a14]]) := lstR_ok (by show 15 ≤ 16777216; decide)
@[simp] theorem tupR16 {a0 a1 a2 a3 a4 a5 a6 a7 a8 a9 a10 a11 a12 a13 a14 a15 : Val} {S : Sto} : tupR [a0, a1, a2, a3, a4, a5, a6, a7, a8, a9, a10, a11, a12, a13, a14, a15] S = .ok (.tup [a0, a1, a2, a3, a4, a5, a6, a7, a8, a9, a10, a11, a12, a13, a14, a15]) S := tupR_ok (by show 16 ≤ 16777216; decide)
@[simp] theorem lstR16 {a0 a1 a2 a3 a4 a5 a6 a7 a8 a9 a10 a11 a12 a13 a14 a15 : Val} {S : Sto} : lstR [a0, a1, a2, a3, a4, a5, a6, a7, a8, a9, a10, a11, a12, a13, a14, a15] S = .ok (.ref S.length) (S ++ [.lst [a0, a1, a2, a3, a4, a5, a6, a7, a8, a9, a10, a11, a12, a13, a14, a15]]) := lstR_ok (by show 16 ≤ 16777216; decide)
@[simp] theorem tupR17 {a0 a1 a2 a3 a4 a5 a6 a7 a8 a9 a10 a11 a12 a13 a14 a15 a16 : Val} {S : Sto} : tupR [a0, a1, a2, a3, a4, a5, a6, a7, a8, a9, a10, a11, a12, a13, a14, a15, a16] S = .ok (.tup [a0, a1, a2, a3, a4, a5, a6, a7, a8, a9, a10, a11, a12, a13, a14, a15, a16]) S := tupR_ok (by show 17 ≤ 16777216; decide)
@[simp] theorem lstR17 {a0 a1 a2 a3 a4 a5 a6 a7 a8 a9 a10 a11 a12 a13 a14 a15 a16 : Val} {S : Sto} : lstR [a0, a1, a2, a3, a4, a5, a6, a7, a8, a9, a10, a11, a12, a13, a14, a15, a16] S = .ok (.ref S.length) (S ++ [.lst [a0, a1, a2, a3, a4, a5, a6, a7, a8, a9, a10, a11, a12, a13, a14, a15, a16]]) := lstR_ok (by show 17 ≤ 16777216; decide)
@[simp] theorem tupR18 {a0 a1 a2 a3 a4 a5 a6 a7 a8 a9 a10 a11 a12 a13 a14 a15 a16 a17 : Val} {S : Sto} : tupR [a0, a1, a2, a3, a4, a5, a6, a7, a8, a9, a10, a11, a12, a13, a14, a15, a16, a17] S = .ok (.tup [a0, a1, a2, a3, a4, a5, a6, a7, a8, a9, a10, a11, a12, a13, a14, a15, a16, a17]) S := tupR_ok (by show 18 ≤ 16777216; decide)
@[simp] theorem lstR18 {a0 a1 a2 a3 a4 a5 a6 a7 a8 a9 a10 a11 a12 a13 a14 a15 a16 a17 : Val} {S : Sto} : lstR [a0, a1, a2, a3, a4, a5, a6, a7, a8, a9, a10, a11, a12, a13, a14, a15, a16, a17] S = .ok (.ref S.length) (S ++ [.lst [a0, a1, a2, a3, a4, a5, a6, a7, a8, a9, a10, a11, a12, a13, a14, a15, a16, a17]]) := lstR_ok (by show 18 ≤ 16777216; decide)
@[simp] theorem tupR19 {a0 a1 a2 a3 a4 a5 a6 a7 a8 a9 a10 a11 a12 a13 a14 a15 a16 a17 a18 : Val} {S : Sto} : tupR [a0, a1, a2, a3, a4, a5, a6, a7, a8, a9, a10, a11, a12, a13, a14, a15, a16, a17, a18] S = .ok (.tup [a0, a1, a2, a3, a4, a5, a6, a7, a8, a9, a10, a11, a12, a13, a14, a15, a16, a17, a18]) S := tupR_ok (by show 19 ≤ 16777216; decide)
@[simp] theorem lstR19 {a0 a1 a2 a3 a4 a5 a6 a7 a8 a9 a10 a11 a12 a13 a14 a15 a16 a17 a18 : Val} {S : Sto} : lstR [a0, a1, a2, a3, a4, a5, a6, a7, a8, a9, a10, a11, a12, a13, a14, a15, a16, a17, a18] S = .ok (.ref S.length) (S ++ [.lst [a0, a1, a2, a3, a4, a5, a6, a7, a8, a9, a10, a11, a12, a13, a14, a15, a16, a17, a18]]) := lstR_ok (by show 19 ≤ 16777216; decide)
@[simp] theorem tupR20 {a0 a1 a2 a3 a4 a5 a6 a7 a8 a9 a10 a11 a12 a13 a14 a15 a16 a17 a18 a19 : Val} {S : Sto} : tupR [a0, a1, a2, a3, a4, a5, a6, a7, a8, a9, a10, a11, a12, a13, a14, a15, a16, a17, a18, a19] S = .ok (.tup [a0, a1, a2, a3, a4, a5, a6, a7, a8, a9, a10, a11, a12, a13, a14, a15, a16, a17, a18, a19]) S := tupR_ok (by show 20 ≤ 16777216; decide)
@[simp] theorem lstR20 {a0 a1 a2 a3 a4 a5 a6 a7 a8 a9 a10 a11 a12 a13 a14 a15 a16 a17 a18 a19 : Val} {S : Sto} : lstR [a0, a1, a2, a3, a4, a5, a6, a7, a8, a9, a10, a11, a12, a13, a14, a15, a16, a17, a18, a19] S = .ok (.ref S.length) (S ++ [.lst [a0, a1, a2, a3, a4, a5, a6, a7, a8, a9, a10, a11, a12, a13, a14, a15, a16, a17, a18, a19]]) := lstR_ok (by show 20 ≤ 16777216; decide)
@[simp] theorem tupR21 {a0 a1 a2 a3 a4 a5 a6 a7 a8 a9 a10 a11 a12 a13 a14 a15 a16 a17 a18 a19 a20 : Val} {S : Sto} : tupR [a0, a1, a2, a3, a4, a5, a6, a7, a8, a9, a10, a11, a12, a13, a14, a15, a16, a17, a18, a19, a20] S = .ok (.tup [a0, a1, a2, a3, a4, a5, a6, a7, a8, a9, a10, a11, a12, a13, a14, a15, a16, a17, a18, a19, a20]) S := tupR_ok (by show 21 ≤ 16777216; decide)
@[simp] theorem lstR21 {a0 a1 a2 a3 a4 a5 a6 a7 a8 a9 a10 a11 a12 a13 a14 a15 a16 a17 a18 a19 a20 : Val} {S : Sto} : lstR [a0, a1, a2, a3, a4, a5, a6, a7, a8, a9, a10, a11, a12, a13, a14, a15, a16, a17, a18, a19, a20] S = .ok (.ref S.length) (S ++ [.lst [a0, a1, a2, a3, a4, a5, a6, a7, a8, a9, a10, a11, a12, a13, a14, a15, a16, a17, a18, a19, a20]]) := lstR_ok (by show 21 ≤ 16777216; decide)
@[simp] theorem tupR22 {a0 a1 a2 a3 a4 a5 a6 a7 a8 a9 a10 a11 a12 a13 a14 a15 a16 a17 a18 a19 a20 a21 : Val} {S : Sto} : tupR [a0, a1, a2, a3, a4, a5, a6, a7, a8, a9, a10, a11, a12, a13, a14, a15, a16, a17, a18, a19, a20, a21] S = .ok (.tup [a0, a1, a2, a3, a4, a5, a6, a7, a8, a9, a10, a11, a12, a13, a14, a15, a16, a17, a18, a19, a20, a21]) S := tupR_ok (by show 22 ≤ 16777216; decide)
@[simp] theorem lstR22 {a0 a1 a2 a3 a4 a5 a6 a7 a8 a9 a10 a11 a12 a13 a14 a15 a16 a17 a18 a19 a20 a21 : Val} {S : Sto} : lstR [a0, a1, a2, a3, a4, a5, a6, a7, a8, a9, a10, a11, a12, a13, a14, a15, a16, a17, a18, a19, a20, a21] S = .ok (.ref S.length) (S ++ [.lst [a0, a1, a2, a3, a4, a5, a6, a7, a8, a9, a10, a11, a12, a13, a14, a15, a16, a17, a18, a19, a20, a21]]) := lstR_ok (by show 22 ≤ 16777216; decide)
@[simp] theorem tupR23 {a0 a1 a2 a3 a4 a5 a6 a7 a8 a9 a10 a11 a12 a13 a14 a15 a16 a17 a18 a19 a20 a21 a22 : Val} {S : Sto} : tupR [a0, a1, a2, a3, a4, a5, a6, a7, a8, a9, a10, a11, a12, a13, a14, a15, a16, a17, a18, a19, a20, a21, a22] S = .ok (.tup [a0, a1, a2, a3, a4, a5, a6, a7, a8, a9, a10, a11, a12, a13, a14, a15, a16, a17, a18, a19, a20, a21, a22]) S := tupR_ok (by show 23 ≤ 16777216; decide)
@[simp] theorem lstR23 {a0 a1 a2 a3 a4 a5 a6 a7 a8 a9 a10 a11 a12 a13 a14 a15 a16 a17 a18 a19 a20 a21 a22 : Val} {S : Sto} : lstR [a0, a1, a2, a3, a4, a5, a6, a7, a8, a9, a10, a11, a12, a13, a14, a15, a16, a17, a18, a19, a20, a21, a22] S = .ok (.ref S.length) (S ++ [.lst [a0, a1, a2, a3, a4, a5, a6, a7, a8, a9, a10, a11, a12, a13, a14, a15, a16, a17, a18, a19, a20, a21, a22]]) := lstR_ok (by show 23 ≤ 16777216; decide)
@[simp] theorem tupR24 {a0 a1 a2 a3 a4 a5 a6 a7 a8 a9 a10 a11 a12 a13 a14 a15 a16 a17 a18 a19 a20 a21 a22 a23 : Val} {S : Sto} : tupR [a0, a1, a2, a3, a4, a5, a6, a7, a8, a9, a10, a11, a12, a13, a14, a15, a16, a17, a18, a19, a20, a21, a22, a23] S = .ok (.tup [a0, a1, a2, a3, a4, a5, a6, a7, a8, a9, a10, a11, a12, a13, a14, a15, a16, a17, a18, a19, a20, a21, a22, a23]) S := tupR_ok (by show 24 ≤ 16777216; decide)
@[simp] theorem lstR24 {a0 a1 a2 a3 a4 a5 a6 a7 a8 a9 a10 a11 a12 a13 a14 a15 a16 a17 a18 a19 a20 a21 a22 a23 : Val} {S : Sto} : lstR [a0, a1, a2, a3, a4, a5, a6, a7, a8, a9, a10, a11, a12, a13, a14, a15, a16, a17, a18, a19, a20, a21, a22, a23] S = .ok (.ref S.length) (S ++ [.lst [a0, a1, a2, a3, a4, a5, a6, a7, a8, a9, a10, a11, a12, a13, a14, a15, a16, a17, a18, a19, a20, a21, a22, a23]]) := lstR_ok (by show 24 ≤ 16777216; decide)
def chnR (z : Val) (m : M Val) : M Val := match z with
  | .bl true => m
  | .bl false => ret (.bl false)
  | _ => stop
@[simp] theorem chnR_bl (b : Bool) (m : M Val) (S : Sto) : chnR (.bl b) m S = if b = true then m S else .ok (.bl false) S := by cases b <;> rfl
def mtdR (m : BM) (x : Val) (r : Option Rt) (k : M (List Val)) : M Val := match r with
  | some t => bnd k fun xs => mtdV t m x xs
  | none => stop
@[simp] theorem mtdR_some (m : BM) (x : Val) (t : Rt) (k : M (List Val)) (S : Sto) : mtdR m x (some t) k S = (k S).bind fun xs S => mtdV t m x xs S := Eq.trans rfl rfl
def rngV (x : Val) : M Wk := fun S => match x with
  | .int n => if -(2 ^ 62) ≤ n ∧ n < 2 ^ 62 then .ok ⟨[], (List.range n.toNat).map fun (k : Nat) => Val.int (k : Int), none⟩ S else .bad
  | _ => .bad
@[simp] theorem rngV_int {n : Int} {S : Sto} (h : -(2 ^ 62) ≤ n ∧ n < 2 ^ 62) : rngV (.int n) S = .ok ⟨[], (List.range n.toNat).map fun (k : Nat) => Val.int (k : Int), none⟩ S := if_pos h
def rngV2 (x y : Val) : M Wk := fun S => match x, y with
  | .int m, .int n => if -(2 ^ 62) ≤ n ∧ n < 2 ^ 62 ∧ -(2 ^ 62) ≤ m ∧ m < 2 ^ 62 then .ok ⟨[], (List.range (n - m).toNat).map fun (k : Nat) => Val.int (m + (k : Int)), none⟩ S else .bad
  | _, _ => .bad
@[simp] theorem rngV2_int {m n : Int} {S : Sto} (h : -(2 ^ 62) ≤ n ∧ n < 2 ^ 62 ∧ -(2 ^ 62) ≤ m ∧ m < 2 ^ 62) : rngV2 (.int m) (.int n) S = .ok ⟨[], (List.range (n - m).toNat).map fun (k : Nat) => Val.int (m + (k : Int)), none⟩ S := if_pos h
section
variable {φ : Nat → List Val → M Val} {W : Nat} {ρ : Env} {S : Sto}
/-- one turn of a comprehension -/
noncomputable def lcF (φ : Nat → List Val → M Val) (elt : ME) (tg : Tg) (cs : List ME) (ρ : Env) (x : Val) : M (Option Val) := fun S =>
  (tgV tg x ρ S).bind fun ρ' S => (meanC φ cs ρ' S).bind fun k S => if k = true then (meanE φ elt ρ' S).bind fun y S => .ok (some y) S else .ok none S
theorem lcF_ap {elt : ME} {tg : Tg} {cs : List ME} {x : Val} : lcF φ elt tg cs ρ x S = (tgV tg x ρ S).bind fun ρ' S => (meanC φ cs ρ' S).bind fun k S => if k = true then (meanE φ elt ρ' S).bind fun y S => .ok (some y) S else .ok none S := rfl
/-- one turn of a loop -/
noncomputable def forF (φ : Nat → List Val → M Val) (W : Nat) (tg : Tg) (b : List MS) (x : Val) (ρ : Env) : M Fl := fun S => (tgV tg x ρ S).bind fun ρ' S => meanB φ W b ρ' S
theorem forF_ap {tg : Tg} {b : List MS} {x : Val} : forF φ W tg b x ρ S = (tgV tg x ρ S).bind fun ρ' S => (meanB φ W b ρ' S).bind fun r S => .ok r S := by
  unfold forF; congr; funext ρ' S; exact (bind_id _).symm
/-- what follows a statement -/
def aftF (k : Env → M Fl) (r : Fl) : M Fl := match r with
  | .nx ρ' => k ρ'
  | r => ret r
@[simp ↓] theorem aft_nx (k : Env → M Fl) (ρ : Env) (S : Sto) : aftF k (.nx ρ) S = k ρ S := Eq.trans rfl rfl
@[simp ↓] theorem aft_rt (k : Env → M Fl) (v : Val) (S : Sto) : aftF k (.rt v) S = .ok (.rt v) S := Eq.trans rfl rfl
@[simp ↓] theorem aft_bk (k : Env → M Fl) (ρ : Env) (S : Sto) : aftF k (.bk ρ) S = .ok (.bk ρ) S := Eq.trans rfl rfl
@[simp ↓] theorem aft_ct (k : Env → M Fl) (ρ : Env) (S : Sto) : aftF k (.ct ρ) S = .ok (.ct ρ) S := Eq.trans rfl rfl
theorem eCon {v : Val} : meanE φ (.con v) ρ S = .ok v S := by unfold meanE; rfl
theorem eVar {i : Nat} : meanE φ (.var i) ρ S = varR ρ[i]? S := by unfold meanE; cases h : ρ[i]? with | none => rfl | some o => cases o <;> rfl
theorem eBin {o : Operator} {a b : ME} : meanE φ (.bin o a b) ρ S = (meanE φ a ρ S).bind fun x S => (meanE φ b ρ S).bind fun y S => binV o x y S := by rw [meanE]; rfl
theorem eNeg {a : ME} : meanE φ (.neg a) ρ S = (meanE φ a ρ S).bind fun x S => negR x S := by
  rw [meanE]; unfold bnd; congr
theorem eNot {a : ME} : meanE φ (.not a) ρ S = (meanE φ a ρ S).bind fun x S => (truV x S).bind fun b S => .ok (.bl (!b)) S := by rw [meanE]; rfl
theorem eAnd {a b : ME} : meanE φ (.and a b) ρ S = (meanE φ a ρ S).bind fun x S => (truV x S).bind fun k S => if k = true then meanE φ b ρ S else .ok x S := by
  rw [meanE]; unfold bnd; congr; funext x S; congr; funext k S; cases k <;> rfl
theorem eOr {a b : ME} : meanE φ (.or a b) ρ S = (meanE φ a ρ S).bind fun x S => (truV x S).bind fun k S => if k = true then .ok x S else meanE φ b ρ S := by
  rw [meanE]; unfold bnd; congr; funext x S; congr; funext k S; cases k <;> rfl
theorem eIte {c a b : ME} : meanE φ (.ite c a b) ρ S = (meanE φ c ρ S).bind fun x S => (truV x S).bind fun k S => if k = true then meanE φ a ρ S else meanE φ b ρ S := by
  rw [meanE]; unfold bnd; congr; funext x S; congr; funext k S; cases k <;> rfl
theorem eCmp {o : CmpOp} {a b : ME} : meanE φ (.cmp o a b) ρ S = (meanE φ a ρ S).bind fun x S => (meanE φ b ρ S).bind fun y S => cmpV o x y S := by rw [meanE]; rfl
theorem eChn {o o' : CmpOp} {a b c : ME} : meanE φ (.chn o o' a b c) ρ S = (meanE φ a ρ S).bind fun x S => (meanE φ b ρ S).bind fun y S => (cmpV o x y S).bind fun z S => chnR z (fun S => (meanE φ c ρ S).bind fun u S => cmpV o' y u S) S := by
  rw [meanE]; unfold bnd; congr
theorem eTup {es : List ME} : meanE φ (.tup es) ρ S = (meanL φ es ρ S).bind fun xs S => tupR xs S := by rw [meanE]; rfl
theorem eLst {es : List ME} : meanE φ (.lst es) ρ S = (meanL φ es ρ S).bind fun xs S => lstR xs S := by rw [meanE]; rfl
theorem eDct {es : List ME} : meanE φ (.dct es) ρ S = (meanL φ es ρ S).bind fun xs S => dctM xs S := by rw [meanE]; rfl
theorem eIx {a i : ME} : meanE φ (.ix a i) ρ S = (meanE φ a ρ S).bind fun x S => (meanE φ i ρ S).bind fun y S => idxV x y S := by rw [meanE]; rfl
theorem eSl {a : ME} {lo hi : List ME} : meanE φ (.sl a lo hi) ρ S = (meanE φ a ρ S).bind fun x S => (meanL φ lo ρ S).bind fun l S => (meanL φ hi ρ S).bind fun h S => slR x l h S := by rw [meanE]; rfl
theorem eRev {a : ME} : meanE φ (.rev a) ρ S = (meanE φ a ρ S).bind fun x S => revV x S := by rw [meanE]; rfl
theorem eCal {f : Nat} {as : List ME} : meanE φ (.cal f as) ρ S = (meanL φ as ρ S).bind fun xs S => φ f xs S := by rw [meanE]; rfl
theorem eVw {it : Bool} {b : BF} {a : ME} : meanE φ (.vw it b a) ρ S = (meanE φ a ρ S).bind fun x S => vwV it b x S := by rw [meanE]; rfl
theorem eBlt {b : BF} {as : List ME} : meanE φ (.blt b as) ρ S = (meanL φ as ρ S).bind fun xs S => bltV b xs S := by rw [meanE]; rfl
theorem eMtd {m : BM} {o : ME} {as : List ME} : meanE φ (.mtd m o as) ρ S = (meanE φ o ρ S).bind fun x S => mtdR m x (rtV S x) (fun S => meanL φ as ρ S) S := by
  rw [meanE]; unfold bnd; congr; funext x S; unfold mtdR; cases rtV S x <;> rfl
theorem eIsi {a : ME} {t : TyR} : meanE φ (.isi a t) ρ S = (meanE φ a ρ S).bind fun x S => isiV t x S := by rw [meanE]; rfl
theorem eLc {elt : ME} {tg : Tg} {it : IT} {cs : List ME} : meanE φ (.lc elt tg it cs) ρ S = (meanI φ it ρ S).bind fun p S => (compL p.gs (lcF φ elt tg cs ρ) p.xs S).bind fun ys S => (thaw p.th S).bind fun _ S => lstR ys S := by
  rw [meanE]; unfold bnd; congr; funext p S
  have e : (fun x => fun S => (tgV tg x ρ S).bind fun ρ' => fun S => (meanC φ cs ρ' S).bind fun k => if k = true then fun S => (meanE φ elt ρ' S).bind fun y => ret (some y) else ret none) = lcF φ elt tg cs ρ := by
    funext x S; unfold lcF; congr; funext ρ' S; congr; funext k S; cases k <;> rfl
  rw [e]; rfl
theorem lNil : meanL φ [] ρ S = .ok [] S := by unfold meanL; rfl
theorem lCons {e : ME} {es : List ME} : meanL φ (e :: es) ρ S = (meanE φ e ρ S).bind fun x S => (meanL φ es ρ S).bind fun xs S => .ok (x :: xs) S := by rw [meanL]; rfl
theorem cNil : meanC φ [] ρ S = .ok true S := by unfold meanC; rfl
theorem cCons {e : ME} {es : List ME} : meanC φ (e :: es) ρ S = (meanE φ e ρ S).bind fun x S => (truV x S).bind fun k S => if k = true then meanC φ es ρ S else .ok false S := by
  rw [meanC]; unfold bnd; congr; funext x S; congr; funext k S; cases k <;> rfl
theorem iEx {a : ME} : meanI φ (.ex a) ρ S = (meanE φ a ρ S).bind fun x S => iterV x S := by rw [meanI]; rfl
theorem iEnu {a : ME} : meanI φ (.enu a) ρ S = (meanE φ a ρ S).bind fun x S => enuV x S := by rw [meanI]; rfl
theorem iItm {a : ME} : meanI φ (.itm a) ρ S = (meanE φ a ρ S).bind fun x S => viewV (fun p => .tup [p.1, p.2]) x S := by rw [meanI]; rfl
theorem iVls {a : ME} : meanI φ (.vls a) ρ S = (meanE φ a ρ S).bind fun x S => viewV (fun p => p.2) x S := by rw [meanI]; rfl
theorem iZip {a b : ME} : meanI φ (.zip a b) ρ S = (meanE φ a ρ S).bind fun x S => (meanE φ b ρ S).bind fun y S => zipV x y S := by rw [meanI]; rfl
theorem iRng1 {a : ME} : meanI φ (.rng1 a) ρ S = (meanE φ a ρ S).bind fun x S => rngV x S := by rw [meanI]; rfl
theorem iRng2 {a b : ME} : meanI φ (.rng2 a b) ρ S = (meanE φ a ρ S).bind fun x S => (meanE φ b ρ S).bind fun y S => rngV2 x y S := by rw [meanI]; rfl
@[simp ↓] theorem tgNm {i : Nat} {v : Val} : tgV (.nm i) v ρ S = .ok (setE ρ i v) S := by unfold tgV; exact Eq.trans rfl rfl
@[simp ↓] theorem tgTp {ts : List Tg} {xs : List Val} : tgV (.tp ts) (.tup xs) ρ S = tgsV ts xs ρ S := by unfold tgV; exact Eq.trans rfl rfl
@[simp ↓] theorem tgsNil : tgsV [] [] ρ S = .ok ρ S := by unfold tgsV; exact Eq.trans rfl rfl
@[simp ↓] theorem tgsCons {t : Tg} {ts : List Tg} {v : Val} {vs : List Val} : tgsV (t :: ts) (v :: vs) ρ S = (tgV t v ρ S).bind fun ρ' S => tgsV ts vs ρ' S := by rw [tgsV]; exact Eq.trans rfl rfl
theorem sRet {e : ME} : meanS φ W (.ret e) ρ S = (meanE φ e ρ S).bind fun v S => .ok (.rt v) S := by rw [meanS]; rfl
theorem sRetN : meanS φ W .retN ρ S = .ok (.rt .non) S := by rw [meanS]; rfl
theorem sAsg {tg : Tg} {e : ME} : meanS φ W (.asg tg e) ρ S = (meanE φ e ρ S).bind fun v S => (tgV tg v ρ S).bind fun ρ' S => .ok (.nx ρ') S := by rw [meanS]; rfl
theorem sExp {e : ME} : meanS φ W (.exp e) ρ S = (meanE φ e ρ S).bind fun _ S => .ok (.nx ρ) S := by rw [meanS]; rfl
theorem sPass : meanS φ W .pass ρ S = .ok (.nx ρ) S := by rw [meanS]; rfl
theorem sBrk : meanS φ W .brk ρ S = .ok (.bk ρ) S := by rw [meanS]; rfl
theorem sCnt : meanS φ W .cnt ρ S = .ok (.ct ρ) S := by rw [meanS]; rfl
theorem sIte {c : ME} {a b : List MS} : meanS φ W (.ite c a b) ρ S = (meanE φ c ρ S).bind fun x S => (truV x S).bind fun k S => if k = true then meanB φ W a ρ S else meanB φ W b ρ S := by
  rw [meanS]; unfold bnd; congr; funext x S; congr; funext k S; cases k <;> rfl
theorem sFor {tg : Tg} {it : IT} {b : List MS} : meanS φ W (.for_ tg it b) ρ S = (meanI φ it ρ S).bind fun p S => (forL p.gs (forF φ W tg b) p.xs ρ S).bind fun r S => (thaw p.th S).bind fun _ S => .ok r S := by
  rw [meanS]; rfl
theorem sAug {i : Nat} {o : Operator} {e : ME} : meanS φ W (.aug i o e) ρ S = (varR ρ[i]? S).bind fun x S => (meanE φ e ρ S).bind fun y S => (augV o x y S).bind fun z S => .ok (.nx (setE ρ i z)) S := by
  rw [meanS]; cases h : ρ[i]? with | none => rfl | some o => cases o <;> rfl
theorem sPut {a i e : ME} : meanS φ W (.put a i e) ρ S = (meanE φ e ρ S).bind fun v S => (meanE φ a ρ S).bind fun x S => (meanE φ i ρ S).bind fun k S => (putV x k v S).bind fun _ S => .ok (.nx ρ) S := by rw [meanS]; rfl
theorem sAugx {a i e : ME} {o : Operator} : meanS φ W (.augx a i o e) ρ S = (meanE φ a ρ S).bind fun x S => (meanE φ i ρ S).bind fun k S => (idxM x k S).bind fun u S => (meanE φ e ρ S).bind fun y S => (augV o u y S).bind fun z S => (putV x k z S).bind fun _ S => .ok (.nx ρ) S := by rw [meanS]; rfl
theorem sDel {a i : ME} : meanS φ W (.del a i) ρ S = (meanE φ a ρ S).bind fun x S => (meanE φ i ρ S).bind fun k S => (delV x k S).bind fun _ S => .ok (.nx ρ) S := by rw [meanS]; rfl
theorem bNil : meanB φ W [] ρ S = .ok (.nx ρ) S := by rw [meanB]; rfl
theorem bCons {s : MS} {ss : List MS} : meanB φ W (s :: ss) ρ S = (meanS φ W s ρ S).bind fun r S => aftF (fun ρ' S => meanB φ W ss ρ' S) r S := by
  rw [meanB]; unfold bnd; congr
/-! the same, with what follows -/
@[simp ↓] theorem keCon {v : Val} {β : Type} {kk : Val → M β} : (meanE φ (.con v) ρ S).bind kk = kk v S := by
  rw [eCon]
  all_goals simp only [bind_bind, bind_ok, ite_bind]
@[simp ↓] theorem keVar {i : Nat} {β : Type} {kk : Val → M β} : (meanE φ (.var i) ρ S).bind kk = (varR ρ[i]? S).bind kk := by
  rw [eVar]
  all_goals simp only [bind_bind, bind_ok, ite_bind]
@[simp ↓] theorem keBin {o : Operator} {a b : ME} {β : Type} {kk : Val → M β} : (meanE φ (.bin o a b) ρ S).bind kk = (meanE φ a ρ S).bind fun x S => (meanE φ b ρ S).bind fun y S => (binV o x y S).bind kk := by
  rw [eBin]
  all_goals simp only [bind_bind, bind_ok, ite_bind]
@[simp ↓] theorem keNeg {a : ME} {β : Type} {kk : Val → M β} : (meanE φ (.neg a) ρ S).bind kk = (meanE φ a ρ S).bind fun x S => (negR x S).bind kk := by
  rw [eNeg]
  all_goals simp only [bind_bind, bind_ok, ite_bind]
@[simp ↓] theorem keNot {a : ME} {β : Type} {kk : Val → M β} : (meanE φ (.not a) ρ S).bind kk = (meanE φ a ρ S).bind fun x S => (truV x S).bind fun b S => kk (.bl (!b)) S := by
  rw [eNot]
  all_goals simp only [bind_bind, bind_ok, ite_bind]
@[simp ↓] theorem keAnd {a b : ME} {β : Type} {kk : Val → M β} : (meanE φ (.and a b) ρ S).bind kk = (meanE φ a ρ S).bind fun x S => (truV x S).bind fun k S => if k = true then (meanE φ b ρ S).bind kk else kk x S := by
  rw [eAnd]
  all_goals simp only [bind_bind, bind_ok, ite_bind]
@[simp ↓] theorem keOr {a b : ME} {β : Type} {kk : Val → M β} : (meanE φ (.or a b) ρ S).bind kk = (meanE φ a ρ S).bind fun x S => (truV x S).bind fun k S => if k = true then kk x S else (meanE φ b ρ S).bind kk := by
  rw [eOr]
  all_goals simp only [bind_bind, bind_ok, ite_bind]
@[simp ↓] theorem keIte {c a b : ME} {β : Type} {kk : Val → M β} : (meanE φ (.ite c a b) ρ S).bind kk = (meanE φ c ρ S).bind fun x S => (truV x S).bind fun k S => if k = true then (meanE φ a ρ S).bind kk else (meanE φ b ρ S).bind kk := by
  rw [eIte]
  all_goals simp only [bind_bind, bind_ok, ite_bind]
@[simp ↓] theorem keCmp {o : CmpOp} {a b : ME} {β : Type} {kk : Val → M β} : (meanE φ (.cmp o a b) ρ S).bind kk = (meanE φ a ρ S).bind fun x S => (meanE φ b ρ S).bind fun y S => (cmpV o x y S).bind kk := by
  rw [eCmp]
  all_goals simp only [bind_bind, bind_ok, ite_bind]
@[simp ↓] theorem keChn {o o' : CmpOp} {a b c : ME} {β : Type} {kk : Val → M β} : (meanE φ (.chn o o' a b c) ρ S).bind kk = (meanE φ a ρ S).bind fun x S => (meanE φ b ρ S).bind fun y S => (cmpV o x y S).bind fun z S => (chnR z (fun S => (meanE φ c ρ S).bind fun u S => cmpV o' y u S) S).bind kk := by
  rw [eChn]
  all_goals simp only [bind_bind, bind_ok, ite_bind]
@[simp ↓] theorem keTup {es : List ME} {β : Type} {kk : Val → M β} : (meanE φ (.tup es) ρ S).bind kk = (meanL φ es ρ S).bind fun xs S => (tupR xs S).bind kk := by
  rw [eTup]
  all_goals simp only [bind_bind, bind_ok, ite_bind]
@[simp ↓] theorem keLst {es : List ME} {β : Type} {kk : Val → M β} : (meanE φ (.lst es) ρ S).bind kk = (meanL φ es ρ S).bind fun xs S => (lstR xs S).bind kk := by
  rw [eLst]
  all_goals simp only [bind_bind, bind_ok, ite_bind]
@[simp ↓] theorem keDct {es : List ME} {β : Type} {kk : Val → M β} : (meanE φ (.dct es) ρ S).bind kk = (meanL φ es ρ S).bind fun xs S => (dctM xs S).bind kk := by
  rw [eDct]
  all_goals simp only [bind_bind, bind_ok, ite_bind]
@[simp ↓] theorem keIx {a i : ME} {β : Type} {kk : Val → M β} : (meanE φ (.ix a i) ρ S).bind kk = (meanE φ a ρ S).bind fun x S => (meanE φ i ρ S).bind fun y S => (idxV x y S).bind kk := by
  rw [eIx]
  all_goals simp only [bind_bind, bind_ok, ite_bind]
@[simp ↓] theorem keSl {a : ME} {lo hi : List ME} {β : Type} {kk : Val → M β} : (meanE φ (.sl a lo hi) ρ S).bind kk = (meanE φ a ρ S).bind fun x S => (meanL φ lo ρ S).bind fun l S => (meanL φ hi ρ S).bind fun h S => (slR x l h S).bind kk := by
  rw [eSl]
  all_goals simp only [bind_bind, bind_ok, ite_bind]
@[simp ↓] theorem keRev {a : ME} {β : Type} {kk : Val → M β} : (meanE φ (.rev a) ρ S).bind kk = (meanE φ a ρ S).bind fun x S => (revV x S).bind kk := by
  rw [eRev]
  all_goals simp only [bind_bind, bind_ok, ite_bind]
@[simp ↓] theorem keCal {f : Nat} {as : List ME} {β : Type} {kk : Val → M β} : (meanE φ (.cal f as) ρ S).bind kk = (meanL φ as ρ S).bind fun xs S => (φ f xs S).bind kk := by
  rw [eCal]
  all_goals simp only [bind_bind, bind_ok, ite_bind]
@[simp ↓] theorem keVw {it : Bool} {b : BF} {a : ME} {β : Type} {kk : Val → M β} : (meanE φ (.vw it b a) ρ S).bind kk = (meanE φ a ρ S).bind fun x S => (vwV it b x S).bind kk := by
  rw [eVw, bind_bind]
@[simp ↓] theorem keBlt {b : BF} {as : List ME} {β : Type} {kk : Val → M β} : (meanE φ (.blt b as) ρ S).bind kk = (meanL φ as ρ S).bind fun xs S => (bltV b xs S).bind kk := by
  rw [eBlt]
  all_goals simp only [bind_bind, bind_ok, ite_bind]
@[simp ↓] theorem keMtd {m : BM} {o : ME} {as : List ME} {β : Type} {kk : Val → M β} : (meanE φ (.mtd m o as) ρ S).bind kk = (meanE φ o ρ S).bind fun x S => (mtdR m x (rtV S x) (fun S => meanL φ as ρ S) S).bind kk := by
  rw [eMtd]
  all_goals simp only [bind_bind, bind_ok, ite_bind]
@[simp ↓] theorem keIsi {a : ME} {t : TyR} {β : Type} {kk : Val → M β} : (meanE φ (.isi a t) ρ S).bind kk = (meanE φ a ρ S).bind fun x S => (isiV t x S).bind kk := by
  rw [eIsi]
  all_goals simp only [bind_bind, bind_ok, ite_bind]
@[simp ↓] theorem keLc {elt : ME} {tg : Tg} {it : IT} {cs : List ME} {β : Type} {kk : Val → M β} : (meanE φ (.lc elt tg it cs) ρ S).bind kk = (meanI φ it ρ S).bind fun p S => (compL p.gs (lcF φ elt tg cs ρ) p.xs S).bind fun ys S => (thaw p.th S).bind fun _ S => (lstR ys S).bind kk := by
  rw [eLc]
  all_goals simp only [bind_bind, bind_ok, ite_bind]
@[simp ↓] theorem klNil {β : Type} {kk : List Val → M β} : (meanL φ [] ρ S).bind kk = kk [] S := by
  rw [lNil]
  all_goals simp only [bind_bind, bind_ok, ite_bind]
@[simp ↓] theorem klCons {e : ME} {es : List ME} {β : Type} {kk : List Val → M β} : (meanL φ (e :: es) ρ S).bind kk = (meanE φ e ρ S).bind fun x S => (meanL φ es ρ S).bind fun xs S => kk (x :: xs) S := by
  rw [lCons]
  all_goals simp only [bind_bind, bind_ok, ite_bind]
@[simp ↓] theorem kcNil {β : Type} {kk : Bool → M β} : (meanC φ [] ρ S).bind kk = kk true S := by
  rw [cNil]
  all_goals simp only [bind_bind, bind_ok, ite_bind]
@[simp ↓] theorem kcCons {e : ME} {es : List ME} {β : Type} {kk : Bool → M β} : (meanC φ (e :: es) ρ S).bind kk = (meanE φ e ρ S).bind fun x S => (truV x S).bind fun k S => if k = true then (meanC φ es ρ S).bind kk else kk false S := by
  rw [cCons]
  all_goals simp only [bind_bind, bind_ok, ite_bind]
@[simp ↓] theorem kiEx {a : ME} {β : Type} {kk : Wk → M β} : (meanI φ (.ex a) ρ S).bind kk = (meanE φ a ρ S).bind fun x S => (iterV x S).bind kk := by
  rw [iEx]
  all_goals simp only [bind_bind, bind_ok, ite_bind]
@[simp ↓] theorem kiEnu {a : ME} {β : Type} {kk : Wk → M β} : (meanI φ (.enu a) ρ S).bind kk = (meanE φ a ρ S).bind fun x S => (enuV x S).bind kk := by
  rw [iEnu]
  all_goals simp only [bind_bind, bind_ok, ite_bind]
@[simp ↓] theorem kiItm {a : ME} {β : Type} {kk : Wk → M β} : (meanI φ (.itm a) ρ S).bind kk = (meanE φ a ρ S).bind fun x S => (viewV (fun p => .tup [p.1, p.2]) x S).bind kk := by
  rw [iItm]
  all_goals simp only [bind_bind, bind_ok, ite_bind]
@[simp ↓] theorem kiVls {a : ME} {β : Type} {kk : Wk → M β} : (meanI φ (.vls a) ρ S).bind kk = (meanE φ a ρ S).bind fun x S => (viewV (fun p => p.2) x S).bind kk := by
  rw [iVls]
  all_goals simp only [bind_bind, bind_ok, ite_bind]
@[simp ↓] theorem kiZip {a b : ME} {β : Type} {kk : Wk → M β} : (meanI φ (.zip a b) ρ S).bind kk = (meanE φ a ρ S).bind fun x S => (meanE φ b ρ S).bind fun y S => (zipV x y S).bind kk := by
  rw [iZip]
  all_goals simp only [bind_bind, bind_ok, ite_bind]
@[simp ↓] theorem kiRng1 {a : ME} {β : Type} {kk : Wk → M β} : (meanI φ (.rng1 a) ρ S).bind kk = (meanE φ a ρ S).bind fun x S => (rngV x S).bind kk := by
  rw [iRng1]
  all_goals simp only [bind_bind, bind_ok, ite_bind]
@[simp ↓] theorem kiRng2 {a b : ME} {β : Type} {kk : Wk → M β} : (meanI φ (.rng2 a b) ρ S).bind kk = (meanE φ a ρ S).bind fun x S => (meanE φ b ρ S).bind fun y S => (rngV2 x y S).bind kk := by
  rw [iRng2]
  all_goals simp only [bind_bind, bind_ok, ite_bind]
@[simp ↓] theorem ksRet {e : ME} {β : Type} {kk : Fl → M β} : (meanS φ W (.ret e) ρ S).bind kk = (meanE φ e ρ S).bind fun v S => kk (.rt v) S := by
  rw [sRet]
  all_goals simp only [bind_bind, bind_ok, ite_bind]
@[simp ↓] theorem ksRetN {β : Type} {kk : Fl → M β} : (meanS φ W .retN ρ S).bind kk = kk (.rt .non) S := by
  rw [sRetN]
  all_goals simp only [bind_bind, bind_ok, ite_bind]
@[simp ↓] theorem ksAsg {tg : Tg} {e : ME} {β : Type} {kk : Fl → M β} : (meanS φ W (.asg tg e) ρ S).bind kk = (meanE φ e ρ S).bind fun v S => (tgV tg v ρ S).bind fun ρ' S => kk (.nx ρ') S := by
  rw [sAsg]
  all_goals simp only [bind_bind, bind_ok, ite_bind]
@[simp ↓] theorem ksExp {e : ME} {β : Type} {kk : Fl → M β} : (meanS φ W (.exp e) ρ S).bind kk = (meanE φ e ρ S).bind fun _ S => kk (.nx ρ) S := by
  rw [sExp]
  all_goals simp only [bind_bind, bind_ok, ite_bind]
@[simp ↓] theorem ksPass {β : Type} {kk : Fl → M β} : (meanS φ W .pass ρ S).bind kk = kk (.nx ρ) S := by
  rw [sPass]
  all_goals simp only [bind_bind, bind_ok, ite_bind]
@[simp ↓] theorem ksBrk {β : Type} {kk : Fl → M β} : (meanS φ W .brk ρ S).bind kk = kk (.bk ρ) S := by
  rw [sBrk]
  all_goals simp only [bind_bind, bind_ok, ite_bind]
@[simp ↓] theorem ksCnt {β : Type} {kk : Fl → M β} : (meanS φ W .cnt ρ S).bind kk = kk (.ct ρ) S := by
  rw [sCnt]
  all_goals simp only [bind_bind, bind_ok, ite_bind]
@[simp ↓] theorem ksIte {c : ME} {a b : List MS} {β : Type} {kk : Fl → M β} : (meanS φ W (.ite c a b) ρ S).bind kk = (meanE φ c ρ S).bind fun x S => (truV x S).bind fun k S => if k = true then (meanB φ W a ρ S).bind kk else (meanB φ W b ρ S).bind kk := by
  rw [sIte]
  all_goals simp only [bind_bind, bind_ok, ite_bind]
@[simp ↓] theorem ksFor {tg : Tg} {it : IT} {b : List MS} {β : Type} {kk : Fl → M β} : (meanS φ W (.for_ tg it b) ρ S).bind kk = (meanI φ it ρ S).bind fun p S => (forL p.gs (forF φ W tg b) p.xs ρ S).bind fun r S => (thaw p.th S).bind fun _ S => kk r S := by
  rw [sFor]
  all_goals simp only [bind_bind, bind_ok, ite_bind]
@[simp ↓] theorem ksAug {i : Nat} {o : Operator} {e : ME} {β : Type} {kk : Fl → M β} : (meanS φ W (.aug i o e) ρ S).bind kk = (varR ρ[i]? S).bind fun x S => (meanE φ e ρ S).bind fun y S => (augV o x y S).bind fun z S => kk (.nx (setE ρ i z)) S := by
  rw [sAug]
  all_goals simp only [bind_bind, bind_ok, ite_bind]
@[simp ↓] theorem ksPut {a i e : ME} {β : Type} {kk : Fl → M β} : (meanS φ W (.put a i e) ρ S).bind kk = (meanE φ e ρ S).bind fun v S => (meanE φ a ρ S).bind fun x S => (meanE φ i ρ S).bind fun k S => (putV x k v S).bind fun _ S => kk (.nx ρ) S := by
  rw [sPut]
  all_goals simp only [bind_bind, bind_ok, ite_bind]
@[simp ↓] theorem ksAugx {a i e : ME} {o : Operator} {β : Type} {kk : Fl → M β} : (meanS φ W (.augx a i o e) ρ S).bind kk = (meanE φ a ρ S).bind fun x S => (meanE φ i ρ S).bind fun k S => (idxM x k S).bind fun u S => (meanE φ e ρ S).bind fun y S => (augV o u y S).bind fun z S => (putV x k z S).bind fun _ S => kk (.nx ρ) S := by
  rw [sAugx]
  all_goals simp only [bind_bind, bind_ok, ite_bind]
@[simp ↓] theorem ksDel {a i : ME} {β : Type} {kk : Fl → M β} : (meanS φ W (.del a i) ρ S).bind kk = (meanE φ a ρ S).bind fun x S => (meanE φ i ρ S).bind fun k S => (delV x k S).bind fun _ S => kk (.nx ρ) S := by
  rw [sDel]
  all_goals simp only [bind_bind, bind_ok, ite_bind]
@[simp ↓] theorem kbNil {β : Type} {kk : Fl → M β} : (meanB φ W [] ρ S).bind kk = kk (.nx ρ) S := by
  rw [bNil]
  all_goals simp only [bind_bind, bind_ok, ite_bind]
@[simp ↓] theorem kbCons {s : MS} {ss : List MS} {β : Type} {kk : Fl → M β} : (meanB φ W (s :: ss) ρ S).bind kk = (meanS φ W s ρ S).bind fun r S => (aftF (fun ρ' S => meanB φ W ss ρ' S) r S).bind kk := by
  rw [bCons]
  all_goals simp only [bind_bind, bind_ok, ite_bind]
end
end MP
set_option linter.all false
set_option Elab.async false
/-! the operations, by what stands in the store -/
namespace MP
open PySem
section
variable {S : Sto}
/-! lookups -/
@[simp] theorem getAt0 {o : Ob} {T : Sto} : (S ++ o :: T)[S.length]? = some o := by simp
@[simp] theorem getAtK {k : Nat} {T : Sto} : (S ++ T)[S.length + k]? = T[k]? := by
  rw [List.getElem?_append_right (by omega)]; congr 1; omega
theorem getOld {i : Nat} {T : Sto} (h : i < S.length) : (S ++ T)[i]? = S[i]? := List.getElem?_append_left h
theorem lt_of_get {i : Nat} {o : Ob} (h : S[i]? = some o) : i < S.length := (List.getElem?_eq_some_iff.mp h).1
def seqO : Option Ob → Option (List Val)
  | some (.lst xs) => some xs
  | some (.rol xs) => some xs
  | _ => none
def dctO' : Option Ob → Option (List (Val × Val))
  | some (.dct kvs) => some kvs
  | some (.fdc kvs) => some kvs
  | _ => none
def setO' : Option Ob → Option (List Val)
  | some (.set xs) => some xs
  | _ => none
@[simp] theorem seqV_ref {i : Nat} : seqV S (.ref i) = seqO S[i]? := by
  cases h : S[i]? with | none => simp [seqV, seqO, h] | some o => cases o <;> simp [seqV, seqO, h]
@[simp] theorem dctV_ref {i : Nat} : dctV S (.ref i) = dctO' S[i]? := by
  cases h : S[i]? with | none => simp [dctV, dctO', h] | some o => cases o <;> simp [dctV, dctO', h]
@[simp] theorem setV_ref {i : Nat} : setV S (.ref i) = setO' S[i]? := by
  cases h : S[i]? with | none => simp [setV, setO', h] | some o => cases o <;> simp [setV, setO', h]
@[simp] theorem seqV_tup {xs : List Val} : seqV S (.tup xs) = some xs := Eq.trans rfl rfl
@[simp] theorem seqO_lst {xs : List Val} : seqO (some (.lst xs)) = some xs := Eq.trans rfl rfl
@[simp] theorem seqO_rol {xs : List Val} : seqO (some (.rol xs)) = some xs := Eq.trans rfl rfl
@[simp] theorem seqO_dct {xs : List (Val × Val)} : seqO (some (.dct xs)) = none := Eq.trans rfl rfl
@[simp] theorem seqO_fdc {xs : List (Val × Val)} : seqO (some (.fdc xs)) = none := Eq.trans rfl rfl
@[simp] theorem seqO_set {xs : List Val} : seqO (some (.set xs)) = none := Eq.trans rfl rfl
@[simp] theorem dctO_lst {xs : List Val} : dctO' (some (.lst xs)) = none := Eq.trans rfl rfl
@[simp] theorem dctO_rol {xs : List Val} : dctO' (some (.rol xs)) = none := Eq.trans rfl rfl
@[simp] theorem dctO_dct {xs : List (Val × Val)} : dctO' (some (.dct xs)) = some xs := Eq.trans rfl rfl
@[simp] theorem dctO_fdc {xs : List (Val × Val)} : dctO' (some (.fdc xs)) = some xs := Eq.trans rfl rfl
@[simp] theorem dctO_set {xs : List Val} : dctO' (some (.set xs)) = none := Eq.trans rfl rfl
@[simp] theorem setO_set {xs : List Val} : setO' (some (.set xs)) = some xs := Eq.trans rfl rfl
/-! int operations -/
@[simp] theorem b_addI {i j : Int} : binV .Add (.int i) (.int j) S = .ok (.int (i + j)) S := Eq.trans rfl rfl
@[simp] theorem b_subI {i j : Int} : binV .Sub (.int i) (.int j) S = .ok (.int (i - j)) S := Eq.trans rfl rfl
@[simp] theorem b_mulI {i j : Int} (h : (-(2 ^ 64) < i ∧ i < 2 ^ 64) ∨ (-(2 ^ 64) < j ∧ j < 2 ^ 64)) : binV .Mult (.int i) (.int j) S = .ok (.int (i * j)) S := if_pos h
@[simp] theorem b_modI {i j : Int} (h : 0 < j) : binV .Mod (.int i) (.int j) S = .ok (.int (i % j)) S := by
  have : binV .Mod (.int i) (.int j) S = .ok (.int (i.fmod j)) S := if_pos (by omega)
  rw [this, Int.fmod_eq_emod_of_nonneg _ (by omega)]
@[simp] theorem b_divI {i j : Int} (h : 0 < j ∧ j < 1073741824) : binV .FloorDiv (.int i) (.int j) S = .ok (.int (i / j)) S := by
  have : binV .FloorDiv (.int i) (.int j) S = .ok (.int (i.fdiv j)) S := if_pos (by omega)
  rw [this, Int.fdiv_eq_ediv_of_nonneg _ (by omega)]
@[simp] theorem b_powI {i j : Int} (h : 0 ≤ j ∧ j ≤ 1000000 ∧ i.natAbs < 2 ^ 64) : binV .Pow (.int i) (.int j) S = .ok (.int (i ^ j.toNat)) S := if_pos h
@[simp] theorem b_addS {a b : Tx} (h : a.length + b.length ≤ line) : binV .Add (.str a) (.str b) S = .ok (.str (a ++ b)) S := if_pos h
@[simp] theorem b_addT {a b : List Val} (h : a.length + b.length ≤ line) : binV .Add (.tup a) (.tup b) S = .ok (.tup (a ++ b)) S := if_pos h
def addO (x y : Option Ob) : M Val := fun S => match x, y with
  | some (.lst a), some (.lst b) => if a.length + b.length ≤ line then .ok (.ref S.length) (S ++ [.lst (a ++ b)]) else .bad
  | _, _ => .bad
@[simp] theorem b_addL {i j : Nat} : binV .Add (.ref i) (.ref j) S = addO S[i]? S[j]? S := Eq.trans rfl rfl
@[simp] theorem addO_ll {a b : List Val} (h : a.length + b.length ≤ line) : addO (some (.lst a)) (some (.lst b)) S = .ok (.ref S.length) (S ++ [.lst (a ++ b)]) := if_pos h
@[simp] theorem b_mulT {a : List Val} {k : Int} (h : a ≠ [] ∧ -(2 ^ 63) ≤ k ∧ k ≤ 1000 ∧ a.length ≤ 1000) : binV .Mult (.tup a) (.int k) S = .ok (.tup (rep k a)) S := if_pos h
def mulO (k : Int) (x : Option Ob) : M Val := fun S => match x with
  | some (.lst a) => if cntOk a.length k then .ok (.ref S.length) (S ++ [.lst (rep k a)]) else .bad
  | _ => .bad
@[simp] theorem b_mulL {i : Nat} {k : Int} : binV .Mult (.ref i) (.int k) S = mulO k S[i]? S := Eq.trans rfl rfl
@[simp] theorem mulO_l {a : List Val} {k : Int} (h : cntOk a.length k) : mulO k (some (.lst a)) S = .ok (.ref S.length) (S ++ [.lst (rep k a)]) := if_pos h
@[simp] theorem b_mulS {a : Tx} {k : Int} (h : a.length ≤ 16 ∧ -(2 ^ 63) ≤ k ∧ k ≤ 1048576) : binV .Mult (.str a) (.int k) S = .ok (.str (PySem.Txt.mul (stx a) k).cps.toList) S := if_pos h
@[simp] theorem g_addI {i j : Int} : augV .Add (.int i) (.int j) S = .ok (.int (i + j)) S := Eq.trans rfl rfl
@[simp] theorem g_subI {i j : Int} : augV .Sub (.int i) (.int j) S = .ok (.int (i - j)) S := Eq.trans rfl rfl
/-! comparisons -/
@[simp] theorem c_ltI {i j : Int} : cmpV .Lt (.int i) (.int j) S = .ok (.bl (decide (i < j))) S := Eq.trans rfl rfl
@[simp] theorem c_leI {i j : Int} : cmpV .LtE (.int i) (.int j) S = .ok (.bl (decide (i ≤ j))) S := Eq.trans rfl rfl
@[simp] theorem c_gtI {i j : Int} : cmpV .Gt (.int i) (.int j) S = .ok (.bl (decide (j < i))) S := Eq.trans rfl rfl
@[simp] theorem c_geI {i j : Int} : cmpV .GtE (.int i) (.int j) S = .ok (.bl (decide (j ≤ i))) S := Eq.trans rfl rfl
@[simp] theorem c_ltS {i j : Tx} : cmpV .Lt (.str i) (.str j) S = .ok (.bl (decide (i < j))) S := Eq.trans rfl rfl
@[simp] theorem c_leS {i j : Tx} : cmpV .LtE (.str i) (.str j) S = .ok (.bl (!decide (j < i))) S := Eq.trans rfl rfl
@[simp] theorem c_gtS {i j : Tx} : cmpV .Gt (.str i) (.str j) S = .ok (.bl (decide (j < i))) S := Eq.trans rfl rfl
@[simp] theorem c_geS {i j : Tx} : cmpV .GtE (.str i) (.str j) S = .ok (.bl (!decide (i < j))) S := Eq.trans rfl rfl
@[simp] theorem c_eq {x y : Val} : cmpV .Eq x y S = bl1 (eqD 60 S x y) S := Eq.trans rfl rfl
@[simp] theorem c_ne {x y : Val} : cmpV .NotEq x y S = bl1 ((eqD 60 S x y).map fun b => !b) S := Eq.trans rfl rfl
@[simp] theorem c_in {x y : Val} : cmpV .In x y S = bl1 (inV x y S) S := Eq.trans rfl rfl
@[simp] theorem c_nin {x y : Val} : cmpV .NotIn x y S = bl1 ((inV x y S).map fun b => !b) S := Eq.trans rfl rfl
@[simp] theorem c_is {x y : Val} : cmpV .Is x y S = bl1 (isV x y) S := Eq.trans rfl rfl
@[simp] theorem c_isn {x y : Val} : cmpV .IsNot x y S = bl1 ((isV x y).map fun b => !b) S := Eq.trans rfl rfl
@[simp] theorem bl1_some {b : Bool} : bl1 (some b) S = .ok (.bl b) S := Eq.trans rfl rfl
@[simp] theorem inV_str {c : Nat} {z : Tx} : inV (.str [c]) (.str z) S = some (decide (c ∈ z)) := Eq.trans rfl rfl
@[simp] theorem inV_tup {x : Val} {ys : List Val} : inV x (.tup ys) S = (optAll (fun u => eqD 60 S u x) ys).map fun bs => bs.any id := Eq.trans rfl rfl
@[simp] theorem kdV_non : kdV S .non = some .non := Eq.trans rfl rfl
@[simp] theorem kdV_bl {b : Bool} : kdV S (.bl b) = some (.num (if b then 1 else 0)) := Eq.trans rfl rfl
@[simp] theorem kdV_int {i : Int} : kdV S (.int i) = some (.num i) := Eq.trans rfl rfl
@[simp] theorem kdV_str {x : Tx} : kdV S (.str x) = some (.txt x) := Eq.trans rfl rfl
@[simp] theorem kdV_tup {x : List Val} : kdV S (.tup x) = some (.tup x) := Eq.trans rfl rfl
def kdO : Option Ob → Option Kd
  | some (.lst xs) => some (.lst xs)
  | some (.rol xs) => some (.lst xs)
  | _ => none
@[simp] theorem kdV_ref {i : Nat} : kdV S (.ref i) = kdO S[i]? := by
  cases h : S[i]? with | none => simp [kdV, kdO, h] | some o => cases o <;> simp [kdV, kdO, h]
@[simp] theorem kdO_lst {xs : List Val} : kdO (some (.lst xs)) = some (.lst xs) := Eq.trans rfl rfl
@[simp] theorem kdO_rol {xs : List Val} : kdO (some (.rol xs)) = some (.lst xs) := Eq.trans rfl rfl
def eqK (n : Nat) (S : Sto) : Option Kd → Option Kd → Option Bool
  | some (.tup xs), some (.tup ys) => eqs (fun p => eqD n S p.1 p.2) xs ys
  | some (.lst xs), some (.lst ys) => eqs (fun p => eqD n S p.1 p.2) xs ys
  | some .non, some .non => some true
  | some (.num i), some (.num j) => some (decide (i = j))
  | some (.txt i), some (.txt j) => some (decide (i = j))
  | some _, some _ => some false
  | _, _ => none
theorem eqD_eq {n : Nat} {x y : Val} : eqD (n + 1) S x y = eqK n S (kdV S x) (kdV S y) := by
  rw [eqD]; unfold eqK; rfl
@[simp] theorem eqD_str {n : Nat} {x y : Tx} : eqD (n + 1) S (.str x) (.str y) = some (decide (x = y)) := by rw [eqD_eq]; exact Eq.trans rfl rfl
@[simp] theorem eqD_int {n : Nat} {x y : Int} : eqD (n + 1) S (.int x) (.int y) = some (decide (x = y)) := by rw [eqD_eq]; exact Eq.trans rfl rfl
@[simp] theorem eqD_bl {n : Nat} {x y : Bool} : eqD (n + 1) S (.bl x) (.bl y) = some (decide (x = y)) := by rw [eqD_eq]; cases x <;> cases y <;> rfl
@[simp] theorem eqD_tup {n : Nat} {x y : List Val} : eqD (n + 1) S (.tup x) (.tup y) = eqs (fun p => eqD n S p.1 p.2) x y := by rw [eqD_eq]; exact Eq.trans rfl rfl
@[simp] theorem isV_non {b : Val} : isV .non b = match b with | .non => some true | .bl _ => none | _ => none := by cases b <;> rfl
/-! truth -/
@[simp] theorem t_bl {b : Bool} : truV (.bl b) S = .ok b S := Eq.trans rfl rfl
@[simp] theorem t_int {i : Int} : truV (.int i) S = .ok (i != 0) S := Eq.trans rfl rfl
@[simp] theorem t_non : truV .non S = .ok false S := Eq.trans rfl rfl
/-! built-ins -/
def lenO : Option Ob → Option Nat
  | some (.lst xs) => some xs.length
  | some (.rol xs) => some xs.length
  | some (.dct xs) => some xs.length
  | some (.fdc xs) => some xs.length
  | some (.set xs) => some xs.length
  | _ => none
def lenR (o : Option Nat) : M Val := fun S => match o with
  | some n => .ok (.int n) S
  | none => .bad
@[simp] theorem lenR_some {n : Nat} : lenR (some n) S = .ok (.int n) S := Eq.trans rfl rfl
@[simp] theorem f_len {x : Val} : bltV .len [x] S = lenR (lenV S x) S := Eq.trans rfl rfl
@[simp] theorem len_str {z : Tx} (h : z.length ≤ line) : lenV S (.str z) = some z.length := if_pos h
@[simp] theorem len_tup {z : List Val} : lenV S (.tup z) = some z.length := Eq.trans rfl rfl
@[simp] theorem len_ref {i : Nat} : lenV S (.ref i) = lenO S[i]? := by
  have e : lenV S (.ref i) = match seqV S (.ref i) with
    | some xs => some xs.length
    | none => match dctV S (.ref i) with
      | some kvs => some kvs.length
      | none => (setV S (.ref i)).map (·.length) := rfl
  rw [e, seqV_ref, dctV_ref, setV_ref]
  cases S[i]? with | none => rfl | some o => cases o <;> rfl
@[simp] theorem lenO_lst {xs : List Val} : lenO (some (.lst xs)) = some xs.length := Eq.trans rfl rfl
@[simp] theorem lenO_rol {xs : List Val} : lenO (some (.rol xs)) = some xs.length := Eq.trans rfl rfl
@[simp] theorem lenO_dct {xs : List (Val × Val)} : lenO (some (.dct xs)) = some xs.length := Eq.trans rfl rfl
@[simp] theorem lenO_set {xs : List Val} : lenO (some (.set xs)) = some xs.length := Eq.trans rfl rfl
@[simp] theorem f_abs {i : Int} : bltV .abs [.int i] S = .ok (.int (if i < 0 then -i else i)) S := Eq.trans rfl rfl
@[simp] theorem f_intI {i : Int} : bltV .int [.int i] S = .ok (.int i) S := Eq.trans rfl rfl
@[simp] theorem f_intB {b : Bool} : bltV .int [.bl b] S = .ok (.int (if b = true then 1 else 0)) S := by cases b <;> rfl
@[simp low] theorem f_max {i j : Int} : bltV .max2 [.int i, .int j] S = .ok (.int (if j > i then j else i)) S := Eq.trans rfl rfl
@[simp low] theorem f_min {i j : Int} : bltV .min2 [.int i, .int j] S = .ok (.int (if j < i then j else i)) S := Eq.trans rfl rfl
def allR (o : Option (List Val)) : M Val := fun S => match o.bind (optAll blOf) with
  | some bs => .ok (.bl (bs.all id)) S
  | none => .bad
@[simp] theorem f_all {i : Nat} : bltV .all [.ref i] S = allR (seqO S[i]?) S := by
  show (match (seqV S (.ref i)).bind (optAll blOf) with | some bs => _ | none => _) = _; rw [seqV_ref]; rfl
theorem optAll_map {α β γ : Type} {f : β → Option γ} {g : α → β} {h : α → γ} (e : ∀ a, f (g a) = some (h a)) : ∀ xs : List α, optAll f (xs.map g) = some (xs.map h)
  | [] => rfl
  | x :: xs => by simp [optAll, e, optAll_map e xs]
@[simp] theorem allR_map {α : Type} {f : α → Bool} {xs : List α} : allR (some (xs.map fun x => Val.bl (f x))) S = .ok (.bl (xs.all f)) S := by
  unfold allR
  have := optAll_map (f := blOf) (g := fun x => Val.bl (f x)) (h := f) (fun a => rfl) xs
  simp [this, List.all_map]
def sumR (o : Option (List Val)) : M Val := fun S => match o.bind (optAll intOf) with
  | some bs => .ok (.int bs.sum) S
  | none => .bad
@[simp] theorem f_sum {i : Nat} : bltV .sum [.ref i] S = sumR (seqO S[i]?) S := by
  show (match (seqV S (.ref i)).bind (optAll intOf) with | some bs => _ | none => _) = _; rw [seqV_ref]; rfl
@[simp] theorem sumR_map {α : Type} {f : α → Int} {xs : List α} : sumR (some (xs.map fun x => Val.int (f x))) S = .ok (.int (xs.map f).sum) S := by
  unfold sumR
  have := optAll_map (f := intOf) (g := fun x => Val.int (f x)) (h := f) (fun a => rfl) xs
  simp [this]
def listR (o : Option (List Val)) (d : Option (List (Val × Val))) : M Val := fun S => match o with
  | some ys => .ok (.ref S.length) (S ++ [.lst ys])
  | none => match d with
    | some kvs => .ok (.ref S.length) (S ++ [.lst (kvs.map (·.1))])
    | none => .bad
@[simp] theorem f_list {x : Val} : bltV .list [x] S = listR (seqV S x) (dctV S x) S := Eq.trans rfl rfl
@[simp] theorem listR_seq {ys : List Val} {d : Option (List (Val × Val))} : listR (some ys) d S = .ok (.ref S.length) (S ++ [.lst ys]) := Eq.trans rfl rfl
@[simp] theorem listR_dct {ys : List (Val × Val)} : listR none (some ys) S = .ok (.ref S.length) (S ++ [.lst (ys.map (·.1))]) := Eq.trans rfl rfl
def tupleR (o : Option (List Val)) : M Val := fun S => match o with
  | some ys => .ok (.tup ys) S
  | none => .bad
@[simp] theorem f_tuple {x : Val} : bltV .tuple [x] S = tupleR (seqV S x) S := Eq.trans rfl rfl
@[simp] theorem tupleR_some {ys : List Val} : tupleR (some ys) S = .ok (.tup ys) S := Eq.trans rfl rfl
def reprR (o : Option Tx) : M Val := fun S => match o with
  | some ys => .ok (.str ys) S
  | none => .bad
@[simp] theorem f_repr {x : Val} : bltV .repr [x] S = reprR (reprV S x) S := Eq.trans rfl rfl
@[simp] theorem reprR_some {ys : Tx} : reprR (some ys) S = .ok (.str ys) S := Eq.trans rfl rfl
open Classical in
noncomputable def sortR (o : Option (List Val)) (d : Option (List (Val × Val))) (z : Option (List Val)) : M Val := fun S => match o with
  | some ys => if srtOk S ys then .ok (.ref S.length) (S ++ [.lst (srtD S ys)]) else .bad
  | none => match d with
    | some kvs => if srtOk S (kvs.map (·.1)) then .ok (.ref S.length) (S ++ [.lst (srtD S (kvs.map (·.1)))]) else .bad
    | none => match z with
      | some ys => if srtSet S ys then .ok (.ref S.length) (S ++ [.lst (srtD S ys)]) else .bad
      | none => .bad
@[simp] theorem f_sorted {i : Nat} : bltV .sorted [.ref i] S = sortR (seqO S[i]?) (dctO' S[i]?) (setO' S[i]?) S := by
  have e : bltV .sorted [.ref i] S = sortR (seqV S (.ref i)) (dctV S (.ref i)) (setV S (.ref i)) S := rfl
  rw [e, seqV_ref, dctV_ref, setV_ref]
theorem sortR_seq {ys : List Val} {d : Option (List (Val × Val))} {z : Option (List Val)} (h : srtOk S ys) : sortR (some ys) d z S = .ok (.ref S.length) (S ++ [.lst (srtD S ys)]) := if_pos h
theorem sortR_dct {ys : List (Val × Val)} {z : Option (List Val)} (h : srtOk S (ys.map (·.1))) : sortR none (some ys) z S = .ok (.ref S.length) (S ++ [.lst (srtD S (ys.map (·.1)))]) := if_pos h
theorem sortR_set {ys : List Val} (h : srtSet S ys) : sortR none none (some ys) S = .ok (.ref S.length) (S ++ [.lst (srtD S ys)]) := if_pos h
def setR' (o : Option (List Val)) : M Val := fun S => match o.bind (optAll keyS) with
  | some ks => if ks.length + 1 < PySem.scanBound then .ok (.ref S.length) (S ++ [.set ((keysOf ks).map kVal)]) else .bad
  | none => .bad
@[simp] theorem f_set {i : Nat} : bltV .set [.ref i] S = setR' (seqO S[i]?) S := by
  have e : bltV .set [.ref i] S = setR' (seqV S (.ref i)) S := rfl
  rw [e, seqV_ref]
/-! isinstance -/
@[simp] theorem i_non {t : TyR} : isiV t .non S = .ok (.bl false) S := by cases t <;> rfl
@[simp] theorem i_bl {t : TyR} {b : Bool} : isiV t (.bl b) S = .ok (.bl (decide (t = .int ∨ t = .bool))) S := by cases t <;> rfl
@[simp] theorem i_int {t : TyR} {i : Int} : isiV t (.int i) S = .ok (.bl (decide (t = .int))) S := by cases t <;> rfl
@[simp] theorem i_str {t : TyR} {x : Tx} : isiV t (.str x) S = .ok (.bl (decide (t = .str))) S := by cases t <;> rfl
@[simp] theorem i_tup {t : TyR} {xs : List Val} : isiV t (.tup xs) S = .ok (.bl (decide (t = .tuple))) S := by cases t <;> rfl
def isO (t : TyR) : Option Ob → M Val
  | some (.lst _) => ret (.bl (decide (t = .list)))
  | some (.rol _) => ret (.bl (decide (t = .list)))
  | some (.dct _) => ret (.bl (decide (t = .dict)))
  | some (.fdc _) => ret (.bl (decide (t = .dict)))
  | _ => stop
@[simp] theorem i_ref {t : TyR} {i : Nat} : isiV t (.ref i) S = isO t S[i]? S := by
  cases h : S[i]? with | none => cases t <;> simp [isiV, isO, h] | some o => cases o <;> cases t <;> simp [isiV, isO, h]
@[simp] theorem isO_lst {t : TyR} {xs : List Val} : isO t (some (.lst xs)) S = .ok (.bl (decide (t = .list))) S := Eq.trans rfl rfl
@[simp] theorem isO_rol {t : TyR} {xs : List Val} : isO t (some (.rol xs)) S = .ok (.bl (decide (t = .list))) S := Eq.trans rfl rfl
@[simp] theorem isO_dct {t : TyR} {xs : List (Val × Val)} : isO t (some (.dct xs)) S = .ok (.bl (decide (t = .dict))) S := Eq.trans rfl rfl
/-! items, slices -/
def itR (o : Option Val) : M Val := fun S => match o with
  | some v => .ok v S
  | none => .bad
@[simp] theorem itR_some {v : Val} : itR (some v) S = .ok v S := Eq.trans rfl rfl
def ixStr (z : Tx) (o : Option Nat) : M Val := fun S => if z.length ≤ line then match o with
  | some c => .ok (.str [c]) S
  | none => .bad
  else .bad
@[simp] theorem ixStr_some {z : Tx} {c : Nat} (h : z.length ≤ line) : ixStr z (some c) S = .ok (.str [c]) S := if_pos h
@[simp] theorem x_str {z : Tx} {k : Int} : idxV (.str z) (.int k) S = ixStr z (L2.atI z k) S := Eq.trans rfl rfl
@[simp] theorem x_tup {xs : List Val} {k : Int} : idxV (.tup xs) (.int k) S = itR (L2.atI xs k) S := Eq.trans rfl rfl
def ixO (i : Val) : Option Ob → M Val
  | some (.lst xs) => match i with
    | .int k => itR (L2.atI xs k)
    | _ => stop
  | some (.rol xs) => match i with
    | .int k => itR (L2.atI xs k)
    | _ => stop
  | some (.dct kvs) => itR ((keyD i).bind (atK kvs))
  | some (.fdc kvs) => itR ((keyD i).bind (atK kvs))
  | _ => stop
@[simp] theorem x_ref {r : Nat} {i : Val} : idxV (.ref r) i S = ixO i S[r]? S := by
  cases q : S[r]? with
  | none => cases i <;> simp [idxV, seqO, dctO', ixO, itR, q]
  | some o => cases o with
    | lst xs => cases i <;> simp [idxV, seqO, dctO', ixO, itR, q] <;> (split <;> simp [*])
    | rol xs => cases i <;> simp [idxV, seqO, dctO', ixO, itR, q] <;> (split <;> simp [*])
    | dct kvs => cases h : keyD i with
      | none => cases i <;> simp [idxV, seqO, dctO', ixO, h, itR, q]
      | some k => cases i <;> simp [idxV, seqO, dctO', ixO, h, itR, q] <;> (split <;> simp [*])
    | fdc kvs => cases h : keyD i with
      | none => cases i <;> simp [idxV, seqO, dctO', ixO, h, itR, q]
      | some k => cases i <;> simp [idxV, seqO, dctO', ixO, h, itR, q] <;> (split <;> simp [*])
    | set xs => cases i <;> simp [idxV, seqO, dctO', ixO, itR, q]
    | ins c fs => cases i <;> simp [idxV, seqO, dctO', ixO, itR, q]
@[simp] theorem ixO_lst {xs : List Val} {k : Int} : ixO (.int k) (some (.lst xs)) S = itR (L2.atI xs k) S := Eq.trans rfl rfl
@[simp] theorem ixO_rol {xs : List Val} {k : Int} : ixO (.int k) (some (.rol xs)) S = itR (L2.atI xs k) S := Eq.trans rfl rfl
@[simp] theorem ixO_dct {kvs : List (Val × Val)} {i : Val} : ixO i (some (.dct kvs)) S = itR ((keyD i).bind (atK kvs)) S := Eq.trans rfl rfl
@[simp] theorem xm_ref {r : Nat} {i : Val} : idxM (.ref r) i S = idxV (.ref r) i S := Eq.trans rfl rfl
@[simp] theorem slR_00 {x : Val} : slR x [] [] S = slV x none none S := Eq.trans rfl rfl
@[simp] theorem slR_10 {x : Val} {i : Int} : slR x [.int i] [] S = slV x (some i) none S := Eq.trans rfl rfl
@[simp] theorem slR_01 {x : Val} {i : Int} : slR x [] [.int i] S = slV x none (some i) S := Eq.trans rfl rfl
@[simp] theorem slR_11 {x : Val} {i j : Int} : slR x [.int i] [.int j] S = slV x (some i) (some j) S := Eq.trans rfl rfl
@[simp] theorem sl_str {z : Tx} {lo hi : Option Int} (h : z.length ≤ line) : slV (.str z) lo hi S = .ok (.str (cutL z lo hi)) S := if_pos h
@[simp] theorem sl_tup {z : List Val} {lo hi : Option Int} : slV (.tup z) lo hi S = .ok (.tup (cutL z lo hi)) S := Eq.trans rfl rfl
def slO (lo hi : Option Int) (o : Option (List Val)) : M Val := fun S => match o with
  | some xs => .ok (.ref S.length) (S ++ [.lst (cutL xs lo hi)])
  | none => .bad
@[simp] theorem sl_ref {r : Nat} {lo hi : Option Int} : slV (.ref r) lo hi S = slO lo hi (seqO S[r]?) S := by
  cases h : S[r]? with | none => simp [slV, slO, seqO, h] | some o => cases o <;> simp [slV, slO, seqO, h]
@[simp] theorem slO_some {lo hi : Option Int} {xs : List Val} : slO lo hi (some xs) S = .ok (.ref S.length) (S ++ [.lst (cutL xs lo hi)]) := Eq.trans rfl rfl
def rvO (o : Option (List Val)) : M Val := fun S => match o with
  | some xs => .ok (.ref S.length) (S ++ [.lst xs.reverse])
  | none => .bad
@[simp] theorem rv_ref {r : Nat} : revV (.ref r) S = rvO (seqO S[r]?) S := by
  cases h : S[r]? with | none => simp [revV, rvO, seqO, h] | some o => cases o <;> simp [revV, rvO, seqO, h]
@[simp] theorem rvO_some {xs : List Val} : rvO (some xs) S = .ok (.ref S.length) (S ++ [.lst xs.reverse]) := Eq.trans rfl rfl
/-! stores -/
def putO (a : Nat) (i v : Val) (o : Option Ob) : M Unit := fun S => match o, i with
  | some (.lst xs), .int k => match L2.ixN xs.length k with
    | some j => .ok () (S.set a (.lst (xs.set j v)))
    | none => .bad
  | some (.dct kvs), i => match keyD i with
    | some k => if kvs.length < line then .ok () (S.set a (.dct (putK kvs k i v))) else .bad
    | none => .bad
  | _, _ => .bad
@[simp] theorem p_ref {a : Nat} {i v : Val} : putV (.ref a) i v S = putO a i v S[a]? S := Eq.trans rfl rfl
def putL (a : Nat) (xs : List Val) (v : Val) (o : Option Nat) : M Unit := fun S => match o with
  | some j => .ok () (S.set a (.lst (xs.set j v)))
  | none => .bad
@[simp] theorem putO_lst {a : Nat} {k : Int} {v : Val} {xs : List Val} : putO a (.int k) v (some (.lst xs)) S = putL a xs v (L2.ixN xs.length k) S := Eq.trans rfl rfl
@[simp] theorem putL_some {a : Nat} {v : Val} {xs : List Val} {j : Nat} : putL a xs v (some j) S = .ok () (S.set a (.lst (xs.set j v))) := Eq.trans rfl rfl
def putD (a : Nat) (kvs : List (Val × Val)) (i v : Val) (o : Option NestedKey) : M Unit := fun S => match o with
  | some k => if kvs.length < line then .ok () (S.set a (.dct (putK kvs k i v))) else .bad
  | none => .bad
@[simp] theorem putO_dct {a : Nat} {i v : Val} {kvs : List (Val × Val)} : putO a i v (some (.dct kvs)) S = putD a kvs i v (keyD i) S := Eq.trans rfl rfl
@[simp] theorem putD_some {a : Nat} {i v : Val} {kvs : List (Val × Val)} {k : NestedKey} (h : kvs.length < line) : putD a kvs i v (some k) S = .ok () (S.set a (.dct (putK kvs k i v))) := if_pos h
/-! what is walked -/
@[simp] theorem it_tup {xs : List Val} : iterV (.tup xs) S = .ok ⟨[], xs, none⟩ S := Eq.trans rfl rfl
@[simp] theorem it_str {xs : Tx} : iterV (.str xs) S = .ok ⟨[], xs.map fun c => .str [c], none⟩ S := Eq.trans rfl rfl
def iterO (i : Nat) : Option Ob → M Wk
  | some (.lst xs) => ret ⟨[(i, .lst xs)], xs, none⟩
  | some (.rol xs) => ret ⟨[(i, .rol xs)], xs, none⟩
  | some (.dct kvs) => fun S => .ok ⟨[(i, .fdc kvs)], kvs.map fun p => p.1, some i⟩ (S.set i (.fdc kvs))
  | some (.fdc kvs) => ret ⟨[(i, .fdc kvs)], kvs.map fun p => p.1, none⟩
  | _ => stop
@[simp] theorem it_ref {i : Nat} : iterV (.ref i) S = iterO i S[i]? S := by
  cases h : S[i]? with | none => simp [iterV, iterO, h] | some o => cases o <;> simp [iterV, iterO, h]
@[simp] theorem iterO_lst {i : Nat} {xs : List Val} : iterO i (some (.lst xs)) S = .ok ⟨[(i, .lst xs)], xs, none⟩ S := Eq.trans rfl rfl
@[simp] theorem iterO_rol {i : Nat} {xs : List Val} : iterO i (some (.rol xs)) S = .ok ⟨[(i, .rol xs)], xs, none⟩ S := Eq.trans rfl rfl
@[simp] theorem iterO_dct {i : Nat} {kvs : List (Val × Val)} : iterO i (some (.dct kvs)) S = .ok ⟨[(i, .fdc kvs)], kvs.map fun p => p.1, some i⟩ (S.set i (.fdc kvs)) := Eq.trans rfl rfl
@[simp] theorem iterO_fdc {i : Nat} {kvs : List (Val × Val)} : iterO i (some (.fdc kvs)) S = .ok ⟨[(i, .fdc kvs)], kvs.map fun p => p.1, none⟩ S := Eq.trans rfl rfl
def viewO (f : Val × Val → Val) (i : Nat) : Option Ob → M Wk
  | some (.dct kvs) => fun S => .ok ⟨[(i, .fdc kvs)], kvs.map f, some i⟩ (S.set i (.fdc kvs))
  | some (.fdc kvs) => ret ⟨[(i, .fdc kvs)], kvs.map f, none⟩
  | _ => stop
@[simp] theorem view_ref {f : Val × Val → Val} {i : Nat} : viewV f (.ref i) S = viewO f i S[i]? S := by
  cases h : S[i]? with | none => simp [viewV, viewO, h] | some o => cases o <;> simp [viewV, viewO, h]
@[simp] theorem viewO_dct {f : Val × Val → Val} {i : Nat} {kvs : List (Val × Val)} : viewO f i (some (.dct kvs)) S = .ok ⟨[(i, .fdc kvs)], kvs.map f, some i⟩ (S.set i (.fdc kvs)) := Eq.trans rfl rfl
@[simp] theorem viewO_fdc {f : Val × Val → Val} {i : Nat} {kvs : List (Val × Val)} : viewO f i (some (.fdc kvs)) S = .ok ⟨[(i, .fdc kvs)], kvs.map f, none⟩ S := Eq.trans rfl rfl
@[simp] theorem zip_str {a b : Tx} : zipV (.str a) (.str b) S = .ok ⟨[], (a.zip b).map fun p => .tup [.str [p.1], .str [p.2]], none⟩ S := Eq.trans rfl rfl
@[simp] theorem zip_tup {a b : List Val} : zipV (.tup a) (.tup b) S = .ok ⟨[], (a.zip b).map fun p => .tup [p.1, p.2], none⟩ S := Eq.trans rfl rfl
def zipO (i j : Nat) : Option Ob → Option Ob → M Wk
  | some (.lst xs), some (.lst ys) => ret ⟨[(i, .lst xs), (j, .lst ys)], (xs.zip ys).map fun p => .tup [p.1, p.2], none⟩
  | _, _ => stop
@[simp] theorem zip_ref {i j : Nat} : zipV (.ref i) (.ref j) S = zipO i j S[i]? S[j]? S := by
  cases h : S[i]? with
    | none => cases h' : S[j]? <;> simp [zipV, zipO, h, h']
    | some o => cases h' : S[j]? with
      | none => cases o <;> simp [zipV, zipO, h, h']
      | some o' => cases o <;> cases o' <;> simp [zipV, zipO, h, h']
@[simp] theorem zipO_ll {i j : Nat} {xs ys : List Val} : zipO i j (some (.lst xs)) (some (.lst ys)) S = .ok ⟨[(i, .lst xs), (j, .lst ys)], (xs.zip ys).map fun p => .tup [p.1, p.2], none⟩ S := Eq.trans rfl rfl
def enuO (i : Nat) : Option Ob → M Wk
  | some (.lst xs) => ret ⟨[(i, .lst xs)], xs.mapIdx fun i x => .tup [.int (i : Nat), x], none⟩
  | some (.rol xs) => ret ⟨[(i, .rol xs)], xs.mapIdx fun i x => .tup [.int (i : Nat), x], none⟩
  | _ => stop
@[simp] theorem enu_ref {i : Nat} : enuV (.ref i) S = enuO i S[i]? S := by
  cases h : S[i]? with | none => simp [enuV, enuO, h] | some o => cases o <;> simp [enuV, enuO, h]
@[simp] theorem enuO_lst {i : Nat} {xs : List Val} : enuO i (some (.lst xs)) S = .ok ⟨[(i, .lst xs)], xs.mapIdx fun i x => .tup [.int (i : Nat), x], none⟩ S := Eq.trans rfl rfl
@[simp] theorem thaw_none : thaw none S = .ok () S := Eq.trans rfl rfl
def thawO (i : Nat) : Option Ob → M Unit
  | some (.fdc kvs) => fun S => .ok () (S.set i (.dct kvs))
  | _ => stop
@[simp] theorem thaw_some {i : Nat} : thaw (some i) S = thawO i S[i]? S := by
  cases h : S[i]? with | none => simp [thaw, thawO, h] | some o => cases o <;> simp [thaw, thawO, h]
@[simp] theorem thawO_fdc {i : Nat} {kvs : List (Val × Val)} : thawO i (some (.fdc kvs)) S = .ok () (S.set i (.dct kvs)) := Eq.trans rfl rfl
theorem set_back {i : Nat} {o o' : Ob} {T : Sto} (h : S[i]? = some o) : ((S.set i o') ++ T).set i o = S ++ T := by
  have hi := (List.getElem?_eq_some_iff.mp h).1
  rw [List.set_append_left _ _ (by rw [List.length_set]; exact hi), List.set_set]
  congr 1
  apply List.ext_getElem?
  intro j
  by_cases e : i = j
  · subst e; rw [List.getElem?_set_self hi, h]
  · rw [List.getElem?_set_ne e]
theorem set_back0 {i : Nat} {o o' : Ob} (h : S[i]? = some o) : (S.set i o').set i o = S := by
  have := set_back (o' := o') (T := []) h
  simpa using this
/-! methods -/
def rtO : Option Ob → Option Rt
  | some (.lst _) => some .lst
  | some (.dct _) => some .dct
  | some (.fdc _) => some .dct
  | _ => none
@[simp] theorem rt_str {z : Tx} : rtV S (.str z) = some .str := Eq.trans rfl rfl
@[simp] theorem rt_ref {i : Nat} : rtV S (.ref i) = rtO S[i]? := by
  cases h : S[i]? with | none => simp [rtV, rtO, h] | some o => cases o <;> simp [rtV, rtO, h]
@[simp] theorem rtO_lst {xs : List Val} : rtO (some (.lst xs)) = some .lst := Eq.trans rfl rfl
@[simp] theorem rtO_dct {xs : List (Val × Val)} : rtO (some (.dct xs)) = some .dct := Eq.trans rfl rfl
@[simp] theorem dctM_nil : dctM [] S = .ok (.ref S.length) (S ++ [.dct []]) := Eq.trans rfl rfl
/-! stays -/
@[simp] theorem stays_nil : stays [] S := fun g hg => by cases hg
theorem stays_one {i : Nat} {o : Ob} (h : S[i]? = some o) : stays [(i, o)] S := fun g hg => by
  rw [List.mem_singleton.mp hg]; exact h
end
/-! comprehensions and loops -/
open Classical in
theorem compL_pure {gs : List (Nat × Ob)} {f : Val → M (Option Val)} {g : Val → Option Val} {S : Sto} (hs : stays gs S) : ∀ {xs : List Val}, (∀ x ∈ xs, f x S = .ok (g x) S) → compL gs f xs S = .ok (xs.filterMap g) S
  | [], _ => by unfold compL; rw [if_pos hs]; rfl
  | x :: xs, h => by
    unfold compL
    rw [if_pos hs, h x List.mem_cons_self]
    simp only [bind_ok, bnd_ap]
    rw [compL_pure hs fun y hy => h y (List.mem_cons_of_mem _ hy)]
    cases e : g x <;> simp [e]
theorem compL_map {gs : List (Nat × Ob)} {f : Val → M (Option Val)} {α : Type} {k : α → Val} {g : α → Val} {S : Sto} (hs : stays gs S) {xs : List α} (h : ∀ x ∈ xs, f (k x) S = .ok (some (g x)) S) : compL gs f (xs.map k) S = .ok (xs.map g) S := by
  induction xs with
  | nil => show compL gs f [] S = _; unfold compL; rw [if_pos hs]; rfl
  | cons x xs ih =>
    show compL gs f (k x :: xs.map k) S = _
    unfold compL
    rw [if_pos hs, h x List.mem_cons_self]
    simp only [bind_ok, bnd_ap]
    rw [ih fun y hy => h y (List.mem_cons_of_mem _ hy)]
    rfl
/-- a comprehension over items of a kind, with a test, the store as it was -/
theorem compL_fm {gs : List (Nat × Ob)} {f : Val → M (Option Val)} {α : Type} {k : α → Val} {g : α → Option Val} {S : Sto} (hs : stays gs S) {xs : List α} (h : ∀ x ∈ xs, f (k x) S = .ok (g x) S) : compL gs f (xs.map k) S = .ok (xs.filterMap g) S := by
  induction xs with
  | nil => show compL gs f [] S = _; unfold compL; rw [if_pos hs]; rfl
  | cons x xs ih =>
    show compL gs f (k x :: xs.map k) S = _
    unfold compL
    rw [if_pos hs, h x List.mem_cons_self]
    simp only [bind_ok, bnd_ap]
    rw [ih fun y hy => h y (List.mem_cons_of_mem _ hy)]
    cases e : g x <;> simp [e]
/-- what a run comes to -/
def Runs {α : Type} (r : Res α) (Q : α → Sto → Prop) : Prop := ∃ a S, r = .ok a S ∧ Q a S
theorem Runs.mk {α : Type} {a : α} {S : Sto} {Q : α → Sto → Prop} (h : Q a S) : Runs (.ok a S) Q := ⟨a, S, rfl, h⟩
theorem Runs.bind {α β : Type} {r : Res α} {f : α → M β} {P : α → Sto → Prop} {Q : β → Sto → Prop} (h : Runs r P) (k : ∀ a S, P a S → Runs (f a S) Q) : Runs (r.bind f) Q := by
  obtain ⟨a, S, rfl, p⟩ := h
  exact k a S p
theorem Runs.mono {α : Type} {r : Res α} {P Q : α → Sto → Prop} (h : Runs r P) (k : ∀ a S, P a S → Q a S) : Runs r Q := by
  obtain ⟨a, S, e, p⟩ := h
  exact ⟨a, S, e, k a S p⟩
/-- a comprehension by an invariant over what is yielded so far -/
theorem compL_runs {gs : List (Nat × Ob)} {f : Val → M (Option Val)} (I : List Val → Sto → Prop) (hs : ∀ ys S, I ys S → stays gs S) : ∀ {xs : List Val} {ys : List Val} {S : Sto}, I ys S →
    (∀ x ∈ xs, ∀ ys S, I ys S → Runs (f x S) fun o S' => I (match o with | some y => ys ++ [y] | none => ys) S') → Runs (compL gs f xs S) fun zs S' => I (ys ++ zs) S'
  | [], ys, S, i, _ => by
    unfold compL
    rw [if_pos (hs ys S i)]
    exact .mk (by simpa using i)
  | x :: xs, ys, S, i, h => by
    unfold compL
    rw [if_pos (hs ys S i)]
    obtain ⟨o, S1, e, i1⟩ := h x List.mem_cons_self ys S i
    rw [e]
    simp only [bind_ok, bnd_ap]
    obtain ⟨zs, S2, e2, i2⟩ := compL_runs I hs i1 fun y hy => h y (List.mem_cons_of_mem _ hy)
    rw [e2]
    cases o with
    | none => exact .mk i2
    | some y => exact .mk (by simpa using i2)
/-- a loop by an invariant over the items taken, without an end ahead of time -/
theorem forL_runs {gs : List (Nat × Ob)} {f : Val → Env → M Fl} (I : List Val → Env → Sto → Prop) (hs : ∀ ys ρ S, I ys ρ S → stays gs S) : ∀ {xs ys : List Val} {ρ : Env} {S : Sto}, I ys ρ S →
    (∀ x ∈ xs, ∀ ys ρ S, I ys ρ S → Runs (f x ρ S) fun r S' => ∃ ρ', (r = .nx ρ' ∨ r = .ct ρ') ∧ I (ys ++ [x]) ρ' S') → Runs (forL gs f xs ρ S) fun r S' => ∃ ρ', r = .nx ρ' ∧ I (ys ++ xs) ρ' S'
  | [], ys, ρ, S, i, _ => by
    unfold forL
    rw [if_pos (hs ys ρ S i)]
    exact .mk ⟨ρ, rfl, by simpa using i⟩
  | x :: xs, ys, ρ, S, i, h => by
    unfold forL
    rw [if_pos (hs ys ρ S i)]
    obtain ⟨r, S1, e, ρ', hr, i1⟩ := h x List.mem_cons_self ys ρ S i
    rw [e]
    simp only [bind_ok]
    obtain ⟨r2, S2, e2, ρ2, rfl, i2⟩ := forL_runs I hs i1 fun y hy => h y (List.mem_cons_of_mem _ hy)
    rcases hr with rfl | rfl
    · exact ⟨_, _, e2, ρ2, rfl, by simpa using i2⟩
    · exact ⟨_, _, e2, ρ2, rfl, by simpa using i2⟩
/-! calls -/
theorem callF_succ {T : Nat → Option FnD} {W k f : Nat} {d : FnD} {vs : List Val} {S : Sto} (h : T f = some d) (hl : vs.length = d.np) :
    callF T W (k + 1) f vs S = gcM S ((meanB (callF T W k) W d.body (startE d vs) S).bind fun r S => endF r S) := by
  unfold callF
  rw [h]
  show (if vs.length = d.np then fun S => gcM S (bnd (meanB (callF T W k) W d.body (startE d vs)) endF S) else stop) S = _
  rw [if_pos hl]
  rfl
@[simp] theorem end_rt (v : Val) (S : Sto) : endF (.rt v) S = .ok v S := Eq.trans rfl rfl
@[simp] theorem end_nx (ρ : Env) (S : Sto) : endF (.nx ρ) S = .ok .non S := Eq.trans rfl rfl
/-- a call's end: an answer without addresses, what stood stays -/
theorem gc_keep {S T : Sto} {v : Val} (h : refsV v = []) : gcM S (.ok v (S ++ T)) = .ok v S := by
  have hr : reach (S ++ T) S.length 100000 (refsV v) [] = [] := by rw [h]; rfl
  unfold gcM
  simp only [hr]
  rw [if_pos]
  · simp only [gcS, List.map_nil, List.append_nil, List.take_left']
    rw [ren_same]
    intro r hr'; rw [h] at hr'; cases hr'
  · refine ⟨by simp, fun i o hi => ⟨o, by rw [List.getElem?_append_left (lt_of_get hi)]; exact hi, .inl rfl⟩, fun i hi => (by rw [hr] at hi; cases hi), fun r hr' => (by rw [h] at hr'; cases hr'), by rw [hr]; exact List.nodup_nil⟩
theorem gc_same {S : Sto} {v : Val} (h : refsV v = []) : gcM S (.ok v S) = .ok v S := by
  have := gc_keep (S := S) (T := []) h
  rwa [List.append_nil] at this
end MP
set_option linter.all false
set_option Elab.async false
/-! what the plain proofs share -/
namespace MP
open PySem
/-! the sweep, at answers without addresses -/
@[simp] theorem gcB {S : Sto} {b : Bool} : gcM S (.ok (.bl b) S) = .ok (.bl b) S := gc_same (by unfold refsV; rfl)
@[simp] theorem gcB' {S T : Sto} {b : Bool} : gcM S (.ok (.bl b) (S ++ T)) = .ok (.bl b) S := gc_keep (by unfold refsV; rfl)
@[simp] theorem gcI {S : Sto} {b : Int} : gcM S (.ok (.int b) S) = .ok (.int b) S := gc_same (by unfold refsV; rfl)
@[simp] theorem gcI' {S T : Sto} {b : Int} : gcM S (.ok (.int b) (S ++ T)) = .ok (.int b) S := gc_keep (by unfold refsV; rfl)
@[simp] theorem gcT {S : Sto} {b : Tx} : gcM S (.ok (.str b) S) = .ok (.str b) S := gc_same (by unfold refsV; rfl)
@[simp] theorem gcT' {S T : Sto} {b : Tx} : gcM S (.ok (.str b) (S ++ T)) = .ok (.str b) S := gc_keep (by unfold refsV; rfl)
@[simp] theorem gcN {S : Sto} : gcM S (.ok .non S) = .ok .non S := gc_same (by unfold refsV; rfl)
@[simp] theorem gcN' {S T : Sto} : gcM S (.ok .non (S ++ T)) = .ok .non S := gc_keep (by unfold refsV; rfl)
theorem gc_ite {S : Sto} {c : Prop} [Decidable c] {a b : Res Val} : gcM S (if c then a else b) = if c then gcM S a else gcM S b := by split <;> rfl
/-- the store, one object changed and objects new -/
theorem gc_set {S T : Sto} {p : Nat} {o : Ob} {v : Val} (hp : p < S.length) (hv : refsV v = []) (ho : refsO o = []) : gcM S (.ok v ((S ++ T).set p o)) = .ok v (S.set p o) := by
  have es : (S ++ T).set p o = S.set p o ++ T := by rw [List.set_append_left _ _ hp]
  have hr : reach ((S ++ T).set p o) S.length 100000 (refsV v) [] = [] := by rw [hv]; rfl
  unfold gcM
  simp only [hr]
  rw [if_pos]
  · simp only [MP.gcS, List.map_nil, List.append_nil, es]
    rw [ren_same]
    · rw [List.take_left' (by simp)]
    intro r hr'; rw [hv] at hr'; cases hr'
  · refine ⟨by simp, fun i o' hi => ?_, fun i hi => (by rw [hr] at hi; cases hi), fun r hr' => (by rw [hv] at hr'; cases hr'), by rw [hr]; exact List.nodup_nil⟩
    rw [es]
    have hi' := lt_of_get hi
    by_cases e : p = i
    · subst e
      exact ⟨o, by rw [List.getElem?_append_left (by simpa using hp), List.getElem?_set_self hp], .inr (by rw [ho]; intro r hr; cases hr)⟩
    · exact ⟨o', by rw [List.getElem?_append_left (by simpa using hi'), List.getElem?_set_ne e]; exact hi, .inl rfl⟩
theorem gc_set0 {S : Sto} {p : Nat} {o : Ob} {v : Val} (hp : p < S.length) (hv : refsV v = []) (ho : refsO o = []) : gcM S (.ok v (S.set p o)) = .ok v (S.set p o) := by
  have := gc_set (T := []) hp hv ho
  rwa [List.append_nil] at this
/-- a new list comes back -/
theorem reach_old {S : Sto} {n : Nat} : ∀ (k : Nat) (todo acc : List Nat), (∀ r ∈ todo, r < n) → reach S n k todo acc = acc
  | 0, _, _, _ => by unfold reach; rfl
  | k + 1, [], acc, _ => by unfold reach; rfl
  | k + 1, i :: todo, acc, h => by
    unfold reach
    rw [if_pos (.inl (h i List.mem_cons_self))]
    exact reach_old k todo acc fun r hr => h r (List.mem_cons_of_mem _ hr)
theorem reach_one {S : Sto} {n j : Nat} {o : Ob} (hj : n ≤ j) (ho : S[j]? = some o) (hr : ∀ r ∈ refsO o, r < n) : reach S n 100000 [j] [] = [j] := by
  show reach S n (99999 + 1) [j] [] = _
  unfold reach
  rw [if_neg (by simp; omega), ho]
  exact reach_old _ _ _ (by simpa using hr)
theorem renP_id {f : Nat → Nat} {kvs : List (Val × Val)} (h : ∀ r ∈ refsVs (kvs.map (·.1)) ++ refsVs (kvs.map (·.2)), f r = r) : (kvs.map fun p => (renV f p.1, renV f p.2)) = kvs := by
  have h1 := rens_same (f := f) (xs := kvs.map (·.1)) fun r hr => h r (List.mem_append_left _ hr)
  have h2 := rens_same (f := f) (xs := kvs.map (·.2)) fun r hr => h r (List.mem_append_right _ hr)
  rw [renVs_map, List.map_map] at h1 h2
  have e1 := List.map_inj_left.mp h1
  have e2 := List.map_inj_left.mp h2
  conv => rhs; rw [← List.map_id kvs]
  exact List.map_congr_left fun p hp => Prod.ext (e1 p hp) (e2 p hp)
theorem renO_id {f : Nat → Nat} {o : Ob} (h : ∀ r ∈ refsO o, f r = r) : renO f o = o := by
  cases o with
  | lst xs => show Ob.lst _ = _; rw [rens_same h]
  | rol xs => show Ob.rol _ = _; rw [rens_same h]
  | set xs => show Ob.set _ = _; rw [rens_same h]
  | dct kvs => show Ob.dct _ = _; rw [renP_id h]
  | fdc kvs => show Ob.fdc _ = _; rw [renP_id h]
  | ins c fs =>
    show Ob.ins c _ = _
    have h2 := rens_same (f := f) (xs := fs.map fun p => p.2) (by unfold refsO at h; exact h)
    rw [renVs_map, List.map_map] at h2
    have e2 := List.map_inj_left.mp h2
    have : (fs.map fun p => (p.1, renV f p.2)) = fs := by
      conv => rhs; rw [← List.map_id fs]
      exact List.map_congr_left fun p hp => Prod.ext rfl (e2 p hp)
    rw [this]
theorem gc_new {S S' : Sto} {j : Nat} {o : Ob} (hj : S.length ≤ j) (ho : S'[j]? = some o) (hm : o.mt) (hr : ∀ r ∈ refsO o, r < S.length) (hs : ∀ (i : Nat) (o : Ob), S[i]? = some o → ∃ o', S'[i]? = some o' ∧ (o' = o ∨ ∀ r ∈ refsO o', r < S.length)) :
    gcM S (.ok (.ref j) S') = .ok (.ref S.length) (S'.take S.length ++ [o]) := by
  have hv : refsV (.ref j) = [j] := by unfold refsV; rfl
  have hR : reach S' S.length 100000 (refsV (.ref j)) [] = [j] := by rw [hv]; exact reach_one hj ho hr
  unfold gcM
  simp only [hR]
  rw [if_pos]
  · have e : numOf S.length [j] j = S.length := by unfold numOf; rw [if_neg (by omega)]; simp
    have e2 : renO (numOf S.length [j]) o = o := renO_id fun r h => by
      unfold numOf; rw [if_pos (hr r h)]
    have e3 : renV (numOf S.length [j]) (.ref j) = .ref S.length := by
      show Val.ref (numOf S.length [j] j) = _
      rw [e]
    simp only [e3, MP.gcS, List.map_cons, List.map_nil, ho, Option.getD_some, e2, e]
  · refine ⟨?_, hs, fun i hi => ?_, fun r h => ?_, by rw [hR]; simp⟩
    · have := lt_of_get ho
      omega
    · rw [hR] at hi
      rw [List.mem_singleton.mp hi, hR]
      exact ⟨hj, o, ho, hm, fun r h => .inl (hr r h)⟩
    · rw [hv] at h
      rw [hR]
      exact .inr h
theorem gc_lst {S T : Sto} {j : Nat} {o : Ob} (ho : T[j]? = some o) (hm : o.mt) (hr : ∀ r ∈ refsO o, r < S.length) : gcM S (.ok (.ref (S.length + j)) (S ++ T)) = .ok (.ref S.length) (S ++ [o]) := by
  rw [gc_new (o := o) (by omega) (by rw [getAtK]; exact ho) hm hr fun i o hi => ⟨o, by rw [List.getElem?_append_left (lt_of_get hi)]; exact hi, .inl rfl⟩]
  simp
/-! kinds of values -/
def okO : Option Ob → Bool
  | some (.lst _) => true
  | some (.rol _) => true
  | some (.dct _) => true
  | some (.fdc _) => true
  | _ => false
/-- a value of a known kind -/
def okV (S : Sto) : Val → Bool
  | .ref i => okO S[i]?
  | .fn _ => false
  | .str x => decide (x.length ≤ line)
  | _ => true
@[simp] theorem okV_ref {S : Sto} {i : Nat} : okV S (.ref i) = okO S[i]? := Eq.trans rfl rfl
@[simp] theorem okV_str {S : Sto} {x : Tx} : okV S (.str x) = decide (x.length ≤ line) := Eq.trans rfl rfl
@[simp] theorem okV_fn {S : Sto} {i : Nat} : okV S (.fn i) = false := Eq.trans rfl rfl
@[simp] theorem okV_tup {S : Sto} {x : List Val} : okV S (.tup x) = true := Eq.trans rfl rfl
@[simp] theorem okV_int {S : Sto} {x : Int} : okV S (.int x) = true := Eq.trans rfl rfl
@[simp] theorem okV_bl {S : Sto} {x : Bool} : okV S (.bl x) = true := Eq.trans rfl rfl
@[simp] theorem okV_non {S : Sto} : okV S .non = true := Eq.trans rfl rfl
@[simp] theorem okO_lst {xs : List Val} : okO (some (.lst xs)) = true := Eq.trans rfl rfl
@[simp] theorem okO_dct {xs : List (Val × Val)} : okO (some (.dct xs)) = true := Eq.trans rfl rfl
theorem okO_some {o : Option Ob} (h : okO o = true) : (∃ xs, o = some (.lst xs)) ∨ (∃ xs, o = some (.rol xs)) ∨ (∃ xs, o = some (.dct xs)) ∨ ∃ xs, o = some (.fdc xs) := by
  cases o with
  | none => cases h
  | some o => cases o <;> first | cases h; done | simp
def isStr : Val → Bool
  | .str _ => true
  | _ => false
def isTp : Val → Bool
  | .tup _ => true
  | _ => false
@[simp] theorem isStr_str {x : Tx} : isStr (.str x) = true := Eq.trans rfl rfl
@[simp] theorem isTp_tup {x : List Val} : isTp (.tup x) = true := Eq.trans rfl rfl
theorem isi_str {S : Sto} {v : Val} (h : okV S v = true) : isiV .str v S = .ok (.bl (isStr v)) S := by
  cases v with
  | ref i =>
    simp only [i_ref]
    rcases okO_some h with ⟨xs, e⟩ | ⟨xs, e⟩ | ⟨xs, e⟩ | ⟨xs, e⟩ <;> rw [e] <;> rfl
  | fn f => cases h
  | _ => simp [isStr]
theorem isi_tup {S : Sto} {v : Val} (h : okV S v = true) : isiV .tuple v S = .ok (.bl (isTp v)) S := by
  cases v with
  | ref i =>
    simp only [i_ref]
    rcases okO_some h with ⟨xs, e⟩ | ⟨xs, e⟩ | ⟨xs, e⟩ | ⟨xs, e⟩ <;> rw [e] <;> rfl
  | fn f => cases h
  | _ => simp [isTp]
/-! cuts -/
theorem cut_from {α : Type} (x : List α) (k : Nat) : cutL x (some (k : Int)) none = x.drop k := by
  unfold cutL
  rw [HT.sIx_nat, HT.sIx_none, List.take_of_length_le (by simp)]
  by_cases h : k ≤ x.length
  · rw [Nat.min_eq_left h]
  · rw [Nat.min_eq_right (by omega), List.drop_of_length_le (by omega), List.drop_of_length_le (by omega)]
theorem cut_to {α : Type} (x : List α) (k : Nat) : cutL x none (some (k : Int)) = x.take k := by
  unfold cutL
  rw [HT.sIx_nat, HT.sIx_none, List.drop_zero, Nat.sub_zero]
  by_cases h : k ≤ x.length
  · rw [Nat.min_eq_left h]
  · rw [Nat.min_eq_right (by omega), List.take_of_length_le (by omega), List.take_of_length_le (by omega)]
theorem atI_nat {α : Type} {x : List α} {k : Nat} (h : k < x.length) : L2.atI x (k : Int) = x[k]? := by
  unfold L2.atI L2.ixN
  rw [if_pos (by omega), if_pos (by omega), Option.bind_some, Int.toNat_natCast]
/-! equality -/
theorem optAll_same {α β : Type} {f : α → Option β} {g : α → β} : ∀ {xs : List α}, (∀ x ∈ xs, f x = some (g x)) → optAll f xs = some (xs.map g)
  | [], _ => rfl
  | x :: xs, h => by
    unfold optAll
    rw [h x List.mem_cons_self, optAll_same fun y hy => h y (List.mem_cons_of_mem _ hy)]
    rfl
theorem eqs_map {α : Type} [DecidableEq α] {f : Val × Val → Option Bool} {v : α → Val} (h : ∀ a b, f (v a, v b) = some (decide (a = b))) : ∀ xs ys : List α, eqs f (xs.map v) (ys.map v) = some (decide (xs = ys)) := fun xs ys => by
  unfold eqs
  rw [List.zip_map, optAll_map (f := f) (g := Prod.map v v) (h := fun p => decide (p.1 = p.2)) (fun p => h p.1 p.2)]
  simp only [List.length_map, Option.some.injEq]
  induction xs generalizing ys with
  | nil => cases ys <;> simp
  | cons x xs ih => cases ys with
    | nil => simp
    | cons y ys =>
      have := ih ys
      simp only [List.zip_cons_cons, List.map_cons, List.all_cons, List.length_cons, id] at *
      by_cases e : x = y
      · subst e; simp at this ⊢; exact this
      · simp [e]
theorem eqD_strs {n : Nat} {S : Sto} (xs ys : List Tx) : eqs (fun p => eqD (n + 1) S p.1 p.2) (xs.map Val.str) (ys.map Val.str) = some (decide (xs = ys)) := eqs_map (fun a b => eqD_str) xs ys
theorem eqD_ints {n : Nat} {S : Sto} (xs ys : List Int) : eqs (fun p => eqD (n + 1) S p.1 p.2) (xs.map Val.int) (ys.map Val.int) = some (decide (xs = ys)) := eqs_map (fun a b => eqD_int) xs ys
theorem eqD_lst {n : Nat} {S : Sto} {i j : Nat} {xs ys : List Val} (hi : kdO S[i]? = some (.lst xs)) (hj : kdO S[j]? = some (.lst ys)) : eqD (n + 1) S (.ref i) (.ref j) = eqs (fun p => eqD n S p.1 p.2) xs ys := by
  rw [eqD_eq, kdV_ref, kdV_ref, hi, hj]; rfl
/-! without doubles -/
def dd {α : Type} [DecidableEq α] (xs : List α) : List α := xs.foldl (fun ks k => if k ∈ ks then ks else ks ++ [k]) []
section
variable {α : Type} [DecidableEq α]
theorem dd_fold : ∀ (xs acc : List α), acc.Nodup → ((xs.foldl (fun ks k => if k ∈ ks then ks else ks ++ [k]) acc).Nodup ∧ ∀ z, z ∈ xs.foldl (fun ks k => if k ∈ ks then ks else ks ++ [k]) acc ↔ z ∈ acc ∨ z ∈ xs)
  | [], acc, h => ⟨h, by simp⟩
  | x :: xs, acc, h => by
    simp only [List.foldl_cons]
    have hn : (if x ∈ acc then acc else acc ++ [x]).Nodup := by
      split
      · exact h
      · rename_i hx
        refine List.nodup_append.mpr ⟨h, by simp, fun a ha b hb e => ?_⟩
        rw [List.mem_singleton.mp hb] at e
        exact hx (e ▸ ha)
    obtain ⟨h1, h2⟩ := dd_fold xs _ hn
    refine ⟨h1, fun z => ?_⟩
    rw [h2]
    split
    · rename_i hx
      simp only [List.mem_cons]
      constructor
      · rintro (h | h)
        · exact .inl h
        · exact .inr (.inr h)
      · rintro (h | rfl | h)
        · exact .inl h
        · exact .inl hx
        · exact .inr h
    · simp only [List.mem_append, List.mem_singleton, List.mem_cons, List.not_mem_nil, or_false]
      constructor
      · rintro ((h | h) | h)
        · exact .inl h
        · exact .inr (.inl h)
        · exact .inr (.inr h)
      · rintro (h | h | h)
        · exact .inl (.inl h)
        · exact .inl (.inr h)
        · exact .inr h
theorem dd_nodup (xs : List α) : (dd xs).Nodup := (dd_fold xs [] List.nodup_nil).1
theorem mem_dd {xs : List α} {z : α} : z ∈ dd xs ↔ z ∈ xs := by
  have := (dd_fold xs [] List.nodup_nil).2 z
  simpa [dd] using this
theorem dd_app : ∀ (xs acc : List α), (acc ++ xs).Nodup → xs.foldl (fun ks k => if k ∈ ks then ks else ks ++ [k]) acc = acc ++ xs
  | [], acc, _ => by simp
  | x :: xs, acc, h => by
    have hx : x ∉ acc := fun hm => by
      have := (List.nodup_append.mp h).2.2 x hm x List.mem_cons_self
      exact this rfl
    simp only [List.foldl_cons, if_neg hx]
    rw [dd_app xs (acc ++ [x]) (by simpa using h)]
    simp
theorem dd_self {xs : List α} (h : xs.Nodup) : dd xs = xs := by
  have := dd_app xs [] (by simpa using h)
  simpa [dd] using this
theorem dd_len (xs : List α) : (dd xs).length ≤ xs.length := by
  have : ∀ (xs acc : List α), (xs.foldl (fun ks k => if k ∈ ks then ks else ks ++ [k]) acc).length ≤ acc.length + xs.length := by
    intro xs
    induction xs with
    | nil => intro acc; simp
    | cons x xs ih =>
      intro acc
      simp only [List.foldl_cons, List.length_cons]
      split
      · have := ih acc; omega
      · have := ih (acc ++ [x]); simp at this; omega
  simpa [dd] using this xs []
end
theorem keys_map {α : Type} [DecidableEq α] {f : α → Sum Int Str} (hf : ∀ a b, f a = f b → a = b) : ∀ (xs acc : List α), (xs.map f).foldl addKey (acc.map f) = (xs.foldl (fun ks k => if k ∈ ks then ks else ks ++ [k]) acc).map f
  | [], acc => rfl
  | x :: xs, acc => by
    simp only [List.map_cons, List.foldl_cons]
    have e : addKey (acc.map f) (f x) = (if x ∈ acc then acc else acc ++ [x]).map f := by
      unfold addKey
      by_cases h : x ∈ acc
      · rw [if_pos (any_key.mpr (List.mem_map.mpr ⟨x, h, rfl⟩)), if_pos h]
      · rw [if_neg (fun z => h (by
          obtain ⟨y, hy, e⟩ := List.mem_map.mp (any_key.mp z)
          exact hf _ _ e ▸ hy)), if_neg h]
        simp
    rw [e, keys_map hf xs _]
theorem keysOf_strs (xs : List Tx) : (keysOf (xs.map fun x => Sum.inr (stx x))).map kVal = (dd xs).map Val.str := by
  have e := keys_map (f := fun x : Tx => (Sum.inr (stx x) : Sum Int Str)) (fun a b h => stx_inj (Sum.inr.inj h)) xs []
  have e2 : keysOf (xs.map fun x => (Sum.inr (stx x) : Sum Int Str)) = (dd xs).map fun x => Sum.inr (stx x) := e
  rw [e2, List.map_map]
  exact List.map_congr_left fun x _ => by show Val.str (stx x).cps.toList = _; rw [cps_stx]
/-- set(texts) -/
theorem set_strs {S : Sto} {xs : List Tx} (h : xs.length + 1 < 4096) : setR' (some (xs.map Val.str)) S = .ok (.ref S.length) (S ++ [.set ((dd xs).map Val.str)]) := by
  unfold setR'
  have := optAll_map (f := keyS) (g := Val.str) (h := fun x => (Sum.inr (stx x) : Sum Int Str)) (fun a => rfl) xs
  rw [Option.bind_some, this]
  show (if _ then _ else _) = _
  rw [if_pos (by simpa [PySem.scanBound] using h), keysOf_strs]
/-! sorting -/
theorem srt_map {α : Type} {S : Sto} {v : α → Val} {d : α → PyData} {le : α → α → Bool} {xs : List α} (hd : ∀ a ∈ xs, datV 20 S (v a) = some (d a)) (hle : ∀ a ∈ xs, ∀ b ∈ xs, le a b = PySem.W.dataLe false d a b) : srtD S (xs.map v) = (xs.mergeSort le).map v := by
  unfold srtD
  rw [← PySem.W.sort_maps (r := le) v]
  intro a ha b hb
  rw [hle a ha b hb]
  show PySem.W.dataLe false d a b = PySem.W.dataLe false (fun v => (datV 20 S v).getD .none) (v a) (v b)
  unfold PySem.W.dataLe PySem.W.sortLe
  simp only [hd a ha, hd b hb, Option.getD_some]
def leT (a b : Tx) : Bool := !decide (b < a)
/-- sorted(texts) -/
def sortT (xs : List Tx) : List Tx := xs.mergeSort leT
theorem srtD_strs {S : Sto} (xs : List Tx) : srtD S (xs.map Val.str) = (sortT xs).map Val.str :=
  srt_map (d := fun x => .str (stx x)) (fun a _ => by unfold datV; rfl) fun a _ b _ => by
    unfold leT PySem.W.dataLe PySem.W.sortLe
    simp only [cond_false]
    have : ∀ x y : Tx, (PyProof.Rows.listOrd PyProof.Rows.itemOrd).blt (PySem.W.keyToks (.str (stx x))) (PySem.W.keyToks (.str (stx y))) = decide (x < y) := fun x y => by
      unfold PySem.W.keyToks
      rw [cps_stx, cps_stx]
      show PyProof.Rows.lexLt PyProof.Rows.itemOrd [.inr x] [.inr y] = _
      unfold PyProof.Rows.lexLt
      show (PyProof.Rows.itemLt (.inr x) (.inr y) || (!PyProof.Rows.itemLt (.inr y) (.inr x) && PyProof.Rows.lexLt PyProof.Rows.itemOrd [] [])) = _
      unfold PyProof.Rows.lexLt
      rw [Bool.and_false, Bool.or_false]
      rfl
    exact congrArg (fun z => !z) (this b a).symm
theorem srtOk_strs {S : Sto} {xs : List Tx} (h : xs.length ≤ line) : srtOk S (xs.map Val.str) := by
  refine ⟨by simpa using h, fun v hv => ?_, fun d hd d' hd' => ?_, .inr fun d hd => ?_⟩
  · obtain ⟨x, _, rfl⟩ := List.mem_map.mp hv
    exact ⟨.str (stx x), by unfold datV; rfl⟩
  · simp only [List.map_map, List.mem_map] at hd hd'
    obtain ⟨x, _, rfl⟩ := hd
    obtain ⟨y, _, rfl⟩ := hd'
    simp only [Function.comp_apply]
    unfold datV
    rfl
  · simp only [List.map_map, List.mem_map] at hd
    obtain ⟨x, _, rfl⟩ := hd
    simp only [Function.comp_apply]
    unfold datV
    exact ⟨fun e => (by cases e), fun xs e => (by cases e)⟩
theorem leT_iff {a b : Tx} : leT a b = true ↔ a ≤ b := by
  unfold leT
  simp [List.not_lt]
theorem sortT_perm (xs : List Tx) : (sortT xs).Perm xs := List.mergeSort_perm _ _
theorem sortT_sorted (xs : List Tx) : (sortT xs).Pairwise (· ≤ ·) := by
  have := List.pairwise_mergeSort (le := leT) (fun a b c h1 h2 => by rw [leT_iff] at *; exact List.le_trans h1 h2) (fun a b => by
    rw [Bool.or_eq_true, leT_iff, leT_iff]; exact List.le_total a b) xs
  exact this.imp fun h => leT_iff.mp h
theorem sortT_uniq {xs ys : List Tx} (hp : ys.Perm xs) (hs : ys.Pairwise (· ≤ ·)) : ys = sortT xs := by
  refine List.Perm.eq_of_pairwise (le := (· ≤ ·)) (fun a b _ _ h1 h2 => List.le_antisymm h1 h2) hs (sortT_sorted xs) (hp.trans (sortT_perm xs).symm)
theorem perm_strs {ys : List Val} {xs : List Tx} (h : ys.Perm (xs.map Val.str)) : ∃ zs : List Tx, ys = zs.map Val.str ∧ zs.Perm xs := by
  have hm : ∀ y ∈ ys, ∃ x, y = Val.str x := fun y hy => by
    obtain ⟨x, _, e⟩ := List.mem_map.mp (h.mem_iff.mp hy)
    exact ⟨x, e.symm⟩
  have : ∀ ys : List Val, (∀ y ∈ ys, ∃ x, y = Val.str x) → ∃ zs : List Tx, ys = zs.map Val.str := by
    intro ys
    induction ys with
    | nil => intro _; exact ⟨[], rfl⟩
    | cons y ys ih =>
      intro h
      obtain ⟨x, rfl⟩ := h y List.mem_cons_self
      obtain ⟨zs, rfl⟩ := ih fun z hz => h z (List.mem_cons_of_mem _ hz)
      exact ⟨x :: zs, rfl⟩
  obtain ⟨zs, rfl⟩ := this ys hm
  refine ⟨zs, rfl, ?_⟩
  have := h.map fun v => match v with | .str x => x | _ => []
  simpa [List.map_map, Function.comp_def] using this
theorem srtSet_strs {S : Sto} {xs : List Tx} (h : xs.length ≤ line) : srtSet S (xs.map Val.str) := fun ys hy => by
  obtain ⟨zs, rfl, hp⟩ := perm_strs hy
  refine ⟨srtOk_strs (by rw [hp.length_eq]; exact h), ?_⟩
  rw [srtD_strs, srtD_strs]
  rw [← sortT_uniq ((sortT_perm zs).trans hp) (sortT_sorted zs)]
end MP
set_option linter.all false
set_option Elab.async false
/-! the sweep where the answer holds flat objects; pools -/
namespace MP
open PySem
theorem optAll_mem {α β : Type} {f : α → Option β} : ∀ {xs : List α} {ys : List β}, optAll f xs = some ys → ∀ x ∈ xs, ∃ y, f x = some y
  | x :: xs, ys, h, z, hz => by
    unfold optAll at h
    split at h
    · rename_i y ys' h1 h2
      rcases List.mem_cons.mp hz with rfl | hz
      · exact ⟨y, h1⟩
      · exact optAll_mem h2 z hz
    · cases h
theorem optAll_congr {α γ β : Type} {f : α → Option β} {g : γ → Option β} {k : α → γ} : ∀ {xs : List α} {ys : List β}, (∀ x ∈ xs, ∀ y, f x = some y → g (k x) = some y) → optAll f xs = some ys → optAll g (xs.map k) = some ys
  | [], ys, _, h => by unfold optAll at h; cases h; rfl
  | x :: xs, ys, q, h => by
    unfold optAll at h
    split at h
    · rename_i y ys' h1 h2
      cases h
      show optAll g (k x :: xs.map k) = _
      unfold optAll
      rw [q x List.mem_cons_self y h1, optAll_congr (fun z hz => q z (List.mem_cons_of_mem _ hz)) h2]
    · cases h
theorem refs_sub {x : Val} : ∀ {xs : List Val}, x ∈ xs → ∀ r ∈ refsV x, r ∈ refsVs xs := fun hx r hr => refs_mem hr hx
/-- data, the addresses called otherwise -/
theorem dat_ren {S S' : Sto} {f : Nat → Nat} (A : Nat → Prop) (hA : ∀ r, A r → ∀ o, S[r]? = some o → (∀ c fs, o ≠ .ins c fs) → S'[f r]? = some (renO f o) ∧ ∀ q ∈ refsO o, A q) :
    ∀ (n : Nat) (v : Val) (d : PyData), (∀ r ∈ refsV v, A r) → datV n S v = some d → datV n S' (renV f v) = some d
  | 0, v, d, _, h => by unfold datV at h; cases h
  | n + 1, v, d, hv, h => by
    have ih := dat_ren A hA n
    cases v with
    | non => unfold renV; unfold datV at h ⊢; exact h
    | bl b => unfold renV; unfold datV at h ⊢; exact h
    | int i => unfold renV; unfold datV at h ⊢; exact h
    | str x => unfold renV; unfold datV at h ⊢; exact h
    | fn g => unfold datV at h; cases h
    | tup xs =>
      unfold renV
      unfold datV at h ⊢
      simp only at h ⊢
      obtain ⟨ds, h1, rfl⟩ := Option.map_eq_some_iff.mp h
      rw [renVs_map, optAll_congr (fun x hx y hy => ih x y (fun r hr => hv r (by unfold refsV; exact refs_mem hr hx)) hy) h1]
      rfl
    | ref i =>
      have hi : A i := hv i (by unfold refsV; simp)
      unfold renV
      unfold datV at h ⊢
      simp only at h ⊢
      split at h
      · rename_i xs hs
        obtain ⟨e, q⟩ := hA i hi _ hs fun c fs z => by cases z
        rw [e]
        obtain ⟨ds, h1, rfl⟩ := Option.map_eq_some_iff.mp h
        show (optAll (datV n S') (renVs f xs)).map _ = _
        rw [renVs_map, optAll_congr (fun x hx y hy => ih x y (fun r hr => q r (refs_mem hr hx)) hy) h1]
        rfl
      · rename_i xs hs
        obtain ⟨e, q⟩ := hA i hi _ hs fun c fs z => by cases z
        rw [e]
        obtain ⟨ds, h1, rfl⟩ := Option.map_eq_some_iff.mp h
        show (optAll (datV n S') (renVs f xs)).map _ = _
        rw [renVs_map, optAll_congr (fun x hx y hy => ih x y (fun r hr => q r (refs_mem hr hx)) hy) h1]
        rfl
      · rename_i kvs hs
        obtain ⟨e, q⟩ := hA i hi _ hs fun c fs z => by cases z
        rw [e]
        split at h
        · rename_i ks vs h1 h2
          cases h
          show (match optAll (fun p => datV n S' p.1) (kvs.map fun p => (renV f p.1, renV f p.2)), optAll (fun p => datV n S' p.2) (kvs.map fun p => (renV f p.1, renV f p.2)) with | some ks, some vs => some (PyData.dict (ks.zip vs)) | _, _ => none) = _
          have a1 : optAll (fun p : Val × Val => datV n S' p.1) (kvs.map fun p => (renV f p.1, renV f p.2)) = some ks := optAll_congr (fun p hp y hy => ih p.1 y (fun r hr => q r (by
            unfold refsO
            exact List.mem_append_left _ (refs_mem hr (List.mem_map.mpr ⟨p, hp, rfl⟩)))) hy) h1
          have a2 : optAll (fun p : Val × Val => datV n S' p.2) (kvs.map fun p => (renV f p.1, renV f p.2)) = some vs := optAll_congr (fun p hp y hy => ih p.2 y (fun r hr => q r (by
            unfold refsO
            exact List.mem_append_right _ (refs_mem hr (List.mem_map.mpr ⟨p, hp, rfl⟩)))) hy) h2
          rw [a1, a2]
        · cases h
      · cases h
theorem dat_same {S S' : Sto} (A : Nat → Prop) (hA : ∀ r, A r → ∀ o, S[r]? = some o → (∀ c fs, o ≠ .ins c fs) → S'[r]? = some o ∧ ∀ q ∈ refsO o, A q) {n : Nat} {v : Val} {d : PyData} (hv : ∀ r ∈ refsV v, A r) (h : datV n S v = some d) : datV n S' v = some d := by
  have := dat_ren (f := id) (S := S) (S' := S') A (fun r hr o ho hi => by
    obtain ⟨h1, h2⟩ := hA r hr o ho hi
    have e : renO id o = o := renO_id fun r _ => rfl
    exact ⟨by rw [e]; exact h1, h2⟩) n v d hv h
  have e : renV id v = v := ren_same fun r _ => rfl
  rwa [e] at this
/-- more objects: the data stays -/
theorem dat_more {S S' : Sto} (hs : ∀ (i : Nat) (o : Ob), S[i]? = some o → S'[i]? = some o) {n : Nat} {v : Val} {d : PyData} (h : datV n S v = some d) : datV n S' v = some d :=
  dat_same (fun _ => True) (fun r _ o ho _ => ⟨hs r o ho, fun _ _ => trivial⟩) (fun _ _ => trivial) h
/-- what was hidden is not asked -/
theorem dat_unhide {S : Sto} {p : Nat} {n : Nat} {v : Val} {d : PyData} (h : datV n (S.set p (.ins 0 [])) v = some d) : datV n S v = some d :=
  dat_same (fun _ => True) (fun r _ o ho hi => ⟨by
    by_cases e : p = r
    · subst e
      have hl : p < S.length := by simpa using lt_of_get ho
      rw [List.getElem?_set_self hl] at ho
      exact absurd (Option.some.inj ho).symm (hi 0 [])
    · rwa [List.getElem?_set_ne e] at ho, fun _ _ => trivial⟩) (fun _ _ => trivial) h
/-- what the sweep finds, where all is flat -/
theorem reach_flat {S : Sto} {n : Nat} : ∀ (k : Nat) (todo acc : List Nat), todo.length ≤ k → acc.Nodup → (∀ r ∈ acc, n ≤ r) → (∀ r ∈ todo, r < n ∨ ∃ o, S[r]? = some o ∧ refsO o = []) →
    ∃ R, reach S n k todo acc = R ∧ R.Nodup ∧ (∀ r ∈ R, n ≤ r) ∧ (∀ r ∈ todo, r < n ∨ r ∈ R) ∧ (∀ r ∈ acc, r ∈ R) ∧ ∀ r ∈ R, r ∈ acc ∨ r ∈ todo
  | k, [], acc, _, hn, hl, _ => ⟨acc, by cases k <;> (unfold reach; rfl), hn, hl, by simp, fun r h => h, fun r h => .inl h⟩
  | 0, i :: todo, acc, hk, _, _, _ => by simp at hk
  | k + 1, i :: todo, acc, hk, hn, hl, ht => by
    unfold reach
    by_cases hi : i < n ∨ i ∈ acc
    · rw [if_pos hi]
      obtain ⟨R, e, h1, h2, h3, h4, h5⟩ := reach_flat k todo acc (by simpa using hk) hn hl fun r hr => ht r (List.mem_cons_of_mem _ hr)
      refine ⟨R, e, h1, h2, fun r hr => ?_, h4, fun r hr => ?_⟩
      · rcases List.mem_cons.mp hr with rfl | hr
        · exact hi.imp id (h4 r)
        · exact h3 r hr
      · rcases h5 r hr with h | h
        · exact .inl h
        · exact .inr (List.mem_cons_of_mem _ h)
    · rw [if_neg hi]
      obtain ⟨o, ho, hf⟩ := (ht i List.mem_cons_self).resolve_left fun h => hi (.inl h)
      rw [ho]
      simp only [hf, List.append_nil]
      have hin : n ≤ i := by
        have := fun h => hi (.inl h)
        omega
      obtain ⟨R, e, h1, h2, h3, h4, h5⟩ := reach_flat k todo (acc ++ [i]) (by simpa using hk) (List.nodup_append.mpr ⟨hn, by simp, fun a ha b hb e => by
        rw [List.mem_singleton.mp hb] at e
        exact hi (.inr (e ▸ ha))⟩) (fun r hr => by
        rcases List.mem_append.mp hr with hr | hr
        · exact hl r hr
        · rw [List.mem_singleton.mp hr]; exact hin) fun r hr => ht r (List.mem_cons_of_mem _ hr)
      refine ⟨R, e, h1, h2, fun r hr => ?_, fun r hr => h4 r (List.mem_append_left _ hr), fun r hr => ?_⟩
      · rcases List.mem_cons.mp hr with rfl | hr
        · exact .inr (h4 r (List.mem_append_right _ (by simp)))
        · exact h3 r hr
      · rcases h5 r hr with h | h
        · rcases List.mem_append.mp h with h | h
          · exact .inl h
          · rw [List.mem_singleton.mp h]; exact .inr List.mem_cons_self
        · exact .inr (List.mem_cons_of_mem _ h)
/-- a call's end, where the answer holds flat objects alone: the data stays -/
theorem gc_flat {S S1 : Sto} {v : Val} (hle : S.length ≤ S1.length) (hs : ∀ (i : Nat) (o : Ob), S[i]? = some o → ∃ o', S1[i]? = some o' ∧ (o' = o ∨ ∀ r ∈ refsO o', r < S.length))
    (hv : ∀ r ∈ refsV v, ∃ o, S1[r]? = some o ∧ o.mt ∧ refsO o = []) (hk : (refsV v).length ≤ 100000) :
    ∃ v' T, gcM S (.ok v S1) = .ok v' (S1.take S.length ++ T) ∧ ∀ (p : Nat) (X : Ob), p < S.length → refsO X = [] → ∀ n d, datV n (S1.set p X) v = some d → datV n ((S1.take S.length ++ T).set p X) v' = some d := by
  obtain ⟨R, e, h1, h2, h3, _, h5⟩ := reach_flat (S := S1) (n := S.length) 100000 (refsV v) [] hk List.nodup_nil (by simp) fun r hr => by
    obtain ⟨o, ho, _, hf⟩ := hv r hr
    exact .inr ⟨o, ho, hf⟩
  have ok : GcOk S S1 v (reach S1 S.length 100000 (refsV v) []) := by
    rw [e]
    refine ⟨hle, hs, fun i hi => ?_, h3, h1⟩
    obtain ⟨o, ho, hm, hf⟩ := hv i ((h5 i hi).resolve_left (by simp))
    exact ⟨h2 i hi, o, ho, hm, by rw [hf]; intro r hr; cases hr⟩
  refine ⟨renV (numOf S.length R) v, R.map fun i => renO (numOf S.length R) (S1[i]?.getD default), ?_, fun p X hp hX n d hd => ?_⟩
  · unfold gcM
    simp only
    rw [if_pos ok, e]
    rfl
  · refine dat_ren (fun r => r ∈ refsV v) (fun r hr o ho _ => ?_) n v d (fun r hr => hr) hd
    obtain ⟨o1, ho1, _, hf⟩ := hv r hr
    have hf' : refsO o = [] := by
      by_cases hpr : p = r
      · subst hpr
        rw [List.getElem?_set_self (lt_of_get ho1)] at ho
        rw [← Option.some.inj ho]; exact hX
      · rw [List.getElem?_set_ne hpr, ho1] at ho
        rw [← Option.some.inj ho]; exact hf
    have hid : ∀ g : Nat → Nat, renO g o = o := fun g => renO_id fun q hq => by rw [hf'] at hq; cases hq
    refine ⟨?_, by rw [hf']; intro q hq; cases hq⟩
    rw [hid]
    unfold numOf
    by_cases hrn : r < S.length
    · rw [if_pos hrn]
      by_cases hpr : p = r
      · subst hpr
        rw [List.getElem?_set_self (by simp; omega)]
        rw [List.getElem?_set_self (lt_of_get ho1)] at ho
        exact ho
      · rw [List.getElem?_set_ne hpr, List.getElem?_append_left (by simp; omega), List.getElem?_take_of_lt hrn]
        rw [List.getElem?_set_ne hpr] at ho
        exact ho
    · rw [if_neg hrn]
      have hrR : r ∈ R := (h3 r hr).resolve_left hrn
      have hpr : p ≠ r := by omega
      rw [List.getElem?_set_ne hpr] at ho
      have hx : R.idxOf r < R.length := List.idxOf_lt_length_iff.mpr hrR
      have hlt : (S1.take S.length).length = S.length := by simp; omega
      rw [List.getElem?_set_ne (by omega), List.getElem?_append_right (by omega), hlt, Nat.add_sub_cancel_left, List.getElem?_map, List.getElem?_eq_getElem hx]
      have hg : R[R.idxOf r] = r := List.getElem_idxOf hx
      rw [hg]
      simp only [Option.map_some, ho, Option.getD_some]
      rw [renO_id fun q hq => by rw [hf'] at hq; cases hq]
/-! pools -/
def PoolO (o : Ob) : Prop := ∃ a b : Int, o = .lst [.int a, .int b] ∧ 0 ≤ a ∧ 0 ≤ b ∧ b < 2147483647
def PoolAt (S : Sto) (p : Nat) : Prop := ∃ o, S[p]? = some o ∧ PoolO o
theorem PoolO.flat {o : Ob} (h : PoolO o) : refsO o = [] := by
  obtain ⟨a, b, rfl, _⟩ := h
  rfl
theorem PoolAt.lt {S : Sto} {p : Nat} (h : PoolAt S p) : p < S.length := by
  obtain ⟨o, ho, _⟩ := h
  exact lt_of_get ho
/-- one object changed: an answer of old addresses -/
theorem gc_bl {S S1 : Sto} {b : Bool} : ∃ S', gcM S (.ok (.bl b) S1) = .ok (.bl b) S' := by
  unfold gcM
  simp only
  split
  · exact ⟨_, by rw [show ∀ f, renV f (.bl b) = .bl b from fun f => by rw [renV]]⟩
  · exact ⟨_, rfl⟩
theorem gc_setV {S T : Sto} {p : Nat} {o : Ob} {v : Val} (hp : p < S.length) (hv : ∀ r ∈ refsV v, r < S.length) (ho : refsO o = []) (hk : (refsV v).length ≤ 100000) : gcM S (.ok v ((S ++ T).set p o)) = .ok v (S.set p o) := by
  have es : (S ++ T).set p o = S.set p o ++ T := by rw [List.set_append_left _ _ hp]
  have hr : reach ((S ++ T).set p o) S.length 100000 (refsV v) [] = [] := reach_old _ _ _ hv
  unfold gcM
  simp only [hr]
  rw [if_pos]
  · simp only [MP.gcS, List.map_nil, List.append_nil, es]
    rw [ren_same]
    · rw [List.take_left' (by simp)]
    intro r hr'
    unfold numOf
    rw [if_pos (hv r hr')]
  · refine ⟨by simp, fun i o' hi => ?_, fun i hi => (by rw [hr] at hi; cases hi), fun r hr' => .inl (hv r hr'), by rw [hr]; exact List.nodup_nil⟩
    rw [es]
    have hi' := lt_of_get hi
    by_cases e : p = i
    · subst e
      exact ⟨o, by rw [List.getElem?_append_left (by simpa using hp), List.getElem?_set_self hp], .inr (by rw [ho]; intro r hr; cases hr)⟩
    · exact ⟨o', by rw [List.getElem?_append_left (by simpa using hi'), List.getElem?_set_ne e]; exact hi, .inl rfl⟩
end MP
set_option linter.all false
set_option Elab.async false
/-! how long a datum is, written -/
namespace MP
open PySem
mutual
def cost : PyData → Nat
  | .none => 4
  | .bool _ => 5
  | .int i => (PyData.int i).shown.length
  | .str x => 10 * x.length + 2
  | .list xs => 2 + costs xs
  | .tuple xs => 3 + costs xs
  | .dict kvs => 2 + costKv kvs
def costs : List PyData → Nat
  | [] => 0
  | x :: xs => cost x + 2 + costs xs
def costKv : List (PyData × PyData) → Nat
  | [] => 0
  | (k, v) :: r => cost k + cost v + 4 + costKv r
end
mutual
/-- the signs are signs -/
def signsOk : PyData → Prop
  | .str x => ∀ c ∈ x.cps.toList, c < 16 ^ 8
  | .int i => i.natAbs.log2 < 1920
  | .list xs => signsOks xs
  | .tuple xs => signsOks xs
  | .dict kvs => signsOkKv kvs
  | _ => True
def signsOks : List PyData → Prop
  | [] => True
  | x :: xs => signsOk x ∧ signsOks xs
def signsOkKv : List (PyData × PyData) → Prop
  | [] => True
  | (k, v) :: r => signsOk k ∧ signsOk v ∧ signsOkKv r
end
theorem listText_le (ts : List Str) : (listText ts).length ≤ 2 + piled ts := by
  have e : (listText ts).length = (textFrom 0 "[" ts).length + 1 := by unfold listText; rw [strLen_append]; rfl
  cases ts with
  | nil => decide
  | cons t r =>
    have h := textFrom_length_pos r 1 (("[" : String) ++ (if 0 > 0 then ", " else "" : String) ++ t) (by decide)
    have e2 : textFrom 0 ("[" : String) (t :: r) = textFrom 1 (("[" : String) ++ (if 0 > 0 then ", " else "" : String) ++ t) r := rfl
    rw [e, e2, h, strLen_append, strLen_append, piled_cons]
    have : ((if 0 > 0 then ", " else "" : String) : Str).length = 0 := rfl
    have : (("[" : String) : Str).length = 1 := rfl
    omega
theorem join_le (ts : List Str) : (Str.join ", " ts).length ≤ piled ts := by
  cases ts with
  | nil => decide
  | cons t r => have := join_length_add (t :: r) (by simp); omega
theorem tupleText_le (ts : List Str) : (tupleText ts).length ≤ 3 + piled ts := by
  unfold tupleText
  rw [strLen_append, strLen_append]
  have := join_le ts
  have h1 : ((if ts.length == 1 then ",)" else ")" : String) : Str).length ≤ 2 := by split <;> decide
  have h2 : (("(" : String) : Str).length = 1 := rfl
  omega
theorem dictText_le (ts : List Str) : (dictText ts).length ≤ 2 + piled ts := by
  unfold dictText
  rw [strLen_append, strLen_append]
  have := join_le ts
  have h1 : (("}" : String) : Str).length = 1 := rfl
  have h2 : (("{" : String) : Str).length = 1 := rfl
  omega
mutual
theorem shown_le : ∀ d : PyData, signsOk d → d.shown.length ≤ cost d
  | .none, _ => by unfold PyData.shown cost; decide
  | .bool b, _ => by unfold PyData.shown cost; cases b <;> decide
  | .int i, _ => by unfold cost; exact Nat.le_refl _
  | .str x, h => by unfold PyData.shown cost; unfold signsOk at h; exact StrLaws.reprText_len x h
  | .list xs, h => by
    unfold PyData.shown cost
    unfold signsOk at h
    have := listText_le (PyData.shownAll xs)
    have := showns_le xs h
    omega
  | .tuple xs, h => by
    unfold PyData.shown cost
    unfold signsOk at h
    have := tupleText_le (PyData.shownAll xs)
    have := showns_le xs h
    omega
  | .dict kvs, h => by
    unfold PyData.shown cost
    unfold signsOk at h
    have := dictText_le (PyData.shownKv kvs)
    have := shownKv_le kvs h
    omega
theorem showns_le : ∀ xs : List PyData, signsOks xs → piled (PyData.shownAll xs) ≤ costs xs
  | [], _ => by unfold PyData.shownAll costs; exact Nat.le_refl _
  | x :: xs, h => by
    unfold PyData.shownAll costs
    unfold signsOks at h
    rw [piled_cons]
    have := shown_le x h.1
    have := showns_le xs h.2
    omega
theorem shownKv_le : ∀ xs : List (PyData × PyData), signsOkKv xs → piled (PyData.shownKv xs) ≤ costKv xs
  | [], _ => by unfold PyData.shownKv costKv; exact Nat.le_refl _
  | (k, v) :: xs, h => by
    unfold PyData.shownKv costKv
    unfold signsOkKv at h
    rw [piled_cons, strLen_append, strLen_append]
    have := shown_le k h.1
    have := shown_le v h.2.1
    have := shownKv_le xs h.2.2
    have h2 : ((": " : String) : Str).length = 2 := rfl
    omega
end
mutual
theorem showable_of : ∀ d : PyData, signsOk d → d.showable = true
  | .none, _ => by unfold PyData.showable; rfl
  | .bool b, _ => by unfold PyData.showable; rfl
  | .str x, _ => by unfold PyData.showable; rfl
  | .int i, h => by unfold PyData.showable; unfold signsOk at h; exact decide_eq_true h
  | .list xs, h => by unfold PyData.showable; unfold signsOk at h; exact showables_of xs h
  | .tuple xs, h => by unfold PyData.showable; unfold signsOk at h; exact showables_of xs h
  | .dict kvs, h => by unfold PyData.showable; unfold signsOk at h; exact showableKv_of kvs h
theorem showables_of : ∀ xs : List PyData, signsOks xs → PyData.showableAll xs = true
  | [], _ => by unfold PyData.showableAll; rfl
  | x :: xs, h => by
    unfold PyData.showableAll
    unfold signsOks at h
    rw [showable_of x h.1, showables_of xs h.2]; rfl
theorem showableKv_of : ∀ xs : List (PyData × PyData), signsOkKv xs → PyData.showableKv xs = true
  | [], _ => by unfold PyData.showableKv; rfl
  | (k, v) :: xs, h => by
    unfold PyData.showableKv
    unfold signsOkKv at h
    rw [showable_of k h.1, showable_of v h.2.1, showableKv_of xs h.2.2]; rfl
end
theorem signsOks_iff : ∀ {xs : List PyData}, signsOks xs ↔ ∀ x ∈ xs, signsOk x
  | [] => by unfold signsOks; simp
  | x :: xs => by unfold signsOks; rw [signsOks_iff]; simp
theorem costs_le {n : Nat} : ∀ {xs : List PyData}, (∀ x ∈ xs, cost x ≤ n) → costs xs ≤ (n + 2) * xs.length
  | [], _ => by unfold costs; simp
  | x :: xs, h => by
    unfold costs
    have h1 := h x List.mem_cons_self
    have h2 := costs_le fun y hy => h y (List.mem_cons_of_mem _ hy)
    rw [List.length_cons, Nat.mul_add]
    omega
/-- repr tells something -/
theorem repr_some {S : Sto} {v : Val} {d : PyData} (h : datV 60 S v = some d) (hs : signsOk d) (hc : cost d ≤ line) : ∃ t, reprV S v = some t := by
  refine ⟨d.shown.cps.toList, ?_⟩
  unfold reprV
  rw [h]
  show (if _ then _ else _) = _
  rw [if_pos ⟨showable_of d hs, Nat.le_trans (shown_le d hs) hc⟩]
end MP
set_option linter.all false
set_option Elab.async false
set_option maxRecDepth 100000
set_option maxHeartbeats 400000
namespace MP
open PySem
section
variable {φ : Nat → List Val → M Val} {W : Nat} {ρ : Env} {S : Sto}
noncomputable def whC (φ : Nat → List Val → M Val) (c : ME) : Env → M Bool := fun ρ => bnd (meanE φ c ρ) truV
noncomputable def whB (φ : Nat → List Val → M Val) (W : Nat) (b : List MS) : Env → M Fl := fun ρ => meanB φ W b ρ
theorem whC_ap {c : ME} : whC φ c ρ S = (meanE φ c ρ S).bind fun v S => (truV v S).bind fun k S => .ok k S := by
  unfold whC bnd
  cases meanE φ c ρ S with
  | ok a S =>
    show truV a S = (truV a S).bind _
    cases truV a S <;> rfl
  | exc c v S => rfl
  | bad => rfl
theorem whB_ap {b : List MS} : whB φ W b ρ S = (meanB φ W b ρ S).bind fun r S => .ok r S := by
  unfold whB
  cases meanB φ W b ρ S <;> rfl
theorem sWhl {c : ME} {b : List MS} : meanS φ W (.whl c b) ρ S = whlL (whC φ c) (whB φ W b) W ρ S := by rw [meanS]; rfl
@[simp ↓] theorem ksWhl {c : ME} {b : List MS} {β : Type} {kk : Fl → M β} : (meanS φ W (.whl c b) ρ S).bind kk = (whlL (whC φ c) (whB φ W b) W ρ S).bind kk := by
  rw [sWhl]
end
/-- a while loop, by what gets less -/
theorem whl_runs {c : Env → M Bool} {f : Env → M Fl} (I : Nat → Env → Sto → Prop) (Q : Fl → Sto → Prop)
    (h : ∀ m ρ S, I m ρ S → (∃ S', c ρ S = .ok false S' ∧ Q (.nx ρ) S') ∨ ∃ S1, c ρ S = .ok true S1 ∧ Runs (f ρ S1) fun r S' => match r with
      | .nx ρ' => ∃ m', m' < m ∧ I m' ρ' S'
      | .ct ρ' => ∃ m', m' < m ∧ I m' ρ' S'
      | .bk ρ' => Q (.nx ρ') S'
      | .rt v => Q (.rt v) S') : ∀ n m ρ S, m < n → I m ρ S → Runs (whlL c f n ρ S) Q
  | 0, m, ρ, S, hm, _ => by omega
  | n + 1, m, ρ, S, hm, i => by
    unfold whlL
    rcases h m ρ S i with ⟨S', e, q⟩ | ⟨S1, e, r, S2, e2, q⟩
    · simp only [bnd_ap, e, bind_ok]
      exact .mk q
    · simp only [bnd_ap, e, bind_ok, if_true, e2]
      cases r with
      | nx ρ' => obtain ⟨m', h1, h2⟩ := q; exact whl_runs I Q h n m' ρ' S2 (by omega) h2
      | ct ρ' => obtain ⟨m', h1, h2⟩ := q; exact whl_runs I Q h n m' ρ' S2 (by omega) h2
      | bk ρ' => exact .mk q
      | rt v => exact .mk q
/-- a for loop, by the number of the turn -/
theorem forL_from {gs : List (Nat × Ob)} {f : Val → Env → M Fl} (I : Nat → Env → Sto → Prop) (Q : Fl → Sto → Prop) (hs : ∀ i ρ S, I i ρ S → stays gs S) : ∀ {xs : List Val} {i : Nat} {ρ : Env} {S : Sto},
    (∀ j x ρ S, xs[j]? = some x → I (i + j) ρ S → Runs (f x ρ S) fun r S' => match r with
      | .nx ρ' => I (i + j + 1) ρ' S'
      | .ct ρ' => I (i + j + 1) ρ' S'
      | .bk ρ' => Q (.nx ρ') S'
      | .rt v => Q (.rt v) S') → (∀ ρ S, I (i + xs.length) ρ S → Q (.nx ρ) S) → I i ρ S → Runs (forL gs f xs ρ S) Q
  | [], i, ρ, S, _, he, h => by
    unfold forL
    rw [if_pos (hs i ρ S h)]
    exact .mk (he ρ S h)
  | x :: xs, i, ρ, S, st, he, h => by
    unfold forL
    rw [if_pos (hs i ρ S h)]
    obtain ⟨r, S1, e, q⟩ := st 0 x ρ S rfl h
    rw [e]
    simp only [bind_ok]
    have more : ∀ ρ' S', I (i + 1) ρ' S' → Runs (forL gs f xs ρ' S') Q := fun ρ' S' h' =>
      forL_from I Q hs (i := i + 1) (fun j x ρ S hx hi => by
        have := st (j + 1) x ρ S (by simpa using hx) (by rw [show i + (j + 1) = i + 1 + j from by omega]; exact hi)
        rw [show i + (j + 1) = i + 1 + j from by omega] at this
        exact this) (fun ρ S hi => he ρ S (by rw [show i + (x :: xs).length = i + 1 + xs.length from by simp; omega]; exact hi)) h'
    cases r with
    | nx ρ' => exact more ρ' S1 q
    | ct ρ' => exact more ρ' S1 q
    | bk ρ' => exact .mk q
    | rt v => exact .mk q
theorem forL_ix {gs : List (Nat × Ob)} {f : Val → Env → M Fl} (I : Nat → Env → Sto → Prop) (Q : Fl → Sto → Prop) (hs : ∀ i ρ S, I i ρ S → stays gs S) {xs : List Val} {ρ : Env} {S : Sto}
    (st : ∀ j x ρ S, xs[j]? = some x → I j ρ S → Runs (f x ρ S) fun r S' => match r with
      | .nx ρ' => I (j + 1) ρ' S'
      | .ct ρ' => I (j + 1) ρ' S'
      | .bk ρ' => Q (.nx ρ') S'
      | .rt v => Q (.rt v) S') (he : ∀ ρ S, I xs.length ρ S → Q (.nx ρ) S) (h : I 0 ρ S) : Runs (forL gs f xs ρ S) Q :=
  forL_from I Q hs (i := 0) (fun j x ρ S hx hi => by
    rw [Nat.zero_add] at hi ⊢
    exact st j x ρ S hx hi) (fun ρ S hi => he ρ S (by rwa [Nat.zero_add] at hi)) h
theorem compL_from {gs : List (Nat × Ob)} {f : Val → M (Option Val)} (I : Nat → List Val → Sto → Prop) (hs : ∀ i ys S, I i ys S → stays gs S) : ∀ {xs : List Val} {i : Nat} {ys : List Val} {S : Sto},
    (∀ j x ys S, xs[j]? = some x → I (i + j) ys S → Runs (f x S) fun o S' => I (i + j + 1) (match o with | some y => ys ++ [y] | none => ys) S') → I i ys S → Runs (compL gs f xs S) fun zs S' => I (i + xs.length) (ys ++ zs) S'
  | [], i, ys, S, _, h => by
    unfold compL
    rw [if_pos (hs i ys S h)]
    exact .mk (by simpa using h)
  | x :: xs, i, ys, S, st, h => by
    unfold compL
    rw [if_pos (hs i ys S h)]
    obtain ⟨o, S1, e, q⟩ := st 0 x ys S rfl h
    rw [e]
    simp only [bind_ok, bnd_ap]
    obtain ⟨zs, S2, e2, i2⟩ := compL_from I hs (i := i + 1) (xs := xs) (fun j x ys S hx hi => by
        have := st (j + 1) x ys S (by simpa using hx) (by rw [show i + (j + 1) = i + 1 + j from by omega]; exact hi)
        rw [show i + (j + 1) = i + 1 + j from by omega] at this
        exact this) q
    rw [e2]
    rw [show i + 1 + xs.length = i + (x :: xs).length from by simp; omega] at i2
    cases o with
    | none => exact .mk (by simpa using i2)
    | some y => exact .mk (by simpa using i2)
/-- a comprehension, by the number of the turn -/
theorem compL_ix {gs : List (Nat × Ob)} {f : Val → M (Option Val)} (I : Nat → List Val → Sto → Prop) (hs : ∀ i ys S, I i ys S → stays gs S) {xs : List Val} {S : Sto}
    (st : ∀ j x ys S, xs[j]? = some x → I j ys S → Runs (f x S) fun o S' => I (j + 1) (match o with | some y => ys ++ [y] | none => ys) S') (h : I 0 [] S) : Runs (compL gs f xs S) fun zs S' => I xs.length zs S' := by
  have := compL_from I hs (i := 0) (xs := xs) (ys := []) (S := S) (fun j x ys S hx hi => by
    rw [Nat.zero_add] at hi ⊢
    exact st j x ys S hx hi) h
  refine this.mono fun zs S' h => ?_
  rw [Nat.zero_add, List.nil_append] at h
  exact h
end MP
set_option linter.all false
set_option Elab.async false
set_option maxRecDepth 100000
set_option maxHeartbeats 400000
namespace MP
open PySem
/-! dicts of texts -/
theorem keyD_str {x : Tx} : keyD (.str x) = some (.text (stx x)) := by
  unfold keyD keyV
  simp only
  rw [if_pos]
  unfold NestedKey.depth
  omega
theorem keyV_str {x : Tx} : keyV (.str x) = some (.text (stx x)) := by unfold keyV; rfl
theorem stx_eq {x y : Tx} : stx x = stx y ↔ x = y := ⟨fun h => by
  have := congrArg (fun s : Str => s.cps.toList) h
  simpa [stx] using this, fun h => by rw [h]⟩
section
variable {β : Type}
def webK (f : β → Val) (w : List (Tx × β)) : List (Val × Val) := w.map fun p => (.str p.1, f p.2)
def look (w : List (Tx × β)) (n : Tx) : Option β := (w.find? fun p => decide (p.1 = n)).map (·.2)
def putW (w : List (Tx × β)) (n : Tx) (v : β) : List (Tx × β) := if w.any fun p => decide (p.1 = n) then w.map fun p => if p.1 = n then (p.1, v) else p else w ++ [(n, v)]
theorem key_is {x n : Tx} : keyV (.str x) = some (NestedKey.text (stx n)) ↔ x = n := by
  rw [keyV_str]
  constructor
  · intro h
    exact stx_eq.mp (NestedKey.text.inj (Option.some.inj h))
  · intro h; rw [h]
theorem atK_web {f : β → Val} {w : List (Tx × β)} {n : Tx} : atK (webK f w) (.text (stx n)) = (look w n).map f := by
  unfold atK webK look
  induction w with
  | nil => rfl
  | cons p w ih =>
    rw [List.map_cons, List.find?_cons, List.find?_cons]
    by_cases h : p.1 = n
    · simp [key_is, h]
    · have h1 : decide (keyV (Val.str p.1) = some (NestedKey.text (stx n))) = false := decide_eq_false (fun q => h (key_is.mp q))
      have h2 : decide (p.1 = n) = false := decide_eq_false h
      simp only [h1, h2]
      exact ih
@[simp] theorem at_web {f : β → Val} {w : List (Tx × β)} {n : Tx} : (keyD (.str n)).bind (atK (webK f w)) = (look w n).map f := by
  rw [keyD_str]; exact atK_web
theorem putK_web {f : β → Val} {w : List (Tx × β)} {n : Tx} {v : β} : putK (webK f w) (.text (stx n)) (.str n) (f v) = webK f (putW w n v) := by
  unfold putK putW
  have e : ((webK f w).any fun p => decide (keyV p.1 = some (NestedKey.text (stx n)))) = w.any fun p => decide (p.1 = n) := by
    unfold webK
    rw [List.any_map]
    congr 1
    funext p
    simp [key_is]
  rw [e]
  split
  · unfold webK
    rw [List.map_map, List.map_map]
    refine List.map_congr_left fun p _ => ?_
    by_cases h : p.1 = n <;> simp [key_is, h]
  · unfold webK; simp
theorem webK_len {f : β → Val} {w : List (Tx × β)} : (webK f w).length = w.length := by unfold webK; simp
theorem web_keys {f : β → Val} {w : List (Tx × β)} : ((webK f w).map fun p => p.1) = (w.map fun p => p.1).map Val.str := by unfold webK; simp
theorem look_mem {w : List (Tx × β)} {n : Tx} {v : β} (h : look w n = some v) : (n, v) ∈ w := by
  unfold look at h
  obtain ⟨p, hp, rfl⟩ := Option.map_eq_some_iff.mp h
  have h1 := List.find?_some hp
  simp at h1
  have := List.mem_of_find?_eq_some hp
  rw [← h1]; exact this
theorem look_some {w : List (Tx × β)} {n : Tx} (h : n ∈ w.map (·.1)) : ∃ v, look w n = some v := by
  obtain ⟨p, hp, rfl⟩ := List.mem_map.mp h
  unfold look
  cases e : w.find? fun q => decide (q.1 = p.1) with
  | none =>
    have := List.find?_eq_none.mp e p hp
    simp at this
  | some q => exact ⟨q.2, rfl⟩
theorem putW_keys {w : List (Tx × β)} {n : Tx} {v : β} : (putW w n v).map (·.1) = if n ∈ w.map (·.1) then w.map (·.1) else w.map (·.1) ++ [n] := by
  unfold putW
  by_cases h : n ∈ w.map (·.1)
  · have : (w.any fun p => decide (p.1 = n)) = true := by
      obtain ⟨p, hp, e⟩ := List.mem_map.mp h
      exact List.any_eq_true.mpr ⟨p, hp, by simpa using e⟩
    rw [this, if_pos rfl, if_pos h, List.map_map]
    refine List.map_congr_left fun p _ => ?_
    simp only [Function.comp]
    split <;> rfl
  · have : ¬ (w.any fun p => decide (p.1 = n)) = true := fun q => by
      obtain ⟨p, hp, e⟩ := List.any_eq_true.mp q
      exact h (List.mem_map.mpr ⟨p, hp, by simpa using e⟩)
    rw [if_neg this, if_neg h]
    simp
theorem putW_mem {w : List (Tx × β)} {n : Tx} {v : β} {p : Tx × β} (h : p ∈ putW w n v) : p ∈ w ∨ p = (n, v) := by
  unfold putW at h
  split at h
  · obtain ⟨q, hq, e⟩ := List.mem_map.mp h
    split at e
    · rename_i hn; right; rw [← e, hn]
    · left; rw [← e]; exact hq
  · rcases List.mem_append.mp h with h | h
    · exact .inl h
    · exact .inr (List.mem_singleton.mp h)
theorem putW_len {w : List (Tx × β)} {n : Tx} {v : β} : (putW w n v).length ≤ w.length + 1 := by
  unfold putW
  split <;> simp
end
/-! places -/
@[simp] theorem at0 {α : Type} {x : α} {xs : List α} : L2.atI (x :: xs) 0 = some x := by
  show L2.atI (x :: xs) ((0 : Nat) : Int) = _
  rw [atI_nat (by simp)]; rfl
@[simp] theorem at1 {α : Type} {x y : α} {xs : List α} : L2.atI (x :: y :: xs) 1 = some y := by
  show L2.atI (x :: y :: xs) ((1 : Nat) : Int) = _
  rw [atI_nat (by simp)]; rfl
@[simp] theorem at2 {α : Type} {x y z : α} {xs : List α} : L2.atI (x :: y :: z :: xs) 2 = some z := by
  show L2.atI (x :: y :: z :: xs) ((2 : Nat) : Int) = _
  rw [atI_nat (by simp)]; rfl
@[simp] theorem ix20 : L2.ixN 2 0 = some 0 := rfl
@[simp] theorem ix21 : L2.ixN 2 1 = some 1 := rfl
theorem atI_some {α : Type} {x : List α} {j : Nat} {a : α} (h : x[j]? = some a) : L2.atI x (j : Int) = some a := by
  rw [atI_nat (List.getElem?_eq_some_iff.mp h).1]; exact h
theorem cut_two {α : Type} (x : List α) (k : Nat) : cutL x (some (k : Int)) (some ((k : Int) + 1)) = (x.drop k).take 1 := by
  unfold cutL
  rw [HT.sIx_nat, show ((k : Int) + 1) = ((k + 1 : Nat) : Int) from by omega, HT.sIx_nat]
  by_cases h : k < x.length
  · rw [Nat.min_eq_left (by omega), Nat.min_eq_left (by omega), show k + 1 - k = 1 from by omega]
  · rw [Nat.min_eq_right (by omega), List.drop_of_length_le (by omega), List.drop_of_length_le (by omega)]; simp
theorem lt_one {a b : Nat} : ([a] < [b]) ↔ a < b := by
  rw [List.cons_lt_cons_iff]
  simp
theorem cell_of (ns : List Int) (k : Nat) : ∃ c : Int, L2.atI (cutL (ns.map Val.int) (some (k : Int)) (some ((k : Int) + 1)) ++ [.int 0]) 0 = some (.int c) := by
  rw [cut_two, ← List.map_drop, ← List.map_take]
  cases h : (ns.drop k).take 1 with
  | nil => exact ⟨0, by simp⟩
  | cons c r => exact ⟨c, by simp⟩
theorem poolApp {S T : Sto} {p : Nat} (h : PoolAt S p) : PoolAt (S ++ T) p := by
  obtain ⟨o, h1, h2⟩ := h
  exact ⟨o, by rw [List.getElem?_append_left (lt_of_get h1)]; exact h1, h2⟩
theorem poolSet {S : Sto} {p : Nat} {o : Ob} (h : p < S.length) (ho : PoolO o) : PoolAt (S.set p o) p := ⟨o, List.getElem?_set_self h, ho⟩
/-! methods -/
theorem joins0 : ∀ ts : List Tx, (PySem.Str.join (stx []) (ts.map stx)).cps.toList = ts.flatten
  | [] => rfl
  | [x] => by simp [PySem.Str.join, stx]
  | x :: y :: ts => by
    have ih := joins0 (y :: ts)
    show (stx x ++ stx [] ++ PySem.Str.join (stx []) ((y :: ts).map stx)).cps.toList = _
    have e : ∀ a b : PySem.Str, (a ++ b).cps.toList = a.cps.toList ++ b.cps.toList := fun a b => by
      show (a.cps ++ b.cps).toList = _
      simp
    rw [e, e, ih]
    simp [stx]
theorem joins (ts : List Tx) : (PySem.Txt.join (stx []) (ts.map stx)).cps.toList = ts.flatten := by
  have : PySem.Txt.join (stx []) (ts.map stx) = PySem.Str.join (stx []) (ts.map stx) := by
    show PySem.Builtin.Str.glued (stx []) (ts.map stx) = _
    rw [PySem.StrLaws.glued_eq_join]
  rw [this, joins0]
@[simp] theorem f_maxN {S : Sto} {i j : Nat} : bltV .max2 [.int (i : Nat), .int (j : Nat)] S = .ok (.int (max i j : Nat)) S := by
  rw [f_max]; congr; split <;> omega
@[simp] theorem f_minN {S : Sto} {i j : Nat} : bltV .min2 [.int (i : Nat), .int (j : Nat)] S = .ok (.int (min i j : Nat)) S := by
  rw [f_min]; congr; split <;> omega
@[simp] theorem f_minNL {S : Sto} {i n : Nat} : bltV .min2 [.int (i : Nat), .int (OfNat.ofNat n)] S = .ok (.int ((min i (OfNat.ofNat n) : Nat) : Int)) S := f_minN (j := n)
@[simp] theorem f_maxNL {S : Sto} {i n : Nat} : bltV .max2 [.int (i : Nat), .int (OfNat.ofNat n)] S = .ok (.int ((max i (OfNat.ofNat n) : Nat) : Int)) S := f_maxN (j := n)
@[simp] theorem f_minLN {S : Sto} {i n : Nat} : bltV .min2 [.int (OfNat.ofNat n), .int (i : Nat)] S = .ok (.int ((min (OfNat.ofNat n) i : Nat) : Int)) S := f_minN (i := n)
@[simp] theorem f_maxLN {S : Sto} {i n : Nat} : bltV .max2 [.int (OfNat.ofNat n), .int (i : Nat)] S = .ok (.int ((max (OfNat.ofNat n) i : Nat) : Int)) S := f_maxN (i := n)
theorem rngS {S : Sto} {n : Nat} (h : n < 1000000000) : rngV (.int ((n : Int) + 1)) S = .ok ⟨[], (List.range (n + 1)).map fun (k : Nat) => Val.int (k : Int), none⟩ S := by
  rw [rngV_int (by omega)]; congr
theorem rngN {S : Sto} {n : Nat} (h : n < 1000000000) : rngV (.int (n : Int)) S = .ok ⟨[], (List.range n).map fun (k : Nat) => Val.int (k : Int), none⟩ S := by
  rw [rngV_int (by omega)]; congr
theorem m_join {S : Sto} {i : Nat} {xs : List Tx} (h : S[i]? = some (.lst (xs.map Val.str))) (hl : (xs.map List.length).sum ≤ line) : mtdV .str .join (.str []) [.ref i] S = .ok (.str xs.flatten) S := by
  unfold mtdV
  simp only [seqV_ref, h, seqO_lst, Option.bind_some]
  rw [optAll_map (f := strOf) (g := Val.str) (h := fun x => x) (fun a => rfl)]
  simp only [List.map_id_fun', id_eq, List.length_nil, Nat.mul_zero, Nat.add_zero]
  rw [if_pos (show _ ≤ 16777216 from hl), joins]
theorem m_pop {S : Sto} {a i : Nat} {xs : List Val} {y : Val} (h : S[a]? = some (.lst xs)) (hy : xs[i]? = some y) (hi : xs.length < 1000000) : mtdV .lst .pop (.ref a) [.int i] S = .ok y (S.set a (.lst (xs.eraseIdx i))) := by
  have hlt := (List.getElem?_eq_some_iff.mp hy).1
  unfold mtdV
  simp only [h]
  rw [if_pos (by constructor <;> omega)]
  have e : PySem.seqIndex? (i : Int) xs.length = some i := by
    unfold PySem.seqIndex?
    have : ¬ ((i : Int) < 0) := by omega
    have h2 : (i : Int) < (xs.length : Int) := by omega
    simp [this, h2]
  rw [e]
  simp only [hy]
section
variable {φ : Nat → List Val → M Val} {ρ : Env} {S : Sto}
@[simp ↓] theorem keCalk {f : Nat} {as : List ME} {ps : List Nat} {β : Type} {kk : Val → M β} : (meanE φ (.calk f as ps) ρ S).bind kk = (meanL φ as ρ S).bind fun xs S => (φ f (ps.map fun i => xs.getD i .non) S).bind kk := by
  have : meanE φ (.calk f as ps) ρ S = (meanL φ as ρ S).bind fun xs S => φ f (ps.map fun i => xs.getD i .non) S := by rw [meanE]; rfl
  rw [this]
  cases meanL φ as ρ S <;> rfl
@[simp] theorem ixO_fdc {kvs : List (Val × Val)} {i : Val} : ixO i (some (.fdc kvs)) S = itR ((keyD i).bind (atK kvs)) S := Eq.trans rfl rfl
theorem atI_last {α : Type} {xs : List α} {x : α} : L2.atI (xs ++ [x]) (-1) = some x := by
  have e : L2.ixN (xs ++ [x]).length (-1) = some xs.length := by
    unfold L2.ixN
    simp
    try omega
  unfold L2.atI
  rw [e]
  simp
@[simp] theorem eqs_nil {f : Val × Val → Option Bool} {xs : List Val} : eqs f xs [] = some (decide (xs = [])) := by
  unfold eqs
  cases xs with
  | nil => rfl
  | cons x xs => simp [optAll]
@[simp] theorem eqs_two {f : Val × Val → Option Bool} {a b c d : Val} {p q : Bool} (h1 : f (a, c) = some p) (h2 : f (b, d) = some q) : eqs f [a, b] [c, d] = some (p && q) := by
  unfold eqs
  simp [optAll, h1, h2]
theorem reprV_bl {b : Bool} : ∃ t, ∀ S : Sto, reprV S (.bl b) = some t := by
  obtain ⟨t, h⟩ := repr_some (S := []) (v := .bl b) (d := .bool b) (by unfold datV; rfl) (by unfold signsOk; trivial) (by unfold cost; decide)
  refine ⟨t, fun S => ?_⟩
  rw [← h]
  unfold reprV datV
  rfl
/-- a dict of texts, as data -/
theorem dat_web {w : List (Tx × Tx)} {i n : Nat} (h : S[i]? = some (.dct (webK Val.str w))) : datV (n + 2) S (.ref i) = some (.dict (w.map fun p => (PyData.str (stx p.1), PyData.str (stx p.2)))) := by
  have e : ∀ x : Tx, datV (n + 1) S (.str x) = some (.str (stx x)) := fun x => by unfold datV; rfl
  unfold datV
  simp only [h]
  unfold webK
  rw [optAll_map (f := fun p : Val × Val => datV (n + 1) S p.1) (h := fun p : Tx × Tx => PyData.str (stx p.1)) (fun p => e _), optAll_map (f := fun p : Val × Val => datV (n + 1) S p.2) (h := fun p : Tx × Tx => PyData.str (stx p.2)) (fun p => e _)]
  simp only
  congr 1
  congr 1
  clear h
  induction w with
  | nil => rfl
  | cons p w ih => simp [ih]
theorem web_fine {w : List (Tx × Tx)} {m : Nat} (h : ∀ p ∈ w, (p.1.length ≤ m ∧ ∀ c ∈ p.1, c < 200) ∧ p.2.length ≤ m ∧ ∀ c ∈ p.2, c < 200) : signsOkKv (w.map fun p => (PyData.str (stx p.1), PyData.str (stx p.2))) ∧ costKv (w.map fun p => (PyData.str (stx p.1), PyData.str (stx p.2))) ≤ (20 * m + 8) * w.length := by
  have h16 : (200 : Nat) < 16 ^ 8 := by decide
  have one : ∀ x : Tx, (∀ c ∈ x, c < 200) → signsOk (.str (stx x)) := fun x hx => by
    unfold signsOk
    intro c hc
    have : c ∈ x := by simpa [stx] using hc
    have := hx c this
    omega
  have two : ∀ x : Tx, cost (.str (stx x)) = 10 * x.length + 2 := fun x => by
    unfold cost
    simp [stx, Str.length]
  induction w with
  | nil => exact ⟨by unfold signsOkKv; trivial, by unfold costKv; simp⟩
  | cons p w ih =>
    obtain ⟨i1, i2⟩ := ih fun q hq => h q (List.mem_cons_of_mem _ hq)
    obtain ⟨⟨h1, h2⟩, h3, h4⟩ := h p List.mem_cons_self
    rw [List.map_cons]
    refine ⟨?_, ?_⟩
    · unfold signsOkKv
      exact ⟨one _ h2, one _ h4, i1⟩
    · unfold costKv
      rw [two, two, List.length_cons, Nat.mul_add]
      omega
/-- a dict of texts can be shown, and is shown alike wherever it stands -/
theorem repr_web {w : List (Tx × Tx)} {m : Nat} (h : ∀ p ∈ w, (p.1.length ≤ m ∧ ∀ c ∈ p.1, c < 200) ∧ p.2.length ≤ m ∧ ∀ c ∈ p.2, c < 200) (hm : (20 * m + 8) * w.length + 2 ≤ line) : ∃ t, ∀ (S : Sto) (i : Nat), S[i]? = some (.dct (webK Val.str w)) → reprV S (.ref i) = some t := by
  obtain ⟨h1, h2⟩ := web_fine h
  obtain ⟨t, ht⟩ := repr_some (S := [.dct (webK Val.str w)]) (v := .ref 0) (dat_web (n := 58) rfl) (by unfold signsOk; exact h1) (by unfold cost; omega)
  refine ⟨t, fun S i hi => ?_⟩
  rw [← ht]
  unfold reprV
  rw [dat_web (n := 58) hi, dat_web (n := 58) (S := [.dct (webK Val.str w)]) (i := 0) rfl]
end
end MP
set_option linter.all false
set_option Elab.async false
set_option maxRecDepth 100000
set_option maxHeartbeats 400000
namespace MP
open PySem
section
variable {φ : Nat → List Val → M Val} {ρ : Env} {S : Sto}
/-- one turn of a comprehension of two sources -/
noncomputable def lcG (φ : Nat → List Val → M Val) (elt : ME) (tg : Tg) (cs : List ME) (tg1 : Tg) (it1 : IT) (cs1 : List ME) (ρ : Env) (x : Val) : M (List Val) := fun S =>
  (tgV tg x (wipeE ρ (slotsT tg1)) S).bind fun ρ' S => (meanC φ cs ρ' S).bind fun k S => if k = true then (meanI φ it1 ρ' S).bind fun p1 S => if p1.th.isSome = true then .bad else compL p1.gs (lcF φ elt tg1 cs1 ρ') p1.xs S else .ok [] S
theorem lcG_ap {elt : ME} {tg : Tg} {cs : List ME} {tg1 : Tg} {it1 : IT} {cs1 : List ME} {x : Val} : lcG φ elt tg cs tg1 it1 cs1 ρ x S = (tgV tg x (wipeE ρ (slotsT tg1)) S).bind fun ρ' S => (meanC φ cs ρ' S).bind fun k S => if k = true then (meanI φ it1 ρ' S).bind fun p1 S => if p1.th.isSome = true then .bad else compL p1.gs (lcF φ elt tg1 cs1 ρ') p1.xs S else .ok [] S := rfl
theorem eLc2 {elt : ME} {tg : Tg} {it : IT} {cs : List ME} {tg1 : Tg} {it1 : IT} {cs1 : List ME} : meanE φ (.lc2 elt tg it cs tg1 it1 cs1) ρ S = (meanI φ it ρ S).bind fun p S => (compL2 p.gs (lcG φ elt tg cs tg1 it1 cs1 ρ) p.xs S).bind fun ys S => (thaw p.th S).bind fun _ S => lstR ys S := by
  rw [meanE]; unfold bnd; congr; funext p S
  have e1 : ∀ ρ', (fun y => fun S => (tgV tg1 y ρ' S).bind fun ρ2 => fun S => (meanC φ cs1 ρ2 S).bind fun k => if k = true then fun S => (meanE φ elt ρ2 S).bind fun z => ret (some z) else ret none) = lcF φ elt tg1 cs1 ρ' := fun ρ' => by
    funext x S; unfold lcF; congr; funext ρ2 S; congr; funext k S; cases k <;> rfl
  simp only [e1]
  have e : (fun x => fun S => (tgV tg x (wipeE ρ (slotsT tg1)) S).bind fun ρ' => fun S => (meanC φ cs ρ' S).bind fun k => if k = true then fun S => (meanI φ it1 ρ' S).bind fun p1 => if p1.th.isSome = true then stop else compL p1.gs (lcF φ elt tg1 cs1 ρ') p1.xs else ret []) = lcG φ elt tg cs tg1 it1 cs1 ρ := by
    funext x S; unfold lcG; congr; funext ρ' S; congr; funext k S
    cases k with
    | true =>
      simp only [if_true]
      congr; funext p1 S
      cases p1.th.isSome <;> rfl
    | false => rfl
  rw [e]; rfl
@[simp ↓] theorem keLc2 {elt : ME} {tg : Tg} {it : IT} {cs : List ME} {tg1 : Tg} {it1 : IT} {cs1 : List ME} {β : Type} {kk : Val → M β} : (meanE φ (.lc2 elt tg it cs tg1 it1 cs1) ρ S).bind kk = (meanI φ it ρ S).bind fun p S => (compL2 p.gs (lcG φ elt tg cs tg1 it1 cs1 ρ) p.xs S).bind fun ys S => (thaw p.th S).bind fun _ S => (lstR ys S).bind kk := by
  rw [eLc2]
  all_goals simp only [bind_bind, bind_ok, ite_bind]
end
/-- a comprehension of two sources over items of a kind, the store as it was -/
theorem compL2_map {gs : List (Nat × Ob)} {f : Val → M (List Val)} {α : Type} {k : α → Val} {g : α → List Val} {S : Sto} (hs : stays gs S) : ∀ {xs : List α}, (∀ x ∈ xs, f (k x) S = .ok (g x) S) → compL2 gs f (xs.map k) S = .ok (xs.flatMap g) S
  | [], _ => by show compL2 gs f [] S = _; unfold compL2; rw [if_pos hs]; rfl
  | x :: xs, h => by
    show compL2 gs f (k x :: xs.map k) S = _
    unfold compL2
    rw [if_pos hs, h x List.mem_cons_self]
    simp only [bind_ok, bnd_ap]
    rw [compL2_map hs fun y hy => h y (List.mem_cons_of_mem _ hy)]
    simp
def rngV3 (x y z : Val) : M Wk := fun S => match x, y, z with
  | .int m, .int n, .int s => if s = -1 ∧ -(2 ^ 62) ≤ n ∧ n < 2 ^ 62 ∧ -(2 ^ 62) ≤ m ∧ m < 2 ^ 62 then .ok ⟨[], (List.range (m - n).toNat).map fun (k : Nat) => Val.int (m - (k : Int)), none⟩ S else .bad
  | _, _, _ => .bad
@[simp] theorem rngV3_int {m n : Int} {S : Sto} (h : -(2 ^ 62) ≤ n ∧ n < 2 ^ 62 ∧ -(2 ^ 62) ≤ m ∧ m < 2 ^ 62) : rngV3 (.int m) (.int n) (.int (-1)) S = .ok ⟨[], (List.range (m - n).toNat).map fun (k : Nat) => Val.int (m - (k : Int)), none⟩ S := if_pos ⟨rfl, h⟩
section
variable {φ : Nat → List Val → M Val} {ρ : Env} {S : Sto}
theorem iRng3 {a b c : ME} : meanI φ (.rng3 a b c) ρ S = (meanE φ a ρ S).bind fun x S => (meanE φ b ρ S).bind fun y S => (meanE φ c ρ S).bind fun z S => rngV3 x y z S := by rw [meanI]; rfl
@[simp ↓] theorem kiRng3 {a b c : ME} {β : Type} {kk : Wk → M β} : (meanI φ (.rng3 a b c) ρ S).bind kk = (meanE φ a ρ S).bind fun x S => (meanE φ b ρ S).bind fun y S => (meanE φ c ρ S).bind fun z S => (rngV3 x y z S).bind kk := by
  rw [iRng3]
  all_goals simp only [bind_bind, bind_ok, ite_bind]
end
end MP
set_option linter.all false
set_option Elab.async false
set_option maxRecDepth 100000
set_option maxHeartbeats 400000
/-! dict(..), views as arguments, dicts with any keys -/
namespace MP
open PySem
variable {S : Sto}
def dictR (S0 : Sto) (d : Option (List (Val × Val))) (o : Option (List Val)) : M Val := fun S => match d with
  | some kvs => if (kvs.all fun p => (strOf p.1).isSome) = true then .ok (.ref S.length) (S ++ [.dct kvs]) else .bad
  | none => match o.bind (prsV S0) with
    | some ps => .ok (.ref S.length) (S ++ [.dct (ps.foldl (fun kvs p => putK kvs p.1 p.2.1 p.2.2) [])])
    | none => .bad
@[simp] theorem f_dict {i : Nat} : bltV .dict [.ref i] S = dictR S (dctO' S[i]?) (seqO S[i]?) S := by
  unfold bltV dictR
  simp only [dctV_ref, seqV_ref]
  all_goals (cases dctO' S[i]? <;> first | rfl | (cases (seqO S[i]?).bind (prsV S) <;> rfl))
theorem web_all {β : Type} {f : β → Val} {w : List (Tx × β)} : ((webK f w).all fun p => (strOf p.1).isSome) = true := by
  unfold webK
  simp [List.all_map, strOf]
@[simp] theorem dictR_web {β : Type} {f : β → Val} {w : List (Tx × β)} {S0 : Sto} {o : Option (List Val)} : dictR S0 (some (webK f w)) o S = .ok (.ref S.length) (S ++ [.dct (webK f w)]) := if_pos web_all
theorem prs_map {α : Type} {S0 : Sto} {k v : α → Val} {n : α → NestedKey} (h : ∀ a, keyD (k a) = some (n a)) : ∀ xs : List α, prsV S0 (xs.map fun a => .tup [k a, v a]) = some (xs.map fun a => (n a, k a, v a)) := fun xs => by
  unfold prsV
  refine optAll_map (h := fun a => (n a, k a, v a)) (fun a => ?_) xs
  simp [h a]
theorem dictR_prs {α : Type} {S0 : Sto} {k v : α → Val} {n : α → NestedKey} {xs : List α} (h : ∀ a, keyD (k a) = some (n a)) : dictR S0 none (some (xs.map fun a => .tup [k a, v a])) S = .ok (.ref S.length) (S ++ [.dct (xs.foldl (fun kvs a => putK kvs (n a) (k a) (v a)) [])]) := by
  unfold dictR
  rw [Option.bind_some, prs_map h]
  simp only [List.foldl_map]
def vwlR (d : Option (List (Val × Val))) : M Val := fun S => match d with
  | some kvs => if (kvs.all fun p => (strOf p.1).isSome) = true then .ok (.ref S.length) (S ++ [.lst (kvs.map fun p => .tup [p.1, p.2])]) else .bad
  | none => .bad
@[simp] theorem vw_itm {i : Nat} : vwV true .list (.ref i) S = vwlR (dctO' S[i]?) S := by
  unfold vwV vwlR
  simp only [dctV_ref]
  all_goals (cases dctO' S[i]? <;> rfl)
@[simp] theorem vwlR_web {β : Type} {f : β → Val} {w : List (Tx × β)} : vwlR (some (webK f w)) S = .ok (.ref S.length) (S ++ [.lst ((webK f w).map fun p => .tup [p.1, p.2])]) := if_pos web_all
def vwvR (d : Option (List (Val × Val))) : M Val := fun S => match d with
  | some kvs => .ok (.ref S.length) (S ++ [.lst (kvs.map (·.2))])
  | none => .bad
@[simp] theorem vw_vls {i : Nat} : vwV false .list (.ref i) S = vwvR (dctO' S[i]?) S := by
  unfold vwV vwvR
  simp only [dctV_ref]
  all_goals (cases dctO' S[i]? <;> rfl)
@[simp] theorem vwvR_some {kvs : List (Val × Val)} : vwvR (some kvs) S = .ok (.ref S.length) (S ++ [.lst (kvs.map (·.2))]) := Eq.trans rfl rfl
/-! dicts with any keys -/
/-- the keys are keys, each once -/
structure DWf (kvs : List (Val × Val)) : Prop where
  key : ∀ p ∈ kvs, ∃ k, keyD p.1 = some k
  nd : (kvs.map fun p => keyV p.1).Nodup
theorem DWf.nil : DWf [] := ⟨by simp, by simp⟩
theorem key_of {v : Val} {k : NestedKey} (h : keyD v = some k) : keyV v = some k := by
  unfold keyD at h
  split at h
  · rename_i k' hk
    split at h
    · cases h; exact hk
    · cases h
  · cases h
theorem putK_mem {kvs : List (Val × Val)} {k : NestedKey} {u v : Val} {p : Val × Val} (h : p ∈ putK kvs k u v) : (p ∈ kvs ∨ p = (u, v)) ∨ ∃ q ∈ kvs, p = (q.1, v) := by
  unfold putK at h
  split at h
  · obtain ⟨q, hq, e⟩ := List.mem_map.mp h
    split at e
    · exact .inr ⟨q, hq, e.symm⟩
    · exact .inl (.inl (e ▸ hq))
  · rcases List.mem_append.mp h with h | h
    · exact .inl (.inl h)
    · exact .inl (.inr (by simpa using h))
theorem DWf.put {kvs : List (Val × Val)} (w : DWf kvs) {k : NestedKey} {u v : Val} (hu : keyD u = some k) : DWf (putK kvs k u v) := by
  refine ⟨fun p hp => ?_, ?_⟩
  · rcases putK_mem hp with (h | rfl) | ⟨q, hq, rfl⟩
    · exact w.key p h
    · exact ⟨k, hu⟩
    · exact w.key q hq
  · unfold putK
    split
    · have : (kvs.map fun p => if keyV p.1 = some k then (p.1, v) else p).map (fun p => keyV p.1) = kvs.map fun p => keyV p.1 := by
        rw [List.map_map]
        apply List.map_congr_left
        intro p _
        show keyV (if keyV p.1 = some k then (p.1, v) else p).1 = keyV p.1
        split <;> rfl
      rw [this]; exact w.nd
    · rename_i h
      rw [List.map_append, List.nodup_append]
      refine ⟨w.nd, by simp, fun a ha b hb e => ?_⟩
      have hb' : b = keyV u := by simpa using hb
      obtain ⟨p, hp, e2⟩ := List.mem_map.mp ha
      apply h
      rw [List.any_eq_true]
      exact ⟨p, hp, decide_eq_true (by rw [e2, e, hb', key_of hu])⟩
theorem DWf.at {kvs : List (Val × Val)} (w : DWf kvs) : ∀ {p : Val × Val}, p ∈ kvs → (keyD p.1).bind (atK kvs) = some p.2 := by
  intro p hp
  obtain ⟨k, hk⟩ := w.key p hp
  rw [hk, Option.bind_some]
  have hv := key_of hk
  obtain ⟨key, nd⟩ := w
  clear key hk
  unfold atK
  induction kvs with
  | nil => cases hp
  | cons q kvs ih =>
    rw [List.map_cons, List.nodup_cons] at nd
    rw [List.find?_cons]
    rcases List.mem_cons.mp hp with rfl | hp
    · simp [hv]
    · have ne : ¬ keyV q.1 = some k := fun e => nd.1 (by rw [e, ← hv]; exact List.mem_map.mpr ⟨p, hp, rfl⟩)
      simp only [decide_eq_false ne]
      exact ih hp nd.2
theorem DWf.web {β : Type} {f : β → Val} {w : List (Tx × β)} (h : (w.map (·.1)).Nodup) : DWf (webK f w) := by
  unfold webK
  refine ⟨fun p hp => ?_, ?_⟩
  · obtain ⟨q, _, rfl⟩ := List.mem_map.mp hp
    exact ⟨_, keyD_str⟩
  · rw [List.map_map]
    have e : (w.map ((fun p : Val × Val => keyV p.1) ∘ fun p => (Val.str p.1, f p.2))) = (w.map (·.1)).map fun n => some (NestedKey.text (stx n)) := by
      rw [List.map_map]
      apply List.map_congr_left
      intro p _
      exact keyV_str
    rw [e]
    refine List.pairwise_map.mpr (h.imp fun {a b} ne q => ne ?_)
    exact stx_eq.mp (NestedKey.text.inj (Option.some.inj q))
theorem DWf.puts {α : Type} {k v : α → Val} {n : α → NestedKey} (h : ∀ a, keyD (k a) = some (n a)) : ∀ (xs : List α) (kvs : List (Val × Val)), DWf kvs → DWf (xs.foldl (fun kvs a => putK kvs (n a) (k a) (v a)) kvs)
  | [], kvs, w => w
  | x :: xs, kvs, w => DWf.puts h xs _ (w.put (h x))
theorem puts_mem {α : Type} {k v : α → Val} {n : α → NestedKey} {P : Val → Prop} : ∀ (xs : List α) (kvs : List (Val × Val)), (∀ p ∈ kvs, P p.1 ∧ P p.2) → (∀ a ∈ xs, P (k a) ∧ P (v a)) → ∀ p ∈ xs.foldl (fun kvs a => putK kvs (n a) (k a) (v a)) kvs, P p.1 ∧ P p.2
  | [], kvs, h, _ => h
  | x :: xs, kvs, h, h2 => puts_mem xs _ (fun p hp => by
      obtain ⟨x1, x2⟩ := h2 x List.mem_cons_self
      rcases putK_mem hp with (h' | rfl) | ⟨q, hq, rfl⟩
      · exact h p h'
      · exact ⟨x1, x2⟩
      · exact ⟨(h q hq).1, x2⟩) fun a ha => h2 a (List.mem_cons_of_mem _ ha)
/-! stores -/
@[simp] theorem setK {T : Sto} {k : Nat} {o : Ob} : (S ++ T).set (S.length + k) o = S ++ T.set k o := by
  rw [List.set_append_right _ _ (by omega)]
  congr 2
  omega
@[simp] theorem set0 {T : Sto} {o : Ob} : (S ++ T).set S.length o = S ++ T.set 0 o := by
  have := setK (S := S) (T := T) (k := 0) (o := o)
  simpa using this
theorem m_append {a : Nat} {xs : List Val} {v : Val} (h : S[a]? = some (.lst xs)) (hl : xs.length < line) : mtdV .lst .append (.ref a) [v] S = .ok .non (S.set a (.lst (xs ++ [v]))) := by
  unfold mtdV
  simp only [h]
  rw [if_pos hl]
theorem dctM_one {k v : Val} {n : NestedKey} (hk : keyD k = some n) : dctM [k, v] S = .ok (.ref S.length) (S ++ [.dct [(k, v)]]) := by
  unfold dctM
  simp [pairUp, hk, putK]
  decide
theorem dctM_two {k v k2 v2 : Val} {n n2 : NestedKey} (hk : keyD k = some n) (hk2 : keyD k2 = some n2) : dctM [k, v, k2, v2] S = .ok (.ref S.length) (S ++ [.dct (putK [(k, v)] n2 k2 v2)]) := by
  unfold dctM
  simp [pairUp, hk, hk2, putK]
  decide
theorem keyD_int {i : Int} : keyD (.int i) = some (.num i) := by
  unfold keyD keyV
  simp only
  rw [if_pos]
  unfold NestedKey.depth
  omega
theorem keyD_non : keyD .non = some .none := by
  unfold keyD keyV
  simp only
  rw [if_pos]
  unfold NestedKey.depth
  omega
theorem keyD_bl {b : Bool} : keyD (.bl b) = some (.num (if b then 1 else 0)) := by
  unfold keyD keyV
  simp only
  rw [if_pos]
  unfold NestedKey.depth
  omega
theorem keyD_tup0 : keyD (.tup []) = some (.tup []) := by
  unfold keyD keyV keyVs
  simp only [Option.map_some]
  rw [if_pos]
  unfold NestedKey.depth NestedKey.depthAll
  omega
theorem DWf.one {k v : Val} {n : NestedKey} (hk : keyD k = some n) : DWf [(k, v)] := ⟨fun p hp => by rw [List.mem_singleton.mp hp]; exact ⟨n, hk⟩, by simp⟩
end MP
set_option linter.all false
set_option Elab.async false
namespace Law
open PySem MP
def sx_abcdefghijklmnopqrstuvwxyz : Tx := [97, 98, 99, 100, 101, 102, 103, 104, 105, 106, 107, 108, 109, 110, 111, 112, 113, 114, 115, 116, 117, 118, 119, 120, 121, 122]
def sx_abcdef : Tx := [97, 98, 99, 100, 101, 102]
def sx_abcdefg : Tx := [97, 98, 99, 100, 101, 102, 103]
def sx_more : Tx := [109, 111, 114, 101]
/-! is_signs -/
def fd0 : FnD := ⟨1, 2, [(.ret (.and (.isi (.var 0) .str) (.blt .all [(.lc (.cmp .In (.var 1) (.con (.str sx_abcdefghijklmnopqrstuvwxyz))) (.nm 1) (.ex (.var 0)) [])])))]⟩
/-! is_name -/
def fd18 : FnD := ⟨1, 1, [(.ret (.and (.cal 0 [(.var 0)]) (.chn .LtE .LtE (.con (.int 1)) (.blt .len [(.var 0)]) (.con (.int 6)))))]⟩
/-! is_lot -/
def fd19 : FnD := ⟨1, 3, [(.ite (.or (.not (.isi (.var 0) .dict)) (.cmp .Gt (.blt .len [(.var 0)]) (.con (.int 8)))) [(.ret (.con (.bl false)))] []),
  (.ite (.not (.blt .all [(.lc (.and (.cal 18 [(.var 1)]) (.cal 0 [(.var 2)])) (.tp [(.nm 1), (.nm 2)]) (.itm (.var 0)) [])])) [(.ret (.con (.bl false)))] []),
  (.ret (.cmp .LtE (.blt .sum [(.lc (.blt .len [(.var 2)]) (.nm 2) (.vls (.var 0)) [])]) (.con (.int 400))))]⟩
/-! _law_pool -/
def fd12 : FnD := ⟨2, 5, [(.asg (.nm 2) (.ix (.bin .Add (.sl (.var 0) [(.var 1)] [(.bin .Add (.var 1) (.con (.int 1)))]) (.lst [(.con (.int 0))])) (.con (.int 0)))),
  (.asg (.nm 3) (.blt .abs [(.var 2)])),
  (.asg (.nm 4) (.bin .Mod (.bin .Mult (.bin .Add (.bin .Add (.bin .Mod (.var 3) (.con (.int 2147483579))) (.bin .Mult (.con (.int 5923)) (.var 1))) (.con (.int 61))) (.con (.int 48271))) (.con (.int 2147483647)))),
  (.ret (.lst [(.bin .Mult (.var 3) (.blt .int [(.cmp .GtE (.var 3) (.bin .Pow (.con (.int 10)) (.con (.int 18))))])), (.var 4)]))]⟩
/-! _law_take -/
def fd13 : FnD := ⟨2, 3, [(.ite (.cmp .Gt (.ix (.var 0) (.con (.int 0))) (.con (.int 0))) [(.asg (.nm 2) (.bin .Mod (.ix (.var 0) (.con (.int 0))) (.var 1))), (.put (.var 0) (.con (.int 0)) (.bin .FloorDiv (.ix (.var 0) (.con (.int 0))) (.var 1))), (.ret (.var 2))] []),
  (.put (.var 0) (.con (.int 1)) (.bin .Mod (.bin .Add (.bin .Mult (.ix (.var 0) (.con (.int 1))) (.con (.int 40014))) (.con (.int 7919))) (.con (.int 2147483647)))),
  (.ret (.bin .Mod (.bin .FloorDiv (.bin .Mod (.bin .Mult (.ix (.var 0) (.con (.int 1))) (.ix (.var 0) (.con (.int 1)))) (.con (.int 2147483629))) (.con (.int 32))) (.var 1)))]⟩
/-! _law_signs -/
def fd14 : FnD := ⟨2, 4, [(.asg (.nm 2) (.ix (.lst [(.con (.str [97])), (.con (.str [97, 98])), (.con (.str [97, 98, 99])), (.con (.str [97, 109, 122]))]) (.cal 13 [(.var 0), (.con (.int 4))]))),
  (.ret (.mtd .join (.con (.str [])) [(.lc (.ix (.var 2) (.cal 13 [(.var 0), (.blt .len [(.var 2)])])) (.nm 3) (.rng1 (.var 1)) [])]))]⟩
/-! _law_lot -/
def fd15 : FnD := ⟨3, 7, [(.asg (.nm 3) (.lst [(.con (.str [98])), (.con (.str [97])), (.con (.str [99, 99])), (.con (.str [122, 122])), (.con (.str sx_abcdef)), (.con (.str [97, 97])), (.con (.str [98, 99, 99])), (.con (.str [122]))])),
  (.asg (.nm 4) (.dct [])),
  (.for_ (.nm 5) (.rng1 (.cal 13 [(.var 0), (.bin .Add (.var 1) (.con (.int 1)))])) [(.put (.var 4) (.mtd .pop (.var 3) [(.cal 13 [(.var 0), (.blt .len [(.var 3)])])]) (.cal 14 [(.var 0), (.cal 13 [(.var 0), (.bin .Add (.var 2) (.con (.int 1)))])]))]),
  (.ite (.and (.cmp .Gt (.blt .len [(.var 4)]) (.con (.int 1))) (.cmp .Eq (.cal 13 [(.var 0), (.con (.int 3))]) (.con (.int 0)))) [(.asg (.nm 6) (.blt .sorted [(.var 4)])), (.put (.var 4) (.ix (.var 6) (.con (.int 0))) (.ix (.var 4) (.ix (.var 6) (.con (.int 1)))))] []),
  (.ret (.var 4))]⟩
/-! _law_signs_so -/
def fd20 : FnD := ⟨1, 2, [(.ret (.and (.isi (.var 0) .str) (.cmp .Eq (.lc (.var 1) (.nm 1) (.ex (.var 0)) [(.not (.chn .LtE .LtE (.con (.str [97])) (.var 1) (.con (.str [122]))))]) (.lst []))))]⟩
/-! _law_lot_so -/
def fd21 : FnD := ⟨1, 2, [(.ite (.or (.not (.isi (.var 0) .dict)) (.cmp .Gt (.blt .len [(.var 0)]) (.con (.int 8)))) [(.ret (.con (.bl false)))] []),
  (.for_ (.nm 1) (.ex (.var 0)) [(.ite (.or (.not (.cal 20 [(.var 1)])) (.or (.not (.chn .LtE .LtE (.con (.int 1)) (.blt .len [(.var 1)]) (.con (.int 6)))) (.not (.cal 20 [(.ix (.var 0) (.var 1))])))) [(.ret (.con (.bl false)))] [])]),
  (.ret (.cmp .LtE (.blt .sum [(.lc (.blt .len [(.ix (.var 0) (.var 1))]) (.nm 1) (.ex (.var 0)) [])]) (.con (.int 400))))]⟩
/-! _law_right -/
def fd22 : FnD := ⟨1, 2, [(.asg (.nm 1) (.lst [(.cal 20 [(.var 0)]), (.and (.cal 20 [(.var 0)]) (.chn .LtE .LtE (.con (.int 1)) (.blt .len [(.var 0)]) (.con (.int 6)))), (.cal 21 [(.var 0)])])),
  (.ite (.cmp .NotEq (.blt .repr [(.lst [(.cal 0 [(.var 0)]), (.cal 18 [(.var 0)]), (.cal 19 [(.var 0)])])]) (.blt .repr [(.var 1)])) [(.ret (.con (.bl false)))] []),
  (.ret (.cmp .Eq (.lst [(.calk 0 [(.var 0)] [0]), (.calk 18 [(.var 0)] [0]), (.calk 19 [(.var 0)] [0])]) (.var 1)))]⟩
/-! law -/
def fd23 : FnD := ⟨1, 13, [(.asg (.nm 1) (.lst [(.con .non), (.con (.bl true)), (.con (.int 0)), (.neg (.con (.int 1))), (.bin .Pow (.con (.int 10)) (.con (.int 29))), (.con (.str [])), (.con (.str [97])), (.con (.str sx_abcdef)), (.con (.str sx_abcdefg)), (.con (.str [65])), (.con (.str [97, 32, 98])), (.con (.str [97, 10])), (.con (.str [123])), (.con (.str [96])), (.tup []), (.lst []), (.dct []), (.tup [(.con (.str [97]))])])),
  (.asg (.nm 2) (.blt .dict [(.lc (.tup [(.var 10), (.bin .Mult (.con (.str [97, 98])) (.con (.int 25)))]) (.nm 10) (.ex (.lst [(.con (.str [97])), (.con (.str [98])), (.con (.str [99])), (.con (.str [100])), (.con (.str [101])), (.con (.str [102])), (.con (.str [103])), (.con (.str [104]))])) [])])),
  (.asg (.nm 3) (.bin .Add (.var 1) (.lst [(.var 2), (.dct [(.con (.str [97])), (.bin .Mult (.con (.str [98])) (.con (.int 400)))]), (.dct [(.con (.str [97])), (.bin .Mult (.con (.str [98])) (.con (.int 401)))]), (.dct [(.con (.str [97])), (.bin .Mult (.con (.str [98])) (.con (.int 399))), (.con (.str [98])), (.con (.str [99, 99]))]), (.dct [(.con (.str [])), (.con (.str [97]))]), (.dct [(.con (.int 1)), (.con (.str [97]))])]))),
  (.exp (.mtd .append (.var 3) [(.dct [(.con (.str [97])), (.con .non)])])),
  (.exp (.mtd .append (.var 3) [(.blt .dict [(.lc (.tup [(.var 10), (.con (.str []))]) (.nm 10) (.ex (.lst [(.con (.str [97])), (.con (.str [98])), (.con (.str [99])), (.con (.str [100])), (.con (.str [101])), (.con (.str [102])), (.con (.str [103])), (.con (.str [104])), (.con (.str [105]))])) [])])])),
  (.ite (.cmp .NotEq (.lc (.var 11) (.nm 11) (.ex (.var 3)) [(.not (.cal 22 [(.var 11)]))]) (.lst [])) [(.ret (.con (.bl false)))] []),
  (.for_ (.nm 4) (.rng1 (.blt .max2 [(.con (.int 1)), (.blt .min2 [(.blt .len [(.var 0)]), (.con (.int 20))])])) [(.asg (.nm 5) (.cal 12 [(.var 0), (.var 4)])), (.asg (.nm 6) (.cal 15 [(.var 5), (.con (.int 8)), (.con (.int 20))])), (.asg (.nm 7) (.ix (.var 1) (.cal 13 [(.var 5), (.con (.int 15))]))), (.asg (.nm 8) (.blt .dict [(.var 6)])), (.put (.var 8) (.con (.str sx_more)) (.var 7)), (.asg (.nm 9) (.lst [(.var 6), (.vw true .list (.var 6)), (.var 8)])), (.for_ (.nm 10) (.ex (.sl (.blt .sorted [(.var 6)]) [] [(.con (.int 2))])) [(.exp (.mtd .append (.var 9) [(.blt .dict [(.lc (.tup [(.var 12), (.ite (.cmp .Eq (.var 12) (.var 10)) (.var 7) (.ix (.var 6) (.var 12)))]) (.nm 12) (.ex (.var 6)) [])])])), (.exp (.mtd .append (.var 9) [(.blt .dict [(.lc (.tup [(.ite (.cmp .Eq (.var 12) (.var 10)) (.var 7) (.var 12)), (.ix (.var 6) (.var 12))]) (.nm 12) (.ex (.var 6)) [])])]))]), (.ite (.cmp .NotEq (.lc (.var 11) (.nm 11) (.ex (.var 9)) [(.not (.cal 22 [(.var 11)]))]) (.lst [])) [(.ret (.con (.bl false)))] [])]),
  (.ret (.con (.bl true)))]⟩
end Law
set_option Elab.async false
set_option linter.all false
set_option maxRecDepth 100000
set_option maxHeartbeats 0
namespace Law
open PySem PySem.Spec PyProof.Rows L2 MP
def top (i : Nat) : Stmt := PySem.Challenge.pw_sortedturns_k01_signs_names_and_lots.main.body.getD i (.Pass ⟨0, 0, 0, 0⟩)
def fns : List (Str × Nat) := [("is_signs", 0), ("is_name", 18), ("is_lot", 19), ("_law_pool", 12), ("_law_take", 13), ("_law_signs", 14), ("_law_lot", 15), ("_law_signs_so", 20), ("_law_lot_so", 21), ("_law_right", 22), ("law", 23)]
def cons : List (Str × Val) := [("LETTERS", (.str sx_abcdefghijklmnopqrstuvwxyz)), ("LONGEST_NAME", (.int 6)), ("MOST_TEXTS", (.int 8)), ("MOST_SIGNS", (.int 400))]
def blts : List Str := ["len", "abs", "int", "all", "sum", "repr", "list", "sorted", "max", "min", "range", "isinstance", "str", "dict"]
def kt : List Site := [⟨0, 0, ["thing"], [0]⟩, ⟨18, 0, ["thing"], [0]⟩, ⟨19, 0, ["thing"], [0]⟩]
/-! is_signs -/
def nm0 : List Str := ["thing", "sign"]
theorem tr0 : trSs (trS 60 ⟨nm0, (defScope (top 5)).names, fns, cons, blts, kt⟩) (defBody (top 5)) = some fd0.body := by kernel_rfl
theorem sc0 : FnScope nm0 (nm0.take 1) (defScope (top 5)) := ⟨by kernel_rfl, by kernel_rfl, by kernel_rfl, by decide +kernel, by kernel_rfl, by decide +kernel, by decide +kernel⟩
/-! is_name -/
def nm18 : List Str := ["thing"]
theorem tr18 : trSs (trS 60 ⟨nm18, (defScope (top 6)).names, fns, cons, blts, kt⟩) (defBody (top 6)) = some fd18.body := by kernel_rfl
theorem sc18 : FnScope nm18 (nm18.take 1) (defScope (top 6)) := ⟨by kernel_rfl, by kernel_rfl, by kernel_rfl, by decide +kernel, by kernel_rfl, by decide +kernel, by decide +kernel⟩
/-! is_lot -/
def nm19 : List Str := ["thing", "name", "signs"]
theorem tr19 : trSs (trS 60 ⟨nm19, (defScope (top 7)).names, fns, cons, blts, kt⟩) (defBody (top 7)) = some fd19.body := by kernel_rfl
theorem sc19 : FnScope nm19 (nm19.take 1) (defScope (top 7)) := ⟨by kernel_rfl, by kernel_rfl, by kernel_rfl, by decide +kernel, by kernel_rfl, by decide +kernel, by decide +kernel⟩
/-! _law_pool -/
def nm12 : List Str := ["_law_script", "_law_k", "_law_cell", "_law_size", "_law_mixed"]
theorem tr12 : trSs (trS 60 ⟨nm12, (defScope (top 9)).names, fns, cons, blts, kt⟩) (defBody (top 9)) = some fd12.body := by kernel_rfl
theorem sc12 : FnScope nm12 (nm12.take 2) (defScope (top 9)) := ⟨by kernel_rfl, by kernel_rfl, by kernel_rfl, by decide +kernel, by kernel_rfl, by decide +kernel, by decide +kernel⟩
/-! _law_take -/
def nm13 : List Str := ["_law_pool_here", "_law_many", "_law_found"]
theorem tr13 : trSs (trS 60 ⟨nm13, (defScope (top 10)).names, fns, cons, blts, kt⟩) (defBody (top 10)) = some fd13.body := by kernel_rfl
theorem sc13 : FnScope nm13 (nm13.take 2) (defScope (top 10)) := ⟨by kernel_rfl, by kernel_rfl, by kernel_rfl, by decide +kernel, by kernel_rfl, by decide +kernel, by decide +kernel⟩
/-! _law_signs -/
def nm14 : List Str := ["_law_pool_here", "_law_many", "_law_letters", "_law_turn"]
theorem tr14 : trSs (trS 60 ⟨nm14, (defScope (top 11)).names, fns, cons, blts, kt⟩) (defBody (top 11)) = some fd14.body := by kernel_rfl
theorem sc14 : FnScope nm14 (nm14.take 2) (defScope (top 11)) := ⟨by kernel_rfl, by kernel_rfl, by kernel_rfl, by decide +kernel, by kernel_rfl, by decide +kernel, by decide +kernel⟩
/-! _law_lot -/
def nm15 : List Str := ["_law_pool_here", "_law_texts", "_law_many", "_law_names", "_law_found", "_law_turn", "_law_some"]
theorem tr15 : trSs (trS 60 ⟨nm15, (defScope (top 12)).names, fns, cons, blts, kt⟩) (defBody (top 12)) = some fd15.body := by kernel_rfl
theorem sc15 : FnScope nm15 (nm15.take 3) (defScope (top 12)) := ⟨by kernel_rfl, by kernel_rfl, by kernel_rfl, by decide +kernel, by kernel_rfl, by decide +kernel, by decide +kernel⟩
/-! _law_signs_so -/
def nm20 : List Str := ["_law_item", "_law_sign"]
theorem tr20 : trSs (trS 60 ⟨nm20, (defScope (top 13)).names, fns, cons, blts, kt⟩) (defBody (top 13)) = some fd20.body := by kernel_rfl
theorem sc20 : FnScope nm20 (nm20.take 1) (defScope (top 13)) := ⟨by kernel_rfl, by kernel_rfl, by kernel_rfl, by decide +kernel, by kernel_rfl, by decide +kernel, by decide +kernel⟩
/-! _law_lot_so -/
def nm21 : List Str := ["_law_item", "_law_key"]
theorem tr21 : trSs (trS 60 ⟨nm21, (defScope (top 14)).names, fns, cons, blts, kt⟩) (defBody (top 14)) = some fd21.body := by kernel_rfl
theorem sc21 : FnScope nm21 (nm21.take 1) (defScope (top 14)) := ⟨by kernel_rfl, by kernel_rfl, by kernel_rfl, by decide +kernel, by kernel_rfl, by decide +kernel, by decide +kernel⟩
/-! _law_right -/
def nm22 : List Str := ["_law_item", "_law_due"]
theorem tr22 : trSs (trS 60 ⟨nm22, (defScope (top 15)).names, fns, cons, blts, kt⟩) (defBody (top 15)) = some fd22.body := by kernel_rfl
theorem sc22 : FnScope nm22 (nm22.take 1) (defScope (top 15)) := ⟨by kernel_rfl, by kernel_rfl, by kernel_rfl, by decide +kernel, by kernel_rfl, by decide +kernel, by decide +kernel⟩
/-! law -/
def nm23 : List Str := ["_law_script", "_law_some", "_law_full", "_law_fixed", "_law_k", "_law_pool_here", "_law_web", "_law_odd", "_law_wider", "_law_items", "_law_name", "_law_item", "_law_one"]
theorem tr23 : trSs (trS 60 ⟨nm23, (defScope (top 16)).names, fns, cons, blts, kt⟩) (defBody (top 16)) = some fd23.body := by kernel_rfl
theorem sc23 : FnScope nm23 (nm23.take 1) (defScope (top 16)) := ⟨by kernel_rfl, by kernel_rfl, by kernel_rfl, by decide +kernel, by kernel_rfl, by decide +kernel, by decide +kernel⟩
def ld0 : LD := ⟨0, "is_signs", top 5, nm0, nm0.take 1, 60, fd0⟩
theorem bd0 : ∀ (kV doc pm : Value) (an : Option Addr) (cdv ct : Value) (us : List Value), us.length = ld0.ps.length → bindArgs (PySem.W.fnOf ld0.x ld0.x (defArgs ld0.st) (defBody ld0.st) (defScope ld0.st) .none kV doc pm an cdv ct) ⟨us, []⟩ = pure (ld0.ps.zip us) := fun _ _ _ _ _ _ us hl => match us, hl with | [a0], _ => rfl
def ld18 : LD := ⟨18, "is_name", top 6, nm18, nm18.take 1, 60, fd18⟩
theorem bd18 : ∀ (kV doc pm : Value) (an : Option Addr) (cdv ct : Value) (us : List Value), us.length = ld18.ps.length → bindArgs (PySem.W.fnOf ld18.x ld18.x (defArgs ld18.st) (defBody ld18.st) (defScope ld18.st) .none kV doc pm an cdv ct) ⟨us, []⟩ = pure (ld18.ps.zip us) := fun _ _ _ _ _ _ us hl => match us, hl with | [a0], _ => rfl
def ld19 : LD := ⟨19, "is_lot", top 7, nm19, nm19.take 1, 60, fd19⟩
theorem bd19 : ∀ (kV doc pm : Value) (an : Option Addr) (cdv ct : Value) (us : List Value), us.length = ld19.ps.length → bindArgs (PySem.W.fnOf ld19.x ld19.x (defArgs ld19.st) (defBody ld19.st) (defScope ld19.st) .none kV doc pm an cdv ct) ⟨us, []⟩ = pure (ld19.ps.zip us) := fun _ _ _ _ _ _ us hl => match us, hl with | [a0], _ => rfl
def ld12 : LD := ⟨12, "_law_pool", top 9, nm12, nm12.take 2, 60, fd12⟩
theorem bd12 : ∀ (kV doc pm : Value) (an : Option Addr) (cdv ct : Value) (us : List Value), us.length = ld12.ps.length → bindArgs (PySem.W.fnOf ld12.x ld12.x (defArgs ld12.st) (defBody ld12.st) (defScope ld12.st) .none kV doc pm an cdv ct) ⟨us, []⟩ = pure (ld12.ps.zip us) := fun _ _ _ _ _ _ us hl => match us, hl with | [a0, a1], _ => rfl
def ld13 : LD := ⟨13, "_law_take", top 10, nm13, nm13.take 2, 60, fd13⟩
theorem bd13 : ∀ (kV doc pm : Value) (an : Option Addr) (cdv ct : Value) (us : List Value), us.length = ld13.ps.length → bindArgs (PySem.W.fnOf ld13.x ld13.x (defArgs ld13.st) (defBody ld13.st) (defScope ld13.st) .none kV doc pm an cdv ct) ⟨us, []⟩ = pure (ld13.ps.zip us) := fun _ _ _ _ _ _ us hl => match us, hl with | [a0, a1], _ => rfl
def ld14 : LD := ⟨14, "_law_signs", top 11, nm14, nm14.take 2, 60, fd14⟩
theorem bd14 : ∀ (kV doc pm : Value) (an : Option Addr) (cdv ct : Value) (us : List Value), us.length = ld14.ps.length → bindArgs (PySem.W.fnOf ld14.x ld14.x (defArgs ld14.st) (defBody ld14.st) (defScope ld14.st) .none kV doc pm an cdv ct) ⟨us, []⟩ = pure (ld14.ps.zip us) := fun _ _ _ _ _ _ us hl => match us, hl with | [a0, a1], _ => rfl
def ld15 : LD := ⟨15, "_law_lot", top 12, nm15, nm15.take 3, 60, fd15⟩
theorem bd15 : ∀ (kV doc pm : Value) (an : Option Addr) (cdv ct : Value) (us : List Value), us.length = ld15.ps.length → bindArgs (PySem.W.fnOf ld15.x ld15.x (defArgs ld15.st) (defBody ld15.st) (defScope ld15.st) .none kV doc pm an cdv ct) ⟨us, []⟩ = pure (ld15.ps.zip us) := fun _ _ _ _ _ _ us hl => match us, hl with | [a0, a1, a2], _ => rfl
def ld20 : LD := ⟨20, "_law_signs_so", top 13, nm20, nm20.take 1, 60, fd20⟩
theorem bd20 : ∀ (kV doc pm : Value) (an : Option Addr) (cdv ct : Value) (us : List Value), us.length = ld20.ps.length → bindArgs (PySem.W.fnOf ld20.x ld20.x (defArgs ld20.st) (defBody ld20.st) (defScope ld20.st) .none kV doc pm an cdv ct) ⟨us, []⟩ = pure (ld20.ps.zip us) := fun _ _ _ _ _ _ us hl => match us, hl with | [a0], _ => rfl
def ld21 : LD := ⟨21, "_law_lot_so", top 14, nm21, nm21.take 1, 60, fd21⟩
theorem bd21 : ∀ (kV doc pm : Value) (an : Option Addr) (cdv ct : Value) (us : List Value), us.length = ld21.ps.length → bindArgs (PySem.W.fnOf ld21.x ld21.x (defArgs ld21.st) (defBody ld21.st) (defScope ld21.st) .none kV doc pm an cdv ct) ⟨us, []⟩ = pure (ld21.ps.zip us) := fun _ _ _ _ _ _ us hl => match us, hl with | [a0], _ => rfl
def ld22 : LD := ⟨22, "_law_right", top 15, nm22, nm22.take 1, 60, fd22⟩
theorem bd22 : ∀ (kV doc pm : Value) (an : Option Addr) (cdv ct : Value) (us : List Value), us.length = ld22.ps.length → bindArgs (PySem.W.fnOf ld22.x ld22.x (defArgs ld22.st) (defBody ld22.st) (defScope ld22.st) .none kV doc pm an cdv ct) ⟨us, []⟩ = pure (ld22.ps.zip us) := fun _ _ _ _ _ _ us hl => match us, hl with | [a0], _ => rfl
def ld23 : LD := ⟨23, "law", top 16, nm23, nm23.take 1, 60, fd23⟩
theorem bd23 : ∀ (kV doc pm : Value) (an : Option Addr) (cdv ct : Value) (us : List Value), us.length = ld23.ps.length → bindArgs (PySem.W.fnOf ld23.x ld23.x (defArgs ld23.st) (defBody ld23.st) (defScope ld23.st) .none kV doc pm an cdv ct) ⟨us, []⟩ = pure (ld23.ps.zip us) := fun _ _ _ _ _ _ us hl => match us, hl with | [a0], _ => rfl
def ds : List LD := [ld0, ld18, ld19, ld12, ld13, ld14, ld15, ld20, ld21, ld22, ld23]
theorem kb0 : ∀ (kV doc pm : Value) (an : Option Addr) (cdv ct : Value) (us1 us2 : List Value), us1.length = 0 → us2.length = 1 → bindArgs (PySem.W.fnOf ld0.x ld0.x (defArgs ld0.st) (defBody ld0.st) (defScope ld0.st) .none kV doc pm an cdv ct) ⟨us1, (["thing"] : List Str).zip us2⟩ = pure (ld0.ps.zip (([0] : List Nat).map fun i => (us1 ++ us2).getD i .none)) := fun _ _ _ _ _ _ us1 us2 h1 h2 => match us1, h1, us2, h2 with | [], _, [b0], _ => rfl
theorem kb1 : ∀ (kV doc pm : Value) (an : Option Addr) (cdv ct : Value) (us1 us2 : List Value), us1.length = 0 → us2.length = 1 → bindArgs (PySem.W.fnOf ld18.x ld18.x (defArgs ld18.st) (defBody ld18.st) (defScope ld18.st) .none kV doc pm an cdv ct) ⟨us1, (["thing"] : List Str).zip us2⟩ = pure (ld18.ps.zip (([0] : List Nat).map fun i => (us1 ++ us2).getD i .none)) := fun _ _ _ _ _ _ us1 us2 h1 h2 => match us1, h1, us2, h2 with | [], _, [b0], _ => rfl
theorem kb2 : ∀ (kV doc pm : Value) (an : Option Addr) (cdv ct : Value) (us1 us2 : List Value), us1.length = 0 → us2.length = 1 → bindArgs (PySem.W.fnOf ld19.x ld19.x (defArgs ld19.st) (defBody ld19.st) (defScope ld19.st) .none kV doc pm an cdv ct) ⟨us1, (["thing"] : List Str).zip us2⟩ = pure (ld19.ps.zip (([0] : List Nat).map fun i => (us1 ++ us2).getD i .none)) := fun _ _ _ _ _ _ us1 us2 h1 h2 => match us1, h1, us2, h2 with | [], _, [b0], _ => rfl
theorem lawNd : (ds.map (·.no)).Nodup := by decide +kernel
theorem lawD : LawD kt ds fns cons blts := by
  refine ⟨by decide +kernel, lawNd, by decide +kernel, (allc tr0 (allc tr18 (allc tr19 (allc tr12 (allc tr13 (allc tr14 (allc tr15 (allc tr20 (allc tr21 (allc tr22 (allc tr23 alln))))))))))), (allc sc0 (allc sc18 (allc sc19 (allc sc12 (allc sc13 (allc sc14 (allc sc15 (allc sc20 (allc sc21 (allc sc22 (allc sc23 alln))))))))))), (allc ⟨rfl, rfl⟩ (allc ⟨rfl, rfl⟩ (allc ⟨rfl, rfl⟩ (allc ⟨rfl, rfl⟩ (allc ⟨rfl, rfl⟩ (allc ⟨rfl, rfl⟩ (allc ⟨rfl, rfl⟩ (allc ⟨rfl, rfl⟩ (allc ⟨rfl, rfl⟩ (allc ⟨rfl, rfl⟩ (allc ⟨rfl, rfl⟩ alln))))))))))), (allc bd0 (allc bd18 (allc bd19 (allc bd12 (allc bd13 (allc bd14 (allc bd15 (allc bd20 (allc bd21 (allc bd22 (allc bd23 alln))))))))))), ?_⟩
  · intro st hst d hd e
    rcases List.mem_cons.mp hst with rfl | hst
    · have hd2 : d = ld0 := ld_uniq lawNd hd (List.mem_of_getElem? (i := 0) rfl) e
      subst hd2
      exact kb0
    rcases List.mem_cons.mp hst with rfl | hst
    · have hd2 : d = ld18 := ld_uniq lawNd hd (List.mem_of_getElem? (i := 1) rfl) e
      subst hd2
      exact kb1
    rcases List.mem_cons.mp hst with rfl | hst
    · have hd2 : d = ld19 := ld_uniq lawNd hd (List.mem_of_getElem? (i := 2) rfl) e
      subst hd2
      exact kb2
    cases hst
abbrev R : PySem.W.OpenRow := PySem.W.OpenLaw.row PySem.Challenge.rw_sortedturns_k01_signs_names_and_lots
abbrev fa : List He.Fa := faOf ds cons blts
abbrev fn : List He.DefD := fnOf' ds
abbrev hk : PySem.W.Hook := MP.hookM 4 fa fn
def ob (s : PySem.W.SharedT) : MP.AlM := MP.obsMG 4 fa fn (HandSHeadRun.getT s)
theorem ob_eq (s : PySem.W.SharedT) : ob s = hk.obs s.abs := MP.obsMG_eq (HandSHeadRun.getT_eq s)
def loose : List Str := ["__name__", "LETTERS", "LONGEST_NAME", "MOST_TEXTS", "MOST_SIGNS", "is_signs", "is_name", "is_lot", "_law_pool", "_law_take", "_law_signs", "_law_lot", "_law_signs_so", "_law_lot_so", "_law_right"]
theorem run (w : World) : HandSHeadRun.RunEq R (PySem.W.view R.prog [16]) hk ob 20000 loose w := by
  intro os
  kernel_rfl
end Law
section
open PySem PySem.W PySem.Calls PyProof.Rows
theorem holds_of {W : Nat} (L : MP.LawD Law.kt Law.ds Law.fns Law.cons Law.blts) (F : ∀ ns : List Int, ns.length ≤ 63 → ∃ S', MP.callF (MP.tabT Law.ds) W 20 23 [.ref 0] [.rol (ns.map MP.Val.int)] = .ok (.bl true) S') : PySem.Challenge.rw_sortedturns_k01_signs_names_and_lots.Holds := by
  w_on; o_law
  refine HandSHeadRun.head_any (r := OpenLaw.row PySem.Challenge.rw_sortedturns_k01_signs_names_and_lots) (q := view (OpenLaw.row PySem.Challenge.rw_sortedturns_k01_signs_names_and_lots).prog [16]) (H := Law.hk) (ob := Law.ob) (M := 20000) (loose := Law.loose) (d := HandSHeadRun.topDef (OpenLaw.row PySem.Challenge.rw_sortedturns_k01_signs_names_and_lots).prog 16) (kwd := []) Law.ob_eq
    (by kernel_rfl) (fun s => by kernel_rfl) Law.run (by kernel_rfl) (by kernel_rfl) (by kernel_rfl) (by rfl) (by first | assumption | decide +kernel) (by decide +kernel) ⟨rfl, rfl, rfl, rfl, rfl, by decide +kernel⟩ ?hw ?hc
  case hw => w_witness2
  case hc =>
    exact MP.law_of (l := PySem.Challenge.rw_sortedturns_k01_signs_names_and_lots) (n := 63) (dl := Law.ld23) (f := 23) (k := 20) (W := W) rfl (by decide) (by kernel_rfl) L ⟨⟨rfl, by decide, by decide⟩, rfl⟩ (List.mem_of_getElem? (i := 10) rfl) rfl (by kernel_rfl) (fun w h Y => Y) F
end
set_option linter.all false
set_option Elab.async false
set_option maxRecDepth 100000
set_option maxHeartbeats 400000
namespace Law
open PySem MP
abbrev T := tabT ds
theorem law_pool {W k : Nat} {S : Sto} {ns : List Int} {j : Nat} (hS : S[0]? = some (.rol (ns.map Val.int))) (hn : ns.length ≤ 63) : ∃ o, callF T W (k + 1) 12 [.ref 0, .int (j : Nat)] S = .ok (.ref S.length) (S ++ [o]) ∧ PoolO o := by
  have hlt := lt_of_get hS
  have h0 : ∀ T : Sto, (S ++ T)[0]? = some (.rol (ns.map Val.int)) := fun T => by rw [List.getElem?_append_left hlt]; exact hS
  obtain ⟨c, hc⟩ := cell_of ns j
  have hl : (cutL (ns.map Val.int) (some (j : Int)) (some ((j : Int) + 1))).length ≤ 1 := by rw [cut_two]; simp; omega
  have hline : line = 16777216 := rfl
  rw [callF_succ (d := fd12) rfl rfl]
  simp [fd12, startE, hS, h0]
  rw [addO_ll (by simp; omega)]
  simp [hc, setE]
  generalize hb : (if c < 0 then -c else c) = sz
  have hsz : 0 ≤ sz := by rw [← hb]; split <;> omega
  generalize hg : (sz % 2147483579 + 5923 * (j : Int) + 61) * 48271 % 2147483647 = b'
  have hbr : 0 ≤ b' ∧ b' < 2147483647 := by rw [← hg]; exact ⟨Int.emod_nonneg _ (by omega), Int.emod_lt_of_pos _ (by omega)⟩
  by_cases h18 : (1000000000000000000 : Int) ≤ sz
  · simp [h18]
    refine ⟨Ob.lst [.int sz, .int b'], ?_, sz, _, rfl, hsz, hbr.1, hbr.2⟩
    exact gc_lst (j := 3) rfl trivial (by simp [refsO, refsVs, refsV])
  · simp [h18]
    refine ⟨Ob.lst [.int 0, .int b'], ?_, 0, _, rfl, by omega, hbr.1, hbr.2⟩
    exact gc_lst (j := 3) rfl trivial (by simp [refsO, refsVs, refsV])
theorem law_take {W k p : Nat} {m : Int} {S : Sto} (hp : PoolAt S p) (hm : 0 < m ∧ m < 1000000) : ∃ (t : Nat) (o : Ob), callF T W (k + 1) 13 [.ref p, .int m] S = .ok (.int t) (S.set p o) ∧ PoolO o ∧ (t : Int) < m := by
  have hlt := hp.lt
  obtain ⟨_, hS, a, b, rfl, ha, hb, hb2⟩ := hp
  rw [callF_succ (d := fd13) rfl rfl]
  have hget : ∀ o, (S.set p o)[p]? = some o := fun o => List.getElem?_set_self hlt
  simp [fd13, startE, hS, hget]
  have nat : ∀ x : Int, ∃ t : Nat, x % m = (t : Int) ∧ (t : Int) < m := fun x => ⟨(x % m).toNat, by rw [Int.toNat_of_nonneg (Int.emod_nonneg _ (by omega))], by rw [Int.toNat_of_nonneg (Int.emod_nonneg _ (by omega))]; exact Int.emod_lt_of_pos _ hm.1⟩
  by_cases h : 0 < a
  · have h1 : 0 < m ∧ m < 1073741824 := by omega
    obtain ⟨t, et, lt⟩ := nat a
    simp [h, hS, hm.1, h1, setE, hget, et]
    exact ⟨t, .lst [.int (a / m), .int b], gc_set0 hlt (by unfold refsV; rfl) rfl, ⟨_, _, rfl, Int.ediv_nonneg (by omega) (by omega), hb, hb2⟩, lt⟩
  · generalize hg : (b * 40014 + 7919) % 2147483647 = b'
    have hr : 0 ≤ b' ∧ b' < 2147483647 := by rw [← hg]; exact ⟨Int.emod_nonneg _ (by omega), Int.emod_lt_of_pos _ (by omega)⟩
    have h2 : (-18446744073709551616 < b' ∧ b' < 18446744073709551616) := by omega
    obtain ⟨t, et, lt⟩ := nat (b' * b' % 2147483629 / 32)
    simp [h, hS, hg, h2, hm.1, hget, et]
    exact ⟨t, .lst [.int a, .int b'], gc_set0 hlt (by unfold refsV; rfl) rfl, ⟨_, _, rfl, ha, hr.1, hr.2⟩, lt⟩
def four : List Tx := [[97], [97, 98], [97, 98, 99], [97, 109, 122]]
theorem four_ok : ∀ x ∈ four, 0 < x.length ∧ x.length ≤ 3 ∧ ∀ c ∈ x, c < 200 := by decide
theorem setApp {S X : Sto} {p : Nat} {o : Ob} (h : p < S.length) : (S ++ X).set p o = S.set p o ++ X := List.set_append_left _ _ h
theorem poolSA {S X : Sto} {p : Nat} {o : Ob} (h : p < S.length) (ho : PoolO o) : PoolAt (S.set p o ++ X) p := poolApp (poolSet h ho)
/-- drawing behind drawings -/
theorem law_takeA {W k p : Nat} {m : Int} {S X : Sto} {o : Ob} (hlt : p < S.length) (ho : PoolO o) (hm : 0 < m ∧ m < 1000000) : ∃ (t : Nat) (o' : Ob), callF T W (k + 1) 13 [.ref p, .int m] (S.set p o ++ X) = .ok (.int t) (S.set p o' ++ X) ∧ PoolO o' ∧ (t : Int) < m := by
  obtain ⟨t, o', e, h1, h2⟩ := law_take (W := W) (k := k) (m := m) (poolSA (X := X) hlt ho) hm
  rw [setApp (by simpa using hlt), List.set_set] at e
  exact ⟨t, o', e, h1, h2⟩
theorem signs_in {W k p n : Nat} {S X : Sto} {L : Tx} {o1 : Ob} (hlt : p < S.length) (ho1 : PoolO o1) (k1 : 0 < L.length) (k2 : L.length ≤ 3) (k3 : ∀ c ∈ L, c < 200) :
    Runs (compL [] (lcF (callF T W (k + 1)) (.ix (.var 2) (.cal 13 [(.var 0), (.blt .len [(.var 2)])])) (.nm 3) [] [some (.ref p), some (.int (n : Nat)), some (.str L), none]) ((List.range n).map fun (k : Nat) => Val.int (k : Int)) (S.set p o1 ++ X)) fun zs S' => ∃ (o : Ob) (cs : Tx), S' = S.set p o ++ X ∧ PoolO o ∧ zs = (cs.map fun c => [c]).map Val.str ∧ cs.length = n ∧ ∀ c ∈ cs, c < 200 := by
  have hline : line = 16777216 := rfl
  have fin := compL_ix (gs := []) (f := lcF (callF T W (k + 1)) (.ix (.var 2) (.cal 13 [(.var 0), (.blt .len [(.var 2)])])) (.nm 3) [] [some (.ref p), some (.int (n : Nat)), some (.str L), none])
    (fun j ys S' => ∃ (o : Ob) (cs : Tx), S' = S.set p o ++ X ∧ PoolO o ∧ ys = (cs.map fun c => [c]).map Val.str ∧ cs.length = j ∧ ∀ c ∈ cs, c < 200)
    (fun _ _ _ _ => stays_nil) (xs := (List.range n).map fun (k : Nat) => Val.int (k : Int)) (S := S.set p o1 ++ X) (fun j x ys S1 hx ⟨o, cs, e1, e2, e3, e4, e5⟩ => by
      subst e1
      obtain ⟨t2, o2, et2, ho2, ht2⟩ := law_takeA (W := W) (k := k) (m := (L.length : Nat)) (X := X) hlt e2 (by omega)
      obtain ⟨c, hc⟩ : ∃ c, L[t2]? = some c := ⟨_, List.getElem?_eq_getElem (by omega)⟩
      have hl3 : L.length ≤ line := by omega
      have e : lcF (callF T W (k + 1)) (.ix (.var 2) (.cal 13 [(.var 0), (.blt .len [(.var 2)])])) (.nm 3) [] [some (.ref p), some (.int (n : Nat)), some (.str L), none] x (S.set p o ++ X) = .ok (some (.str [c])) (S.set p o2 ++ X) := by
        rw [lcF_ap]
        simp [setE, hl3, et2, atI_some hc]
      rw [e]
      refine .mk ⟨o2, cs ++ [c], rfl, ho2, by rw [e3]; simp, by simp [e4], fun z hz => ?_⟩
      rcases List.mem_append.mp hz with hz | hz
      · exact e5 z hz
      · rw [List.mem_singleton.mp hz]; exact k3 c (List.mem_of_getElem? hc)) ⟨o1, [], rfl, ho1, rfl, rfl, by simp⟩
  exact fin.mono fun zs S2 ⟨o, cs, a, b, c, d, e⟩ => ⟨o, cs, a, b, c, by simpa using d, e⟩
theorem law_signs {W k p n : Nat} {S : Sto} (hp : PoolAt S p) (hn : n ≤ 4000) : ∃ (x : Tx) (o : Ob), callF T W (k + 2) 14 [.ref p, .int (n : Nat)] S = .ok (.str x) (S.set p o) ∧ PoolO o ∧ x.length = n ∧ ∀ c ∈ x, c < 200 := by
  have hlt := hp.lt
  have hline : line = 16777216 := rfl
  obtain ⟨X, hX⟩ : ∃ X, X = [Ob.lst (four.map Val.str)] := ⟨_, rfl⟩
  obtain ⟨t, o1, et, ho1, ht⟩ := law_take (W := W) (k := k) (m := 4) (poolApp (T := X) hp) (by omega)
  rw [setApp hlt] at et
  have ht4 : t < 4 := by omega
  obtain ⟨L, hL⟩ : ∃ L, four[t]? = some L := ⟨_, List.getElem?_eq_getElem (show t < four.length from ht4)⟩
  obtain ⟨k1, k2, k3⟩ := four_ok L (List.mem_of_getElem? hL)
  obtain ⟨zs, S2, ec, o, cs, rfl, ho, rfl, hcl, hcc⟩ := signs_in (W := W) (k := k) (n := n) (X := X) hlt ho1 k1 k2 k3
  refine ⟨cs, o, ?_, ho, hcl, hcc⟩
  have hA : L2.atI [Val.str [97], Val.str [97, 98], Val.str [97, 98, 99], Val.str [97, 109, 122]] (t : Int) = some (.str L) := atI_some (x := four.map Val.str) (by rw [List.getElem?_map, hL]; rfl)
  have hX' : X = [Ob.lst [Val.str [97], Val.str [97, 98], Val.str [97, 98, 99], Val.str [97, 109, 122]]] := hX
  subst hX'
  have hg0 : ∀ (o : Ob) (T : Sto), (S.set p o ++ T)[S.length]? = T[0]? := fun o T => by
    have := getAtK (S := S.set p o) (k := 0) (T := T)
    simpa using this
  rw [callF_succ (d := fd14) rfl rfl]
  simp [fd14, startE, et, setE, hg0, hA]
  rw [rngN (by omega)]
  simp only [bind_ok]
  rw [ec]
  simp only [bind_ok, thaw_none]
  rw [lstR_ok (by simp; omega)]
  simp [-List.map_map]
  have hg1 : ∀ (o : Ob) (T : Sto), (S.set p o ++ T)[S.length + 1]? = T[1]? := fun o T => by
    have := getAtK (S := S.set p o) (k := 1) (T := T)
    simpa using this
  have hsum : ∀ cs : Tx, ((cs.map fun c => [c]).map List.length).sum = cs.length := fun cs => by
    induction cs with
    | nil => rfl
    | cons c cs ih => simp at ih ⊢; omega
  have hfl : ∀ cs : Tx, (cs.map fun c => [c]).flatten = cs := fun cs => by
    induction cs with
    | nil => rfl
    | cons c cs ih => simp at ih ⊢; exact ih
  rw [m_join (xs := cs.map fun c => [c]) (by rw [hg1]; rfl) (by rw [hsum]; omega), hfl]
  simp only [bind_ok]
  rw [← setApp hlt]
  exact gc_set hlt (by unfold refsV; rfl) ho.flat
end Law
set_option linter.all false
set_option Elab.async false
set_option maxRecDepth 100000
set_option maxHeartbeats 400000
namespace Law
open PySem MP
def eight : List Tx := [[98], [97], [99, 99], [122, 122], sx_abcdef, [97, 97], [98, 99, 99], [122]]
structure LotOk (m : Nat) (w : List (Tx × Tx)) : Prop where
  nd : (w.map (·.1)).Nodup
  nm : ∀ n ∈ w.map (·.1), n ∈ eight
  tx : ∀ p ∈ w, p.2.length ≤ m ∧ ∀ c ∈ p.2, c < 200
theorem lot_put {m : Nat} {w : List (Tx × Tx)} {n x : Tx} (h : LotOk m w) (hn : n ∈ eight) (hx : x.length ≤ m ∧ ∀ c ∈ x, c < 200) : LotOk m (putW w n x) := by
  refine ⟨?_, ?_, fun p hp => ?_⟩
  · rw [putW_keys]
    split
    · exact h.nd
    · rename_i hm
      exact List.nodup_append.mpr ⟨h.nd, by simp, fun a ha b hb e => by
        rw [List.mem_singleton.mp hb] at e
        exact hm (e ▸ ha)⟩
  · rw [putW_keys]
    split
    · exact h.nm
    · intro m hm
      rcases List.mem_append.mp hm with hm | hm
      · exact h.nm m hm
      · rw [List.mem_singleton.mp hm]; exact hn
  · rcases putW_mem hp with hp | rfl
    · exact h.tx p hp
    · exact hx
theorem erase_map {α β : Type} (f : α → β) : ∀ (xs : List α) (i : Nat), (xs.map f).eraseIdx i = (xs.eraseIdx i).map f
  | [], i => by simp
  | x :: xs, 0 => by simp
  | x :: xs, i + 1 => by simp [erase_map f xs i]
/-- one turn of the making of a lot -/
theorem lot_turn {tt m W k p : Nat} {S X : Sto} {o : Ob} {ns : List Tx} {w : List (Tx × Tx)} {j : Nat} {e5 e6 : Option Val} {x : Val} (hlt : p < S.length) (ho : PoolO o) (hn : ns ≠ []) (hn8 : ns.length ≤ 8) (hw : w.length ≤ 8) (hns : ∀ n ∈ ns, n ∈ eight) (hL : LotOk m w) (hm : m ≤ 3000) :
    ∃ (o' : Ob) (i : Nat) (n z : Tx), ns[i]? = some n ∧ forF (callF T W (k + 2)) W (.nm 5) [(.put (.var 4) (.mtd .pop (.var 3) [(.cal 13 [(.var 0), (.blt .len [(.var 3)])])]) (.cal 14 [(.var 0), (.cal 13 [(.var 0), (.bin .Add (.var 2) (.con (.int 1)))])]))] x [some (.ref p), some (.int (tt : Nat)), some (.int (m : Nat)), some (.ref S.length), some (.ref (S.length + 1)), e5, e6] (S.set p o ++ [Ob.lst (ns.map Val.str), Ob.dct (webK Val.str w)]) =
      .ok (.nx [some (.ref p), some (.int (tt : Nat)), some (.int (m : Nat)), some (.ref S.length), some (.ref (S.length + 1)), some x, e6]) (S.set p o' ++ [Ob.lst ((ns.eraseIdx i).map Val.str), Ob.dct (webK Val.str (putW w n z))]) ∧ PoolO o' ∧ LotOk m (putW w n z) := by
  have hline : line = 16777216 := rfl
  have hl0 : 0 < ns.length := List.length_pos_iff.mpr hn
  obtain ⟨t1, o1, e1, ho1, ht1⟩ := law_takeA (W := W) (k := k + 1) (m := ((m : Nat) : Int) + 1) (X := [Ob.lst (ns.map Val.str), Ob.dct (webK Val.str w)]) hlt ho (by omega)
  obtain ⟨z, o2, e2, ho2, hz1, hz2⟩ := law_signs (W := W) (k := k) (n := t1) (poolSA (X := [Ob.lst (ns.map Val.str), Ob.dct (webK Val.str w)]) hlt ho1) (by omega)
  rw [setApp (by simpa using hlt), List.set_set] at e2
  obtain ⟨t3, o3, e3, ho3, ht3⟩ := law_takeA (W := W) (k := k + 1) (m := (ns.length : Nat)) (X := [Ob.lst (ns.map Val.str), Ob.dct (webK Val.str w)]) hlt ho2 (by omega)
  obtain ⟨n, hni⟩ : ∃ n, ns[t3]? = some n := ⟨_, List.getElem?_eq_getElem (by omega)⟩
  refine ⟨o3, t3, n, z, hni, ?_, ho3, lot_put hL (hns n (List.mem_of_getElem? hni)) ⟨by omega, hz2⟩⟩
  have hg0 : ∀ (o : Ob) (T : Sto), (S.set p o ++ T)[S.length]? = T[0]? := fun o T => by
    have := getAtK (S := S.set p o) (k := 0) (T := T)
    simpa using this
  have hg1 : ∀ (o : Ob) (T : Sto), (S.set p o ++ T)[S.length + 1]? = T[1]? := fun o T => by
    have := getAtK (S := S.set p o) (k := 1) (T := T)
    simpa using this
  have hs0 : ∀ (o a b : Ob) (u : Ob), (S.set p o ++ [a, b]).set S.length u = S.set p o ++ [u, b] := fun o a b u => by
    rw [List.set_append_right _ _ (by simp)]; simp
  have hs1 : ∀ (o a b : Ob) (u : Ob), (S.set p o ++ [a, b]).set (S.length + 1) u = S.set p o ++ [a, u] := fun o a b u => by
    rw [List.set_append_right _ _ (by simp)]; simp
  have hp := m_pop (S := S.set p o3 ++ [Ob.lst (ns.map Val.str), Ob.dct (webK Val.str w)]) (a := S.length) (xs := ns.map Val.str) (i := t3) (y := .str n) (by rw [hg0]; rfl) (by rw [List.getElem?_map, hni]; rfl) (by simp; omega)
  rw [hs0] at hp
  rw [erase_map] at hp
  have hq : putD (S.length + 1) (webK Val.str w) (.str n) (.str z) (keyD (.str n)) (S.set p o3 ++ [Ob.lst ((ns.eraseIdx t3).map Val.str), Ob.dct (webK Val.str w)]) = .ok () (S.set p o3 ++ [Ob.lst ((ns.eraseIdx t3).map Val.str), Ob.dct (webK Val.str (putW w n z))]) := by
    rw [keyD_str, putD_some (by rw [webK_len]; omega), hs1, putK_web]
  rw [forF_ap]
  simp [setE, e1, e2, hg0, e3, hg1, hp, hq]
def lotFor : List MS := [(.put (.var 4) (.mtd .pop (.var 3) [(.cal 13 [(.var 0), (.blt .len [(.var 3)])])]) (.cal 14 [(.var 0), (.cal 13 [(.var 0), (.bin .Add (.var 2) (.con (.int 1)))])]))]
def lotEnd : List MS := [(.ite (.and (.cmp .Gt (.blt .len [(.var 4)]) (.con (.int 1))) (.cmp .Eq (.cal 13 [(.var 0), (.con (.int 3))]) (.con (.int 0)))) [(.asg (.nm 6) (.blt .sorted [(.var 4)])), (.put (.var 4) (.ix (.var 6) (.con (.int 0))) (.ix (.var 4) (.ix (.var 6) (.con (.int 1)))))] []),
  (.ret (.var 4))]
theorem lot_for {tt m W k p t : Nat} {S : Sto} {o : Ob} (hlt : p < S.length) (ho : PoolO o) (ht : t ≤ 8) (hm : m ≤ 3000) :
    Runs (forL [] (forF (callF T W (k + 2)) W (.nm 5) lotFor) ((List.range t).map fun (k : Nat) => Val.int (k : Int)) [some (.ref p), some (.int (tt : Nat)), some (.int (m : Nat)), some (.ref S.length), some (.ref (S.length + 1)), none, none] (S.set p o ++ [Ob.lst (eight.map Val.str), Ob.dct []])) fun r S' =>
      ∃ (o' : Ob) (ns : List Tx) (w : List (Tx × Tx)) (e : Option Val), r = .nx [some (.ref p), some (.int (tt : Nat)), some (.int (m : Nat)), some (.ref S.length), some (.ref (S.length + 1)), e, none] ∧ S' = S.set p o' ++ [Ob.lst (ns.map Val.str), Ob.dct (webK Val.str w)] ∧ PoolO o' ∧ w.length ≤ 8 ∧ LotOk m w := by
  refine forL_ix (gs := []) (fun j ρ S' => ∃ (o' : Ob) (ns : List Tx) (w : List (Tx × Tx)) (e : Option Val), ρ = [some (.ref p), some (.int (tt : Nat)), some (.int (m : Nat)), some (.ref S.length), some (.ref (S.length + 1)), e, none] ∧ S' = S.set p o' ++ [Ob.lst (ns.map Val.str), Ob.dct (webK Val.str w)] ∧ PoolO o' ∧ ns.length + j = 8 ∧ w.length ≤ j ∧ (∀ n ∈ ns, n ∈ eight) ∧ LotOk m w) _
    (fun _ _ _ _ => stays_nil) (fun j x ρ S1 hx ⟨o', ns, w, e, h1, h2, h3, h4, h5, h6, h7⟩ => ?_) (fun ρ S1 ⟨o', ns, w, e, h1, h2, h3, h4, h5, h6, h7⟩ => ⟨o', ns, w, e, by rw [h1], h2, h3, ?_, h7⟩) ⟨o, eight, [], none, rfl, rfl, ho, rfl, Nat.le_refl _, fun _ h => h, ⟨List.nodup_nil, by simp, by simp⟩⟩
  · subst h1; subst h2
    have hj : j < t := by
      have := (List.getElem?_eq_some_iff.mp hx).1
      simpa using this
    obtain ⟨o2, i, n, z, hi, e1, ho2, hL⟩ := lot_turn (W := W) (k := k) (X := []) (j := 0) (e5 := e) (e6 := none) (x := x) hlt h3 (ns := ns) (w := w) (by intro q; subst q; simp at h4; omega) (by omega) (by omega) h6 h7 hm
    have hil := (List.getElem?_eq_some_iff.mp hi).1
    unfold lotFor
    rw [e1]
    refine .mk ⟨o2, ns.eraseIdx i, putW w n z, _, rfl, rfl, ho2, by rw [List.length_eraseIdx_of_lt hil]; omega, by have := putW_len (w := w) (n := n) (v := z); omega, fun m hm => h6 m (List.mem_of_mem_eraseIdx hm), hL⟩
  · simp at h5; omega
theorem gc_lot {S T : Sto} {p : Nat} {o a : Ob} {w : List (Tx × Tx)} (hlt : p < S.length) (ho : PoolO o) : gcM S (.ok (.ref (S.length + 1)) (S.set p o ++ (a :: Ob.dct (webK Val.str w) :: T))) = .ok (.ref S.length) (S.set p o ++ [Ob.dct (webK Val.str w)]) := by
  have hr : refsO (Ob.dct (webK Val.str w)) = [] := by
    show refsVs ((webK Val.str w).map (·.1)) ++ refsVs ((webK Val.str w).map (·.2)) = []
    unfold webK
    induction w with
    | nil => rfl
    | cons q w ih => simpa [refsVs, refsV] using ih
  rw [gc_new (o := Ob.dct (webK Val.str w)) (by omega) (by rw [List.getElem?_append_right (by simp)]; simp) trivial (by rw [hr]; simp) fun i u hi => ?_]
  · rw [List.take_append_of_le_length (by simp), List.take_of_length_le (by simp)]
  · by_cases e : i = p
    · subst e
      exact ⟨o, by rw [List.getElem?_append_left (by simpa using hlt), List.getElem?_set_self hlt], .inr (by rw [ho.flat]; simp)⟩
    · exact ⟨u, by rw [List.getElem?_append_left (by simpa using lt_of_get hi), List.getElem?_set_ne (Ne.symm e)]; exact hi, .inl rfl⟩
theorem lot_end {tt m W k p : Nat} {S : Sto} {o : Ob} {ns : List Tx} {w : List (Tx × Tx)} {e : Option Val} (hlt : p < S.length) (ho : PoolO o) (hw : w.length ≤ 8) (hL : LotOk m w) :
    ∃ (o' : Ob) (w' : List (Tx × Tx)) (X : Sto), (meanB (callF T W (k + 2)) W lotEnd [some (.ref p), some (.int (tt : Nat)), some (.int (m : Nat)), some (.ref S.length), some (.ref (S.length + 1)), e, none] (S.set p o ++ [Ob.lst (ns.map Val.str), Ob.dct (webK Val.str w)])).bind (fun r S => endF r S) = .ok (.ref (S.length + 1)) (S.set p o' ++ (Ob.lst (ns.map Val.str) :: Ob.dct (webK Val.str w') :: X)) ∧ PoolO o' ∧ w'.length ≤ 8 ∧ LotOk m w' := by
  have hline : line = 16777216 := rfl
  have hg1 : ∀ (o : Ob) (T : Sto), (S.set p o ++ T)[S.length + 1]? = T[1]? := fun o T => by
    have := getAtK (S := S.set p o) (k := 1) (T := T)
    simpa using this
  have hg2 : ∀ (o : Ob) (T : Sto), (S.set p o ++ T)[S.length + 2]? = T[2]? := fun o T => by
    have := getAtK (S := S.set p o) (k := 2) (T := T)
    simpa using this
  by_cases h1 : 1 < w.length
  · obtain ⟨t, o2, e2, ho2, ht⟩ := law_takeA (W := W) (k := k + 1) (m := 3) (X := [Ob.lst (ns.map Val.str), Ob.dct (webK Val.str w)]) hlt ho (by omega)
    have h1' : (1 : Int) < (w.length : Nat) := by omega
    by_cases h0 : t = 0
    · subst h0
      have hkeys : ((webK Val.str w).map fun p => p.1) = (w.map fun p => p.1).map Val.str := web_keys
      have hso : srtOk (S.set p o2 ++ [Ob.lst (ns.map Val.str), Ob.dct (webK Val.str w)]) ((webK Val.str w).map fun p => p.1) := by
        rw [hkeys]; exact srtOk_strs (by simp; omega)
      have hlen : (sortT (w.map fun p => p.1)).length = w.length := by rw [(sortT_perm _).length_eq]; simp
      obtain ⟨a, ha⟩ : ∃ a, (sortT (w.map fun p => p.1))[0]? = some a := ⟨_, List.getElem?_eq_getElem (by omega)⟩
      obtain ⟨b, hb⟩ : ∃ b, (sortT (w.map fun p => p.1))[1]? = some b := ⟨_, List.getElem?_eq_getElem (by omega)⟩
      have ma : a ∈ w.map (·.1) := (sortT_perm _).mem_iff.mp (List.mem_of_getElem? ha)
      have mb : b ∈ w.map (·.1) := (sortT_perm _).mem_iff.mp (List.mem_of_getElem? hb)
      obtain ⟨x, hx⟩ := look_some mb
      have ha' : L2.atI ((sortT (w.map fun p => p.1)).map Val.str) 0 = some (.str a) := atI_some (j := 0) (by rw [List.getElem?_map, ha]; rfl)
      have hb' : L2.atI ((sortT (w.map fun p => p.1)).map Val.str) 1 = some (.str b) := atI_some (j := 1) (by rw [List.getElem?_map, hb]; rfl)
      have hs1 : ∀ (o a b c : Ob) (u : Ob), (S.set p o ++ [a, b, c]).set (S.length + 1) u = S.set p o ++ [a, u, c] := fun o a b c u => by
        rw [List.set_append_right _ _ (by simp)]; simp
      have hq : ∀ c, putD (S.length + 1) (webK Val.str w) (.str a) (.str x) (keyD (.str a)) (S.set p o2 ++ [Ob.lst (ns.map Val.str), Ob.dct (webK Val.str w), c]) = .ok () (S.set p o2 ++ [Ob.lst (ns.map Val.str), Ob.dct (webK Val.str (putW w a x)), c]) := fun c => by
        rw [keyD_str, putD_some (by rw [webK_len]; omega), hs1, putK_web]
      refine ⟨o2, putW w a x, [Ob.lst ((sortT (w.map fun p => p.1)).map Val.str)], ?_, ho2, by have hk := congrArg List.length (putW_keys (w := w) (n := a) (v := x)); rw [if_pos ma] at hk; simp at hk; omega, lot_put hL (hL.nm a ma) (hL.tx _ (look_mem hx))⟩
      have hst := sortR_dct (z := none) hso
      rw [hkeys, srtD_strs] at hst
      have hset : setO' (some (Ob.dct (webK Val.str w))) = none := rfl
      simp at e2
      simp [lotEnd, hg1, h1', e2, webK_len, hset, setE, -List.map_map]
      rw [hst]
      simp [hg1, hg2, ha', hb', hx, hq, -List.map_map]
    · refine ⟨o2, w, [], ?_, ho2, by omega, hL⟩
      have h0' : ¬ ((t : Int) = 0) := by omega
      simp [lotEnd, hg1, h1', e2, h0, webK_len]
  · refine ⟨o, w, [], ?_, ho, by omega, hL⟩
    have h1' : ¬ (1 : Int) < (w.length : Nat) := by omega
    simp [lotEnd, hg1, h1', webK_len]
theorem law_lot {tt m W k p : Nat} {S : Sto} (hp : PoolAt S p) (ht8 : tt ≤ 8) (hm : m ≤ 3000) : ∃ (w : List (Tx × Tx)) (o : Ob), callF T W (k + 3) 15 [.ref p, .int (tt : Nat), .int (m : Nat)] S = .ok (.ref S.length) (S.set p o ++ [Ob.dct (webK Val.str w)]) ∧ PoolO o ∧ w.length ≤ 8 ∧ LotOk m w := by
  have hlt := hp.lt
  obtain ⟨t, o1, et, ho1, ht⟩ := law_take (W := W) (k := k + 1) (m := ((tt : Nat) : Int) + 1) (poolApp (T := [Ob.lst (eight.map Val.str), Ob.dct []]) hp) (by omega)
  rw [setApp hlt] at et
  obtain ⟨r, S2, ef, o2, ns, w, e, rfl, rfl, ho2, hw, hL⟩ := lot_for (tt := tt) (m := m) (W := W) (k := k) (t := t) hlt ho1 (by omega) hm
  obtain ⟨o3, w3, X, el, ho3, hw3, hL3⟩ := lot_end (tt := tt) (m := m) (W := W) (k := k) (ns := ns) (e := e) hlt ho2 hw hL
  refine ⟨w3, o3, ?_, ho3, hw3, hL3⟩
  rw [callF_succ (d := fd15) rfl rfl]
  have h8 : eight.map Val.str = [Val.str [98], Val.str [97], Val.str [99, 99], Val.str [122, 122], Val.str sx_abcdef, Val.str [97, 97], Val.str [98, 99, 99], Val.str [122]] := rfl
  rw [h8] at et ef
  simp [fd15, startE, setE, et]
  rw [rngN (by omega)]
  simp only [bind_ok]
  unfold lotFor at ef
  rw [ef]
  simp only [bind_ok, thaw_none]
  unfold lotEnd at el
  simp only [aft_nx]
  rw [el]
  exact gc_lot hlt ho3
end Law
set_option linter.all false
set_option Elab.async false
set_option maxRecDepth 100000
set_option maxHeartbeats 400000
namespace Law
open PySem MP
abbrev letters : List Nat := sx_abcdefghijklmnopqrstuvwxyz
def lt1 (c : Nat) : Bool := decide (97 ≤ c ∧ c ≤ 122)
def sgT (x : Tx) : Bool := x.all lt1
theorem let_iff (c : Nat) : (c ∈ letters) ↔ lt1 c = true := by
  unfold lt1
  rw [decide_eq_true_iff]
  constructor
  · intro h
    have : ∀ c ∈ letters, 97 ≤ c ∧ c ≤ 122 := by decide
    exact this c h
  · intro h
    have h1 : ∀ i : Fin 26, (97 + i.1) ∈ letters := by decide
    have := h1 ⟨c - 97, by omega⟩
    simp only at this
    rwa [show 97 + (c - 97) = c by omega] at this
def sgV : Val → Bool
  | .str x => sgT x
  | _ => false
def nmV : Val → Bool
  | .str x => sgT x && decide (1 ≤ x.length ∧ x.length ≤ 6)
  | _ => false
@[simp] theorem sgV_str {x : Tx} : sgV (.str x) = sgT x := Eq.trans rfl rfl
@[simp] theorem nmV_str {x : Tx} : nmV (.str x) = (sgT x && decide (1 ≤ x.length ∧ x.length ≤ 6)) := Eq.trans rfl rfl
theorem sgV_not {v : Val} (h : isStr v = false) : sgV v = false ∧ nmV v = false := by
  cases v <;> first | exact ⟨rfl, rfl⟩ | cases h
theorem is_signs {W k : Nat} {v : Val} {S : Sto} (h : okV S v = true) : callF T W (k + 1) 0 [v] S = .ok (.bl (sgV v)) S := by
  rw [callF_succ (d := fd0) rfl rfl]
  simp [fd0, startE, isi_str h]
  cases hs : isStr v with
  | false => simp [(sgV_not hs).1]
  | true =>
    cases v with
    | str x =>
      have hx : x.length ≤ line := by simpa using h
      simp
      rw [compL_map (g := fun c => Val.bl (lt1 c)) stays_nil]
      · simp [hx, sgT]
      · intro c hc; simp [lcF_ap, setE]; rw [Bool.eq_iff_iff, decide_eq_true_iff]; exact let_iff c
    | _ => cases hs
theorem chn6 {x : Tx} : (decide ((1 : Int) ≤ (x.length : Int)) && decide ((x.length : Int) ≤ 6)) = decide (1 ≤ x.length ∧ x.length ≤ 6) := by
  rw [← Bool.decide_and]
  congr 1
  apply propext
  omega
theorem is_name {W k : Nat} {v : Val} {S : Sto} (h : okV S v = true) : callF T W (k + 2) 18 [v] S = .ok (.bl (nmV v)) S := by
  rw [callF_succ (d := fd18) rfl rfl]
  simp [fd18, startE, is_signs h]
  cases hs : isStr v with
  | false => simp [sgV_not hs]
  | true =>
    cases v with
    | str x =>
      have hx : x.length ≤ line := by simpa using h
      cases hg : sgT x with
      | false => simp [hg]
      | true =>
        by_cases h1 : 1 ≤ x.length
        · have h1' : (1 : Int) ≤ (x.length : Int) := by omega
          by_cases h6 : x.length ≤ 6
          · have h6' : (x.length : Int) ≤ 6 := by omega
            simp [hg, hx, h1, h6, h1', h6']
          · have h6' : ¬ (x.length : Int) ≤ 6 := by omega
            simp [hg, hx, h1, h6, h1', h6']
        · have h1' : ¬ (1 : Int) ≤ (x.length : Int) := by omega
          simp [hg, hx, h1, h1']
    | _ => cases hs
theorem filt_not (x : Tx) : (x.filterMap fun c => if lt1 c = true then none else some (Val.str [c])) = ((x.filter fun c => !lt1 c).map fun c => [c]).map Val.str := by
  induction x with
  | nil => rfl
  | cons c x ih => cases h : lt1 c <;> simp [h] at ih ⊢ <;> exact ih
theorem sg_nil (x : Tx) : decide ((x.filter fun c => !lt1 c) = []) = sgT x := by
  unfold sgT
  rw [Bool.eq_iff_iff, decide_eq_true_iff, List.filter_eq_nil_iff, List.all_eq_true]
  simp
theorem law_signs_so {W k : Nat} {v : Val} {S : Sto} (h : okV S v = true) : callF T W (k + 1) 20 [v] S = .ok (.bl (sgV v)) S := by
  rw [callF_succ (d := fd20) rfl rfl]
  simp [fd20, startE, isi_str h]
  cases hs : isStr v with
  | false => simp [(sgV_not hs).1]
  | true =>
    cases v with
    | str x =>
      have hx : x.length ≤ line := by simpa using h
      simp
      rw [compL_fm (g := fun c => if lt1 c = true then none else some (Val.str [c])) stays_nil]
      · rw [filt_not]
        have hl : (x.filter fun c => !lt1 c).length ≤ line := Nat.le_trans (List.length_filter_le _ _) hx
        simp only [bind_ok]
        rw [lstR_ok (by simpa using hl)]
        simp [-List.map_map]
        rw [eqD_lst (n := 59) (xs := ((x.filter fun c => !lt1 c).map fun c => [c]).map Val.str) (ys := []) (by simp) (by simp), eqs_nil]
        simp only [bl1_some, bind_ok, gcB]
        rw [← sg_nil x]
        simp
      · intro c hc
        rw [lcF_ap]
        by_cases h1 : c < 97
        · have : lt1 c = false := by unfold lt1; simp; omega
          simp [setE, MP.lt_one, h1, this]
        · by_cases h2 : 122 < c
          · have : lt1 c = false := by unfold lt1; simp; omega
            simp [setE, MP.lt_one, h1, h2, this]
          · have : lt1 c = true := by unfold lt1; simp; omega
            simp [setE, MP.lt_one, h1, h2, this]
    | _ => cases hs
end Law
set_option linter.all false
set_option Elab.async false
set_option maxRecDepth 100000
set_option maxHeartbeats 400000
namespace Law
open PySem MP
def lnV : Val → Int
  | .str x => (x.length : Nat)
  | _ => 0
def oneK (p : Val × Val) : Bool := nmV p.1 && sgV p.2
def lotK (kvs : List (Val × Val)) : Bool := decide (kvs.length ≤ 8) && kvs.all oneK && decide ((kvs.map fun p => lnV p.2).sum ≤ 400)
theorem okV_lock {S : Sto} {d : Nat} {kvs : List (Val × Val)} {v : Val} (h : okV S v = true) : okV (S.set d (.fdc kvs)) v = true := by
  cases v with
  | ref i =>
    simp only [okV_ref] at h ⊢
    by_cases e : d = i
    · subst e
      by_cases hl : d < S.length
      · rw [List.getElem?_set_self hl]; rfl
      · rw [List.getElem?_eq_none (by omega)] at h; cases h
    · rw [List.getElem?_set_ne e]; exact h
  | _ => exact h
theorem set_back {S : Sto} {d : Nat} {o : Ob} (h : S[d]? = some o) : S.set d o = S := by
  obtain ⟨hl, e⟩ := List.getElem?_eq_some_iff.mp h
  rw [← e, List.set_getElem_self]
theorem unlock {S : Sto} {d : Nat} {kvs : List (Val × Val)} (hd : S[d]? = some (.dct kvs)) : (S.set d (.fdc kvs)).set d (.dct kvs) = S := by
  rw [List.set_set]
  exact set_back hd
theorem one_str {p : Val × Val} (h : oneK p = true) : ∃ x y, p = (.str x, .str y) := by
  obtain ⟨a, b⟩ := p
  unfold oneK at h
  rw [Bool.and_eq_true] at h
  obtain ⟨h1, h2⟩ := h
  cases a <;> first | (cases h1; done) | skip
  cases b <;> first | (cases h2; done) | skip
  exact ⟨_, _, rfl⟩
theorem is_lot {W k d : Nat} {kvs : List (Val × Val)} {S : Sto} (hd : S[d]? = some (.dct kvs)) (hok : ∀ p ∈ kvs, okV S p.1 = true ∧ okV S p.2 = true) : callF T W (k + 3) 19 [.ref d] S = .ok (.bl (lotK kvs)) S := by
  have hline : line = 16777216 := rfl
  have hl := lt_of_get hd
  have hg : (S.set d (.fdc kvs))[d]? = some (.fdc kvs) := List.getElem?_set_self hl
  rw [callF_succ (d := fd19) rfl rfl]
  simp [fd19, startE, hd]
  by_cases h8 : kvs.length ≤ 8
  · have h8' : ¬ (8 : Int) < (kvs.length : Int) := by omega
    simp [h8']
    have e1 := compL_map (gs := [(d, Ob.fdc kvs)]) (f := lcF (callF T W (k + 2)) (.and (.cal 18 [(.var 1)]) (.cal 0 [(.var 2)])) (.tp [(.nm 1), (.nm 2)]) [] [some (.ref d), none, none]) (S := S.set d (.fdc kvs)) (k := fun p : Val × Val => .tup [p.1, p.2]) (g := fun p => Val.bl (oneK p)) (stays_one hg) (xs := kvs) fun p hp => by
      have h1 := okV_lock (d := d) (kvs := kvs) (hok p hp).1
      have h2 := okV_lock (d := d) (kvs := kvs) (hok p hp).2
      rw [lcF_ap]
      simp [setE, is_name h1, is_signs h2, oneK]
      cases nmV p.1 <;> simp
    rw [e1]
    simp only [bind_ok]
    rw [hg, thawO_fdc, unlock hd]
    simp only [bind_ok]
    rw [lstR_ok (by simp; omega)]
    simp only [bind_ok, f_all, getAt0, seqO_lst, allR_map, t_bl]
    cases ha : kvs.all oneK with
    | false => simp [lotK, ha]
    | true =>
      rw [List.all_eq_true] at ha
      have hd2 : ∀ X : Sto, (S ++ X)[d]? = some (.dct kvs) := fun X => by rw [getOld hl]; exact hd
      have hg2 : ∀ X : Sto, ((S ++ X).set d (.fdc kvs))[d]? = some (.fdc kvs) := fun X => List.getElem?_set_self (by simp; omega)
      have e2 := fun X : Sto => compL_map (gs := [(d, Ob.fdc kvs)]) (f := lcF (callF T W (k + 2)) (.blt .len [(.var 2)]) (.nm 2) [] [some (.ref d), none, none]) (S := (S ++ X).set d (.fdc kvs)) (k := fun p : Val × Val => p.2) (g := fun p => Val.int (lnV p.2)) (stays_one (hg2 X)) (xs := kvs) fun p hp => by
        obtain ⟨x, y, rfl⟩ := one_str (ha p hp)
        have h2 := (hok _ hp).2
        have hy : y.length ≤ line := by simpa using h2
        rw [lcF_ap]
        simp [setE, hy, lnV]
      simp [hd2]
      rw [e2]
      simp only [bind_ok]
      rw [hg2, thawO_fdc, unlock (hd2 _)]
      simp only [bind_ok]
      rw [lstR_ok (by simp; omega)]
      have ha' : kvs.all oneK = true := List.all_eq_true.mpr ha
      simp [lotK, ha', h8]
  · have h8' : (8 : Int) < (kvs.length : Int) := by omega
    simp [h8', lotK, h8]
theorem is_lot_no {W k : Nat} {v : Val} {S : Sto} (h : isiV .dict v S = .ok (.bl false) S) : callF T W (k + 3) 19 [v] S = .ok (.bl false) S := by
  rw [callF_succ (d := fd19) rfl rfl]
  simp [fd19, startE, h]
theorem law_lot_no {W k : Nat} {v : Val} {S : Sto} (h : isiV .dict v S = .ok (.bl false) S) : callF T W (k + 2) 21 [v] S = .ok (.bl false) S := by
  rw [callF_succ (d := fd21) rfl rfl]
  simp [fd21, startE, h]
def lsF : List MS := [(.ite (.or (.not (.cal 20 [(.var 1)])) (.or (.not (.chn .LtE .LtE (.con (.int 1)) (.blt .len [(.var 1)]) (.con (.int 6)))) (.not (.cal 20 [(.ix (.var 0) (.var 1))])))) [(.ret (.con (.bl false)))] [])]
theorem ls_turn {W k d : Nat} {kvs : List (Val × Val)} {S : Sto} {p : Val × Val} {e : Option Val} (hg : S[d]? = some (.fdc kvs)) (hw : DWf kvs) (hp : p ∈ kvs) (h1 : okV S p.1 = true) (h2 : okV S p.2 = true) :
    forF (callF T W (k + 1)) W (.nm 1) lsF p.1 [some (.ref d), e] S = .ok (if oneK p = true then .nx [some (.ref d), some p.1] else .rt (.bl false)) S := by
  have hat := hw.at hp
  rw [forF_ap]
  simp [lsF, setE, law_signs_so h1]
  cases hs : isStr p.1 with
  | false =>
    have := sgV_not hs
    simp [this, oneK]
  | true =>
    obtain ⟨a, b⟩ := p
    cases a with
    | str x =>
      have hx : x.length ≤ line := by simpa using h1
      cases hx1 : sgT x with
      | false => simp [hx1, oneK]
      | true =>
        by_cases q1 : 1 ≤ x.length
        · have q1' : (1 : Int) ≤ (x.length : Int) := by omega
          by_cases q6 : x.length ≤ 6
          · have q6' : (x.length : Int) ≤ 6 := by omega
            simp only at hat
            simp [hx1, hx, q1', q6', hg, hat, law_signs_so h2, oneK, q1, q6]
            cases sgV b <;> simp
          · have q6' : ¬ (x.length : Int) ≤ 6 := by omega
            simp [hx1, hx, q1', q6', oneK, q6]
        · have q1' : ¬ (1 : Int) ≤ (x.length : Int) := by omega
          simp [hx1, hx, q1', oneK, q1]
    | _ => cases hs
end Law
set_option linter.all false
set_option Elab.async false
set_option maxRecDepth 100000
set_option maxHeartbeats 400000
namespace Law
open PySem MP
theorem take_all {kvs : List (Val × Val)} {j : Nat} {p : Val × Val} (hp : kvs[j]? = some p) : (kvs.take (j + 1)).all oneK = ((kvs.take j).all oneK && oneK p) := by
  rw [List.take_succ, hp]
  simp
theorem ls_for {W k d : Nat} {kvs : List (Val × Val)} {S : Sto} (hg : S[d]? = some (.fdc kvs)) (hw : DWf kvs) (hok : ∀ p ∈ kvs, okV S p.1 = true ∧ okV S p.2 = true) :
    Runs (forL [(d, Ob.fdc kvs)] (forF (callF T W (k + 1)) W (.nm 1) lsF) (kvs.map fun p => p.1) [some (.ref d), none] S) fun r S' => S' = S ∧ ((∃ e, r = .nx [some (.ref d), e] ∧ kvs.all oneK = true) ∨ r = .rt (.bl false) ∧ kvs.all oneK = false) :=
  forL_ix (fun j ρ S' => S' = S ∧ (∃ e, ρ = [some (.ref d), e]) ∧ (kvs.take j).all oneK = true) _ (fun _ _ _ h => by rw [h.1]; exact stays_one hg) (fun j v ρ S1 hv ⟨h1, ⟨e, h2⟩, h3⟩ => by
    subst h1; subst h2
    rw [List.getElem?_map] at hv
    obtain ⟨p, hp, rfl⟩ := Option.map_eq_some_iff.mp hv
    have hm := List.mem_of_getElem? hp
    rw [ls_turn hg hw hm (hok p hm).1 (hok p hm).2]
    cases ho : oneK p with
    | true => exact .mk ⟨rfl, ⟨_, rfl⟩, by rw [take_all hp, h3, ho]; rfl⟩
    | false =>
      refine .mk ⟨rfl, .inr ⟨rfl, ?_⟩⟩
      rw [Bool.eq_false_iff]
      intro ha
      have := List.all_eq_true.mp ha p hm
      rw [ho] at this
      cases this) (fun ρ S1 ⟨h1, ⟨e, h2⟩, h3⟩ => by
    subst h2
    refine ⟨h1, .inl ⟨e, rfl, ?_⟩⟩
    rw [List.length_map, List.take_length] at h3
    exact h3) ⟨rfl, ⟨_, rfl⟩, rfl⟩
theorem law_lot_so {W k d : Nat} {kvs : List (Val × Val)} {S : Sto} (hd : S[d]? = some (.dct kvs)) (hw : DWf kvs) (hok : ∀ p ∈ kvs, okV S p.1 = true ∧ okV S p.2 = true) : callF T W (k + 2) 21 [.ref d] S = .ok (.bl (lotK kvs)) S := by
  have hline : line = 16777216 := rfl
  have hl := lt_of_get hd
  have hg : (S.set d (.fdc kvs))[d]? = some (.fdc kvs) := List.getElem?_set_self hl
  rw [callF_succ (d := fd21) rfl rfl]
  simp [fd21, startE, hd]
  by_cases h8 : kvs.length ≤ 8
  · have h8' : ¬ (8 : Int) < (kvs.length : Int) := by omega
    simp [h8']
    obtain ⟨r, S2, e, rfl, q⟩ := ls_for (W := W) (k := k) hg hw fun p hp => ⟨okV_lock (hok p hp).1, okV_lock (hok p hp).2⟩
    unfold lsF at e
    rw [e]
    simp only [bind_ok]
    rw [hg, thawO_fdc, unlock hd]
    rcases q with ⟨e1, rfl, ha⟩ | ⟨rfl, ha⟩
    · simp only [bind_ok, aft_nx]
      have ha' := List.all_eq_true.mp ha
      have e2 := compL_map (gs := [(d, Ob.fdc kvs)]) (f := lcF (callF T W (k + 1)) (.blt .len [(.ix (.var 0) (.var 1))]) (.nm 1) [] [some (.ref d), e1]) (S := S.set d (.fdc kvs)) (k := fun p : Val × Val => p.1) (g := fun p => Val.int (lnV p.2)) (stays_one hg) (xs := kvs) fun p hp => by
        have hat := hw.at hp
        obtain ⟨x, y, rfl⟩ := one_str (ha' p hp)
        have h2 := (hok _ hp).2
        have hy : y.length ≤ line := by simpa using h2
        simp only at hat
        rw [lcF_ap]
        simp [setE, hg, hat, hy, lnV]
      simp [hd]
      rw [e2]
      simp only [bind_ok]
      rw [hg, thawO_fdc, unlock hd]
      simp only [bind_ok]
      rw [lstR_ok (by simp; omega)]
      simp [lotK, ha, h8]
    · simp [lotK, ha]
  · have h8' : (8 : Int) < (kvs.length : Int) := by omega
    simp [h8', lotK, h8]
/-- what is asked of a thing -/
def Fine (S : Sto) (v : Val) : Prop := okV S v = true ∧ match v with
  | .ref i => ∀ kvs, S[i]? = some (.dct kvs) → DWf kvs ∧ ∀ p ∈ kvs, okV S p.1 = true ∧ okV S p.2 = true
  | _ => True
def NoF (S : Sto) (v : Val) : Prop := match v with
  | .ref i => ∀ kvs, S[i]? ≠ some (.fdc kvs)
  | _ => True
def lotV (S : Sto) : Val → Bool
  | .ref i => match S[i]? with
    | some (.dct kvs) => lotK kvs
    | _ => false
  | _ => false
theorem lots {W k : Nat} {v : Val} {S : Sto} (h : Fine S v) (hn : NoF S v) : callF T W (k + 3) 19 [v] S = .ok (.bl (lotV S v)) S ∧ callF T W (k + 2) 21 [v] S = .ok (.bl (lotV S v)) S := by
  obtain ⟨h1, h2⟩ := h
  have no : isiV .dict v S = .ok (.bl false) S → lotV S v = false → callF T W (k + 3) 19 [v] S = .ok (.bl (lotV S v)) S ∧ callF T W (k + 2) 21 [v] S = .ok (.bl (lotV S v)) S := fun a b => by
    rw [b]; exact ⟨is_lot_no a, law_lot_no a⟩
  cases v with
  | ref i =>
    have hl : lotV S (.ref i) = match S[i]? with | some (.dct kvs) => lotK kvs | _ => false := rfl
    rcases okO_some (by simpa using h1) with ⟨xs, e⟩ | ⟨xs, e⟩ | ⟨xs, e⟩ | ⟨xs, e⟩
    · exact no (by simp [e]) (by rw [hl, e])
    · exact no (by simp [e]) (by rw [hl, e])
    · obtain ⟨w, ok⟩ := h2 xs e
      rw [hl, e]
      exact ⟨is_lot e ok, law_lot_so e w ok⟩
    · exact absurd e (hn xs)
  | fn f => cases h1
  | non => exact no (by simp) rfl
  | bl b => exact no (by simp) rfl
  | int b => exact no (by simp) rfl
  | str b => exact no (by simp) rfl
  | tup b => exact no (by simp) rfl
theorem repr_bls {a b c : Bool} : ∃ t, ∀ (S : Sto) (i : Nat), S[i]? = some (.lst [.bl a, .bl b, .bl c]) → reprV S (.ref i) = some t := by
  have e : ∀ (S : Sto) (i : Nat), S[i]? = some (.lst [.bl a, .bl b, .bl c]) → datV 60 S (.ref i) = some (.list [.bool a, .bool b, .bool c]) := fun S i h => by
    have hb : ∀ b : Bool, datV (58 + 1) S (.bl b) = some (.bool b) := fun b => by unfold datV; rfl
    unfold datV
    simp only [h]
    simp only [optAll, hb, Option.map_some]
  have h1 : (PyData.list [.bool a, .bool b, .bool c]).showable = true := by cases a <;> cases b <;> cases c <;> decide
  have h2 : (PyData.list [.bool a, .bool b, .bool c]).shown.length ≤ line := by
    have : (PyData.list [.bool a, .bool b, .bool c]).shown.length ≤ 100 := by cases a <;> cases b <;> cases c <;> decide +kernel
    exact Nat.le_trans this (by decide)
  refine ⟨(PyData.list [.bool a, .bool b, .bool c]).shown.cps.toList, fun S i h => ?_⟩
  unfold reprV
  rw [e S i h]
  simp only
  rw [if_pos ⟨h1, h2⟩]
end Law
set_option linter.all false
set_option Elab.async false
set_option maxRecDepth 100000
set_option maxHeartbeats 400000
namespace Law
open PySem MP
theorem ok_lt {S : Sto} {i : Nat} (h : okV S (.ref i) = true) : i < S.length := by
  by_cases hl : i < S.length
  · exact hl
  · rw [okV_ref, List.getElem?_eq_none (by omega)] at h; cases h
theorem okV_app {S X : Sto} {v : Val} (h : okV S v = true) : okV (S ++ X) v = true := by
  cases v with
  | ref i => rw [okV_ref, getOld (ok_lt h)]; exact h
  | _ => exact h
theorem Fine.app {S X : Sto} {v : Val} (h : Fine S v) : Fine (S ++ X) v := by
  obtain ⟨h1, h2⟩ := h
  refine ⟨okV_app h1, ?_⟩
  cases v with
  | ref i =>
    intro kvs e
    rw [getOld (ok_lt h1)] at e
    obtain ⟨w, ok⟩ := h2 kvs e
    exact ⟨w, fun p hp => ⟨okV_app (ok p hp).1, okV_app (ok p hp).2⟩⟩
  | _ => trivial
theorem nof_app {S X : Sto} {v : Val} (h1 : okV S v = true) (h : NoF S v) : NoF (S ++ X) v := by
  cases v with
  | ref i =>
    intro kvs e
    rw [getOld (ok_lt h1)] at e
    exact h kvs e
  | _ => trivial
theorem lotV_app {S X : Sto} {v : Val} (h1 : okV S v = true) : lotV (S ++ X) v = lotV S v := by
  cases v with
  | ref i =>
    have e : ∀ S, lotV S (.ref i) = match S[i]? with | some (.dct kvs) => lotK kvs | _ => false := fun _ => rfl
    rw [e, e, getOld (ok_lt h1)]
  | _ => rfl
theorem eqs_bls {S : Sto} {n : Nat} (xs : List Bool) : eqs (fun p => eqD (n + 1) S p.1 p.2) (xs.map Val.bl) (xs.map Val.bl) = some true := by
  rw [eqs_map (v := Val.bl) (fun a b => eqD_bl)]
  simp
theorem right {W k : Nat} {v : Val} {S : Sto} (h : Fine S v) (hn : NoF S v) : callF T W (k + 4) 22 [v] S = .ok (.bl true) S := by
  have h1 := h.1
  obtain ⟨l1, l2⟩ := lots (W := W) (k := k) h hn
  have l2' := (lots (W := W) (k := k + 1) h hn).2
  have sg : ∀ X : Sto, callF T W (k + 3) 0 [v] (S ++ X) = .ok (.bl (sgV v)) (S ++ X) := fun X => is_signs (okV_app h1)
  have nm : ∀ X : Sto, callF T W (k + 3) 18 [v] (S ++ X) = .ok (.bl (nmV v)) (S ++ X) := fun X => is_name (okV_app h1)
  have lt : ∀ X : Sto, callF T W (k + 3) 19 [v] (S ++ X) = .ok (.bl (lotV S v)) (S ++ X) := fun X => by
    have := (lots (W := W) (k := k) (h.app (X := X)) (nof_app h1 hn)).1
    rw [lotV_app h1] at this
    exact this
  obtain ⟨t, ht⟩ := repr_bls (a := sgV v) (b := nmV v) (c := lotV S v)
  have r1 : ∀ X : Sto, reprV (S ++ (Ob.lst [.bl (sgV v), .bl (nmV v), .bl (lotV S v)] :: X)) (.ref S.length) = some t := fun X => ht _ _ (by simp)
  have r2 : ∀ (a : Ob) (X : Sto), reprV (S ++ (a :: Ob.lst [.bl (sgV v), .bl (nmV v), .bl (lotV S v)] :: X)) (.ref (S.length + 1)) = some t := fun a X => ht _ _ (by rw [getAtK]; rfl)
  have e3 : ∀ X : Sto, eqD 60 (S ++ (Ob.lst [.bl (sgV v), .bl (nmV v), .bl (lotV S v)] :: Ob.lst [.bl (sgV v), .bl (nmV v), .bl (lotV S v)] :: Ob.lst [.bl (sgV v), .bl (nmV v), .bl (lotV S v)] :: X)) (.ref (S.length + 2)) (.ref S.length) = some true := fun X => by
    rw [eqD_lst (n := 59) (xs := [sgV v, nmV v, lotV S v].map Val.bl) (ys := [sgV v, nmV v, lotV S v].map Val.bl) (by rw [getAtK]; rfl) (by simp), eqs_bls]
  have s20 : callF T W (k + 3) 20 [v] S = .ok (.bl (sgV v)) S := law_signs_so h1
  have l21 : callF T W (k + 3) 21 [v] S = .ok (.bl (lotV S v)) S := l2'
  rw [callF_succ (d := fd22) rfl rfl]
  cases hs : isStr v with
  | false =>
    obtain ⟨n1, n2⟩ := sgV_not hs
    rw [n1, n2] at r1 r2 e3
    rw [n1] at s20 sg
    rw [n2] at nm
    simp [fd22, startE, setE, s20, l21, sg, nm, lt, r1, r2, e3, n1, n2]
  | true =>
    cases v with
    | str x =>
      have hx : x.length ≤ line := by simpa using h1
      cases hg : sgT x with
      | false =>
        have n1 : sgV (.str x) = false := hg
        have n2 : nmV (.str x) = false := by rw [nmV_str, hg]; rfl
        rw [n1, n2] at r1 r2 e3
        rw [n1] at s20 sg
        rw [n2] at nm
        simp [fd22, startE, setE, s20, l21, sg, nm, lt, r1, r2, e3]
      | true =>
        have n1 : sgV (.str x) = true := hg
        rw [n1] at s20 sg r1 r2 e3
        by_cases h1 : 1 ≤ x.length
        · have h1' : (1 : Int) ≤ (x.length : Int) := by omega
          by_cases h6 : x.length ≤ 6
          · have h6' : (x.length : Int) ≤ 6 := by omega
            have n2 : nmV (.str x) = true := by rw [nmV_str, hg]; simp [h1, h6]
            rw [n2] at nm r1 r2 e3
            simp [fd22, startE, setE, s20, l21, sg, nm, lt, r1, r2, e3, hx, h1', h6']
          · have h6' : ¬ (x.length : Int) ≤ 6 := by omega
            have n2 : nmV (.str x) = false := by rw [nmV_str, hg]; simp [h6]
            rw [n2] at nm r1 r2 e3
            simp [fd22, startE, setE, s20, l21, sg, nm, lt, r1, r2, e3, hx, h1', h6']
        · have h1' : ¬ (1 : Int) ≤ (x.length : Int) := by omega
          have n2 : nmV (.str x) = false := by rw [nmV_str, hg]; simp [h1]
          rw [n2] at nm r1 r2 e3
          simp [fd22, startE, setE, s20, l21, sg, nm, lt, r1, r2, e3, hx, h1']
    | _ => cases hs
end Law
set_option linter.all false
set_option Elab.async false
set_option maxRecDepth 100000
set_option maxHeartbeats 400000
namespace Law
open PySem MP
def eightL : List Tx := [[97], [98], [99], [100], [101], [102], [103], [104]]
def nineL : List Tx := [[97], [98], [99], [100], [101], [102], [103], [104], [105]]
def mulT (a : Tx) (k : Int) : Tx := (PySem.Txt.mul (stx a) k).cps.toList
theorem mul_short : (mulT [97, 98] 25).length ≤ 500 ∧ (mulT [98] 400).length ≤ 500 ∧ (mulT [98] 401).length ≤ 500 ∧ (mulT [98] 399).length ≤ 500 := by decide +kernel
/-- a plain thing that may be a key -/
def Odd (v : Val) : Prop := (∀ S, okV S v = true) ∧ (∃ k, keyD v = some k) ∧ ∀ i, v ≠ .ref i
def odds : List Val := [.non, .bl true, .int 0, .int (-1), .int 100000000000000000000000000000, .str [], .str [97], .str sx_abcdef, .str sx_abcdefg, .str [65], .str [97, 32, 98], .str [97, 10], .str [123], .str [96], .tup []]
theorem odds_ok : ∀ v ∈ odds, Odd v := by
  have hline : line = 16777216 := rfl
  have st : ∀ x : Tx, x.length ≤ 20 → Odd (.str x) := fun x hx => ⟨fun S => by simp; omega, ⟨_, keyD_str⟩, fun i e => by cases e⟩
  have it : ∀ x : Int, Odd (.int x) := fun x => ⟨fun S => rfl, ⟨_, keyD_int⟩, fun i e => by cases e⟩
  intro v hv
  simp only [odds, List.mem_cons, List.not_mem_nil, or_false] at hv
  rcases hv with rfl | rfl | rfl | rfl | rfl | rfl | rfl | rfl | rfl | rfl | rfl | rfl | rfl | rfl | rfl
  · exact ⟨fun S => rfl, ⟨_, keyD_non⟩, fun i e => by cases e⟩
  · exact ⟨fun S => rfl, ⟨_, keyD_bl⟩, fun i e => by cases e⟩
  · exact it _
  · exact it _
  · exact it _
  · exact st _ (by decide)
  · exact st _ (by decide)
  · exact st _ (by decide)
  · exact st _ (by decide)
  · exact st _ (by decide)
  · exact st _ (by decide)
  · exact st _ (by decide)
  · exact st _ (by decide)
  · exact st _ (by decide)
  · exact ⟨fun S => rfl, ⟨_, keyD_tup0⟩, fun i e => by cases e⟩
theorem fine_plain {S : Sto} {v : Val} (h : okV S v = true) (hr : ∀ i, v ≠ .ref i) : Fine S v ∧ NoF S v := by
  cases v with
  | ref i => exact absurd rfl (hr i)
  | _ => exact ⟨⟨h, trivial⟩, trivial⟩
theorem fine_dct {S : Sto} {i : Nat} {kvs : List (Val × Val)} (h : S[i]? = some (.dct kvs)) (hw : DWf kvs) (hok : ∀ p ∈ kvs, okV S p.1 = true ∧ okV S p.2 = true) : Fine S (.ref i) ∧ NoF S (.ref i) := by
  refine ⟨⟨by rw [okV_ref, h]; rfl, fun kvs' e => ?_⟩, fun kvs' e => ?_⟩
  · rw [h] at e; cases e; exact ⟨hw, hok⟩
  · rw [h] at e; cases e
theorem fine_lst {S : Sto} {i : Nat} {xs : List Val} (h : S[i]? = some (.lst xs)) : Fine S (.ref i) ∧ NoF S (.ref i) := by
  refine ⟨⟨by rw [okV_ref, h]; rfl, fun kvs' e => ?_⟩, fun kvs' e => ?_⟩
  · rw [h] at e; cases e
  · rw [h] at e; cases e
/-- all are right: none is left -/
theorem none_left {W k l : Nat} {S : Sto} {xs : List Val} {e0 e1 e2 e3 e4 e5 e6 e7 e8 e9 e10 e11 e12 : Option Val} (hl : S[l]? = some (.lst xs)) (h : ∀ v ∈ xs, Fine S v ∧ NoF S v) :
    compL [(l, Ob.lst xs)] (lcF (callF T W (k + 4)) (.var 11) (.nm 11) [(.not (.cal 22 [(.var 11)]))] [e0, e1, e2, e3, e4, e5, e6, e7, e8, e9, e10, e11, e12]) xs S = .ok [] S := by
  have e := compL_fm (k := fun v => v) (gs := [(l, Ob.lst xs)]) (f := lcF (callF T W (k + 4)) (.var 11) (.nm 11) [(.not (.cal 22 [(.var 11)]))] [e0, e1, e2, e3, e4, e5, e6, e7, e8, e9, e10, e11, e12]) (g := fun _ => none) (S := S) (stays_one hl) (xs := xs) fun v hv => by
    rw [lcF_ap]
    simp [setE, right (h v hv).1 (h v hv).2]
  rw [List.map_id'] at e
  rw [e]
  simp
def fullK : List (Val × Val) := eightL.foldl (fun kvs a => putK kvs (.text (stx a)) (.str a) (.str (mulT [97, 98] 25))) []
def nineK : List (Val × Val) := nineL.foldl (fun kvs a => putK kvs (.text (stx a)) (.str a) (.str [])) []
theorem full_ok : DWf fullK ∧ ∀ S, ∀ p ∈ fullK, okV S p.1 = true ∧ okV S p.2 = true := by
  have hline : line = 16777216 := rfl
  refine ⟨DWf.puts (k := Val.str) (v := fun _ => .str (mulT [97, 98] 25)) (fun a => keyD_str) eightL [] .nil, fun S => puts_mem (k := Val.str) (v := fun _ => .str (mulT [97, 98] 25)) (n := fun a => .text (stx a)) (P := fun v => okV S v = true) eightL [] (by simp) fun a ha => ?_⟩
  have : ∀ a ∈ eightL, a.length ≤ 10 := by decide
  have h1 := this a ha
  have h2 := mul_short.1
  constructor
  · simp; omega
  · simp; omega
theorem nine_ok : DWf nineK ∧ ∀ S, ∀ p ∈ nineK, okV S p.1 = true ∧ okV S p.2 = true := by
  have hline : line = 16777216 := rfl
  refine ⟨DWf.puts (k := Val.str) (v := fun _ => .str []) (fun a => keyD_str) nineL [] .nil, fun S => puts_mem (k := Val.str) (v := fun _ => .str []) (n := fun a => .text (stx a)) (P := fun v => okV S v = true) nineL [] (by simp) fun a ha => ?_⟩
  have : ∀ a ∈ nineL, a.length ≤ 10 := by decide
  have h1 := this a ha
  constructor
  · simp; omega
  · simp
end Law
set_option linter.all false
set_option Elab.async false
set_option maxRecDepth 100000
set_option maxHeartbeats 400000
namespace Law
open PySem MP
def sL (i : Nat) : MS := fd23.body.getD i .pass
def someL (n : Nat) : List Val := odds ++ [.ref n, .ref (n + 1), .tup [.str [97]]]
theorem st0 {φ : Nat → List Val → M Val} {W : Nat} {S : Sto} {e0 e1 e2 e3 e4 e5 e6 e7 e8 e9 e10 e11 e12 : Option Val} :
    meanS φ W (sL 0) [e0, e1, e2, e3, e4, e5, e6, e7, e8, e9, e10, e11, e12] S = .ok (.nx [e0, some (.ref (S.length + 2)), e2, e3, e4, e5, e6, e7, e8, e9, e10, e11, e12]) (S ++ [Ob.lst [], Ob.dct [], Ob.lst (someL S.length)]) := by
  rw [← bind_id (meanS _ _ _ _ _)]
  simp [sL, fd23, setE, Nat.add_assoc, someL, odds]
theorem st1 {φ : Nat → List Val → M Val} {W : Nat} {S : Sto} {e0 e1 e2 e3 e4 e5 e6 e7 e8 e9 e10 e11 e12 : Option Val} :
    meanS φ W (sL 1) [e0, e1, e2, e3, e4, e5, e6, e7, e8, e9, e10, e11, e12] S = .ok (.nx [e0, e1, some (.ref (S.length + 2)), e3, e4, e5, e6, e7, e8, e9, e10, e11, e12]) (S ++ [Ob.lst (eightL.map Val.str), Ob.lst (eightL.map fun a => Val.tup [.str a, .str (mulT [97, 98] 25)]), Ob.dct fullK]) := by
  have e8 := compL_map (gs := [(S.length, Ob.lst (eightL.map Val.str))]) (f := lcF φ (.tup [(.var 10), (.bin .Mult (.con (.str [97, 98])) (.con (.int 25)))]) (.nm 10) [] [e0, e1, e2, e3, e4, e5, e6, e7, e8, e9, e10, e11, e12]) (S := S ++ [Ob.lst (eightL.map Val.str)]) (k := Val.str) (g := fun a => Val.tup [.str a, .str (mulT [97, 98] 25)]) (stays_one (by simp)) (xs := eightL) fun a ha => by
    rw [lcF_ap]
    simp [setE, mulT]
  have hp := fun (S' S0 : Sto) => dictR_prs (S := S') (S0 := S0) (k := Val.str) (v := fun _ => .str (mulT [97, 98] 25)) (n := fun a => .text (stx a)) (xs := eightL) fun a => keyD_str
  have h8 : eightL.map Val.str = [.str [97], .str [98], .str [99], .str [100], .str [101], .str [102], .str [103], .str [104]] := rfl
  rw [h8] at e8
  rw [← bind_id (meanS _ _ _ _ _)]
  simp [sL, fd23, setE, Nat.add_assoc, h8]
  rw [e8]
  simp only [bind_ok, thaw_none]
  rw [lstR_ok (by simp [eightL]; decide)]
  simp only [bind_ok, f_dict]
  rw [getAt0]
  simp only [dctO_lst, seqO_lst]
  rw [hp]
  simp [setE, fullK]
theorem st4 {φ : Nat → List Val → M Val} {W q : Nat} {S : Sto} {A : List Val} {e0 e1 e2 e4 e5 e6 e7 e8 e9 e10 e11 e12 : Option Val} (hq : S[q]? = some (.lst A)) (hA : A.length ≤ 100) :
    meanS φ W (sL 4) [e0, e1, e2, some (.ref q), e4, e5, e6, e7, e8, e9, e10, e11, e12] S = .ok (.nx [e0, e1, e2, some (.ref q), e4, e5, e6, e7, e8, e9, e10, e11, e12]) ((S ++ [Ob.lst (nineL.map Val.str), Ob.lst (nineL.map fun a => Val.tup [.str a, .str []]), Ob.dct nineK]).set q (.lst (A ++ [.ref (S.length + 2)]))) := by
  have hline : line = 16777216 := rfl
  have e8 := compL_map (gs := [(S.length, Ob.lst (nineL.map Val.str))]) (f := lcF φ (.tup [(.var 10), (.con (.str []))]) (.nm 10) [] [e0, e1, e2, some (.ref q), e4, e5, e6, e7, e8, e9, e10, e11, e12]) (S := S ++ [Ob.lst (nineL.map Val.str)]) (k := Val.str) (g := fun a => Val.tup [.str a, .str []]) (stays_one (by simp)) (xs := nineL) fun a ha => by
    rw [lcF_ap]
    simp [setE]
  have hp := fun (S' S0 : Sto) => dictR_prs (S := S') (S0 := S0) (k := Val.str) (v := fun _ => .str []) (n := fun a => .text (stx a)) (xs := nineL) fun a => keyD_str
  have h8 : nineL.map Val.str = [.str [97], .str [98], .str [99], .str [100], .str [101], .str [102], .str [103], .str [104], .str [105]] := rfl
  rw [h8] at e8
  have hq2 : ∀ X : Sto, (S ++ X)[q]? = some (.lst A) := fun X => by rw [getOld (lt_of_get hq)]; exact hq
  rw [← bind_id (meanS _ _ _ _ _)]
  simp [sL, fd23, setE, Nat.add_assoc, h8, hq]
  rw [e8]
  simp only [bind_ok, thaw_none]
  rw [lstR_ok (by simp [nineL]; decide)]
  simp only [bind_ok, f_dict]
  rw [getAt0]
  simp only [dctO_lst, seqO_lst]
  rw [hp]
  simp only [bind_ok]
  rw [m_append (xs := A) (by rw [List.append_assoc, List.append_assoc]; exact hq2 _) (by omega)]
  simp [nineK]
theorem st3 {φ : Nat → List Val → M Val} {W q : Nat} {S : Sto} {A : List Val} {e0 e1 e2 e4 e5 e6 e7 e8 e9 e10 e11 e12 : Option Val} (hq : S[q]? = some (.lst A)) (hA : A.length ≤ 100) :
    meanS φ W (sL 3) [e0, e1, e2, some (.ref q), e4, e5, e6, e7, e8, e9, e10, e11, e12] S = .ok (.nx [e0, e1, e2, some (.ref q), e4, e5, e6, e7, e8, e9, e10, e11, e12]) ((S ++ [Ob.dct [(.str [97], .non)]]).set q (.lst (A ++ [.ref S.length]))) := by
  have hline : line = 16777216 := rfl
  have hq2 : ∀ X : Sto, (S ++ X)[q]? = some (.lst A) := fun X => by rw [getOld (lt_of_get hq)]; exact hq
  rw [← bind_id (meanS _ _ _ _ _)]
  simp [sL, fd23, setE, hq, dctM_one keyD_str]
  rw [m_append (xs := A) (hq2 _) (by omega)]
  simp
theorem st2 {φ : Nat → List Val → M Val} {W q f : Nat} {S : Sto} {A : List Val} {e0 e3 e4 e5 e6 e7 e8 e9 e10 e11 e12 : Option Val} (hq : S[q]? = some (.lst A)) (hA : A.length ≤ 100) :
    meanS φ W (sL 2) [e0, some (.ref q), some (.ref f), e3, e4, e5, e6, e7, e8, e9, e10, e11, e12] S = .ok (.nx [e0, some (.ref q), some (.ref f), some (.ref (S.length + 6)), e4, e5, e6, e7, e8, e9, e10, e11, e12])
      (S ++ [Ob.dct [(.str [97], .str (mulT [98] 400))], Ob.dct [(.str [97], .str (mulT [98] 401))], Ob.dct (putK [(.str [97], .str (mulT [98] 399))] (.text (stx [98])) (.str [98]) (.str [99, 99])), Ob.dct [(.str [], .str [97])], Ob.dct [(.int 1, .str [97])],
        Ob.lst [.ref f, .ref S.length, .ref (S.length + 1), .ref (S.length + 2), .ref (S.length + 3), .ref (S.length + 4)], Ob.lst (A ++ [.ref f, .ref S.length, .ref (S.length + 1), .ref (S.length + 2), .ref (S.length + 3), .ref (S.length + 4)])]) := by
  have hline : line = 16777216 := rfl
  have hq2 : ∀ X : Sto, (S ++ X)[q]? = some (.lst A) := fun X => by rw [getOld (lt_of_get hq)]; exact hq
  rw [← bind_id (meanS _ _ _ _ _)]
  simp [sL, fd23, setE, dctM_one keyD_str, dctM_one keyD_int, dctM_two keyD_str keyD_str, Nat.add_assoc, hq2]
  rw [addO_ll (by simp; omega)]
  simp [setE, Nat.add_assoc, mulT]
end Law
set_option linter.all false
set_option Elab.async false
set_option maxRecDepth 100000
set_option maxHeartbeats 400000
namespace Law
open PySem MP
theorem st5 {W k q : Nat} {S : Sto} {xs : List Val} {e0 e1 e2 e4 e5 e6 e7 e8 e9 e10 e11 e12 : Option Val} (hl : S[q]? = some (.lst xs)) (h : ∀ v ∈ xs, Fine S v ∧ NoF S v) :
    meanS (callF T W (k + 4)) W (sL 5) [e0, e1, e2, some (.ref q), e4, e5, e6, e7, e8, e9, e10, e11, e12] S = .ok (.nx [e0, e1, e2, some (.ref q), e4, e5, e6, e7, e8, e9, e10, e11, e12]) (S ++ [Ob.lst [], Ob.lst []]) := by
  have e := none_left (W := W) (k := k) (e0 := e0) (e1 := e1) (e2 := e2) (e3 := some (.ref q)) (e4 := e4) (e5 := e5) (e6 := e6) (e7 := e7) (e8 := e8) (e9 := e9) (e10 := e10) (e11 := e11) (e12 := e12) hl h
  rw [← bind_id (meanS _ _ _ _ _)]
  simp [sL, fd23, hl]
  rw [e]
  simp
  rw [eqD_lst (n := 59) (xs := []) (ys := []) (by simp) (by simp), eqs_nil]
  simp
theorem okV_setL {S : Sto} {q : Nat} {xs ys : List Val} {v : Val} (hq : S[q]? = some (.lst xs)) (h : okV S v = true) : okV (S.set q (.lst ys)) v = true := by
  cases v with
  | ref i =>
    simp only [okV_ref] at h ⊢
    by_cases e : q = i
    · subst e
      rw [List.getElem?_set_self (lt_of_get hq)]; rfl
    · rw [List.getElem?_set_ne e]; exact h
  | _ => exact h
theorem fine_setL {S : Sto} {q : Nat} {xs ys : List Val} {v : Val} (hq : S[q]? = some (.lst xs)) (h : Fine S v ∧ NoF S v) : Fine (S.set q (.lst ys)) v ∧ NoF (S.set q (.lst ys)) v := by
  obtain ⟨⟨h1, h2⟩, h3⟩ := h
  cases v with
  | ref i =>
    by_cases e : q = i
    · subst e
      exact fine_lst (xs := ys) (List.getElem?_set_self (lt_of_get hq))
    · refine ⟨⟨okV_setL hq h1, fun kvs e2 => ?_⟩, fun kvs e2 => ?_⟩
      · rw [List.getElem?_set_ne e] at e2
        obtain ⟨w, ok⟩ := h2 kvs e2
        exact ⟨w, fun p hp => ⟨okV_setL hq (ok p hp).1, okV_setL hq (ok p hp).2⟩⟩
      · rw [List.getElem?_set_ne e] at e2
        exact h3 kvs e2
  | _ => exact ⟨⟨okV_setL hq h1, trivial⟩, trivial⟩
theorem fine_app {S X : Sto} {v : Val} (h : Fine S v ∧ NoF S v) : Fine (S ++ X) v ∧ NoF (S ++ X) v := ⟨h.1.app, nof_app h.1.1 h.2⟩
def turnB : List MS := match sL 6 with
  | .for_ _ _ b => b
  | _ => []
def inF : List MS := match turnB.getD 6 .pass with
  | .for_ _ _ b => b
  | _ => []
section
variable {φ : Nat → List Val → M Val} {d : Nat} {S : Sto} {w : List (Tx × Tx)} {x : Tx} {odd : Val} {e0 e1 e2 e3 e4 e5 e8 e9 e11 e12 : Option Val}
def v1 (w : List (Tx × Tx)) (x : Tx) (odd : Val) (a : Tx) : Val := if a = x then odd else .str ((look w a).getD [])
def k2 (x : Tx) (odd : Val) (a : Tx) : Val := if a = x then odd else .str a
theorem comp1 (hd : S[d]? = some (.fdc (webK Val.str w))) :
    compL [(d, Ob.fdc (webK Val.str w))] (lcF φ (.tup [(.var 12), (.ite (.cmp .Eq (.var 12) (.var 10)) (.var 7) (.ix (.var 6) (.var 12)))]) (.nm 12) [] [e0, e1, e2, e3, e4, e5, some (.ref d), some odd, e8, e9, some (.str x), e11, e12]) ((webK Val.str w).map fun p => p.1) S = .ok ((w.map fun p => p.1).map fun a => Val.tup [.str a, v1 w x odd a]) S := by
  rw [web_keys]
  refine compL_map (k := Val.str) (g := fun a => Val.tup [.str a, v1 w x odd a]) (stays_one hd) fun a ha => ?_
  obtain ⟨y, hy⟩ := look_some ha
  rw [lcF_ap]
  by_cases h : a = x
  · simp [setE, h, v1]
  · simp [setE, h, v1, hd, hy]
theorem comp2 (hd : S[d]? = some (.fdc (webK Val.str w))) :
    compL [(d, Ob.fdc (webK Val.str w))] (lcF φ (.tup [(.ite (.cmp .Eq (.var 12) (.var 10)) (.var 7) (.var 12)), (.ix (.var 6) (.var 12))]) (.nm 12) [] [e0, e1, e2, e3, e4, e5, some (.ref d), some odd, e8, e9, some (.str x), e11, e12]) ((webK Val.str w).map fun p => p.1) S = .ok ((w.map fun p => p.1).map fun a => Val.tup [k2 x odd a, .str ((look w a).getD [])]) S := by
  rw [web_keys]
  refine compL_map (k := Val.str) (g := fun a => Val.tup [k2 x odd a, .str ((look w a).getD [])]) (stays_one hd) fun a ha => ?_
  obtain ⟨y, hy⟩ := look_some ha
  rw [lcF_ap]
  by_cases h : a = x
  · subst h
    simp [setE, k2, hd, hy]
  · simp [setE, h, k2, hd, hy]
end
def K1 (w : List (Tx × Tx)) (x : Tx) (odd : Val) : List (Val × Val) := (w.map fun p => p.1).foldl (fun kvs a => putK kvs (.text (stx a)) (.str a) (v1 w x odd a)) []
def K2 (w : List (Tx × Tx)) (x : Tx) (odd : Val) (n : NestedKey) : List (Val × Val) := (w.map fun p => p.1).foldl (fun kvs a => putK kvs (if a = x then n else .text (stx a)) (k2 x odd a) (.str ((look w a).getD []))) []
theorem in_turn {W k d q : Nat} {S : Sto} {w : List (Tx × Tx)} {x : Tx} {odd : Val} {n : NestedKey} {its : List Val} {e0 e1 e2 e3 e4 e5 e8 e10 e11 e12 : Option Val} (hd : S[d]? = some (.dct (webK Val.str w))) (hq : S[q]? = some (.lst its)) (hw : w.length ≤ 8) (hi : its.length ≤ 100) (hn : keyD odd = some n) (hdq : d ≠ q) :
    ∃ A B : Ob, forF (callF T W k) W (.nm 10) inF (.str x) [e0, e1, e2, e3, e4, e5, some (.ref d), some odd, e8, some (.ref q), e10, e11, e12] S = .ok (.nx [e0, e1, e2, e3, e4, e5, some (.ref d), some odd, e8, some (.ref q), some (.str x), e11, e12])
      ((((S ++ [A, Ob.dct (K1 w x odd)]).set q (.lst (its ++ [.ref (S.length + 1)])) ++ [B, Ob.dct (K2 w x odd n)])).set q (.lst (its ++ [.ref (S.length + 1), .ref (S.length + 3)]))) := by
  have hline : line = 16777216 := rfl
  have hdl := lt_of_get hd
  have hql := lt_of_get hq
  have hd2 : ∀ X : Sto, (S ++ X)[d]? = some (.dct (webK Val.str w)) := fun X => by rw [getOld hdl]; exact hd
  have hq2 : ∀ X : Sto, (S ++ X)[q]? = some (.lst its) := fun X => by rw [getOld hql]; exact hq
  have hf : ∀ S : Sto, S[d]? = some (.dct (webK Val.str w)) → (S.set d (.fdc (webK Val.str w)))[d]? = some (.fdc (webK Val.str w)) := fun S h => List.getElem?_set_self (lt_of_get h)
  have hk1 := fun (S' S0 : Sto) => dictR_prs (S := S') (S0 := S0) (k := Val.str) (v := v1 w x odd) (n := fun a => .text (stx a)) (xs := w.map fun p => p.1) fun a => keyD_str
  have hk2 := fun (S' S0 : Sto) => dictR_prs (S := S') (S0 := S0) (k := k2 x odd) (v := fun a => .str ((look w a).getD [])) (n := fun a => if a = x then n else .text (stx a)) (xs := w.map fun p => p.1) fun a => by
    unfold k2
    split
    · exact hn
    · exact keyD_str
  refine ⟨Ob.lst ((w.map fun p => p.1).map fun a => Val.tup [.str a, v1 w x odd a]), Ob.lst ((w.map fun p => p.1).map fun a => Val.tup [k2 x odd a, .str ((look w a).getD [])]), ?_⟩
  rw [forF_ap]
  simp [inF, turnB, sL, fd23, setE, hq, hd, -List.map_map]
  rw [comp1 (hf _ hd)]
  simp only [bind_ok]
  rw [hf _ hd, thawO_fdc, unlock hd]
  simp only [bind_ok]
  rw [lstR_ok (by simp; omega)]
  simp only [bind_ok, f_dict, getAt0, dctO_lst, seqO_lst]
  rw [hk1]
  simp only [bind_ok]
  rw [m_append (xs := its) (by rw [List.append_assoc]; exact hq2 _) (by omega)]
  have hS : ∀ (A B : Ob), (S ++ [A] ++ [B]).set q (.lst (its ++ [.ref (S ++ [A]).length])) = (S ++ [A, B]).set q (.lst (its ++ [.ref (S.length + 1)])) := fun A B => by simp
  rw [hS]
  have hd3 : ∀ (A B : Ob) (o : Ob) (X : Sto), ((S ++ [A, B]).set q o ++ X)[d]? = some (.dct (webK Val.str w)) := fun A B o X => by
    rw [List.getElem?_append_left (by simp; omega), List.getElem?_set_ne (Ne.symm hdq)]; exact hd2 _
  have hd3' : ∀ (A B : Ob) (o : Ob), ((S ++ [A, B]).set q o)[d]? = some (.dct (webK Val.str w)) := fun A B o => by
    rw [List.getElem?_set_ne (Ne.symm hdq)]; exact hd2 _
  have hq3 : ∀ (A B : Ob) (xs : List Val) (X : Sto), ((S ++ [A, B]).set q (.lst xs) ++ X)[q]? = some (.lst xs) := fun A B xs X => by
    rw [List.getElem?_append_left (by simp; omega), List.getElem?_set_self (by simp; omega)]
  have hq3' : ∀ (A B : Ob) (xs : List Val), ((S ++ [A, B]).set q (.lst xs))[q]? = some (.lst xs) := fun A B xs => by
    rw [List.getElem?_set_self (by simp; omega)]
  simp [hq3', hd3', -List.map_map]
  rw [comp2 (hf _ (hd3' _ _ _))]
  simp only [bind_ok]
  rw [hf _ (hd3' _ _ _), thawO_fdc, unlock (hd3' _ _ _)]
  simp only [bind_ok]
  rw [lstR_ok (by simp; omega)]
  simp only [bind_ok, f_dict, getAt0, dctO_lst, seqO_lst]
  rw [hk2]
  simp only [bind_ok]
  rw [m_append (xs := its ++ [.ref (S.length + 1)]) (by rw [List.append_assoc]; exact hq3 _ _ _ _) (by simp; omega)]
  simp [K1, K2, Nat.add_assoc]
end Law
set_option linter.all false
set_option Elab.async false
set_option maxRecDepth 100000
set_option maxHeartbeats 400000
namespace Law
open PySem MP
theorem step {φ : Nat → List Val → M Val} {W : Nat} {s : MS} {ss : List MS} {ρ ρ' : MP.Env} {S S' : Sto} (h : meanS φ W s ρ S = .ok (.nx ρ') S') : meanB φ W (s :: ss) ρ S = meanB φ W ss ρ' S' := by
  rw [bCons, h]; rfl
/-- texts that may stand in a store -/
def Ok0 (v : Val) : Prop := ∀ S, okV S v = true
theorem ok0_str {x : Tx} (h : x.length ≤ 4000) : Ok0 (.str x) := fun S => by
  have hline : line = 16777216 := rfl
  simp; omega
theorem lot_len {m : Nat} {w : List (Tx × Tx)} (hL : LotOk m w) (hm : m ≤ 3000) : ∀ p ∈ w, p.1.length ≤ 4000 ∧ p.2.length ≤ 4000 := by
  have h8 : ∀ n ∈ eight, n.length ≤ 10 := by decide
  intro p hp
  have h1 := h8 _ (hL.nm p.1 (List.mem_map.mpr ⟨p, hp, rfl⟩))
  have h2 := (hL.tx p hp).1
  omega
theorem look_len {m : Nat} {w : List (Tx × Tx)} (hL : LotOk m w) (hm : m ≤ 3000) (a : Tx) : ((look w a).getD []).length ≤ 4000 := by
  cases h : look w a with
  | none => simp
  | some y => exact (lot_len hL hm _ (look_mem h)).2
theorem name_len {m : Nat} {w : List (Tx × Tx)} (hL : LotOk m w) (hm : m ≤ 3000) : ∀ a ∈ w.map (fun p => p.1), a.length ≤ 4000 := fun a ha => by
  obtain ⟨p, hp, rfl⟩ := List.mem_map.mp ha
  exact (lot_len hL hm p hp).1
theorem K1_ok {m : Nat} {w : List (Tx × Tx)} {x : Tx} {odd : Val} (hL : LotOk m w) (hm : m ≤ 3000) (ho : Odd odd) : DWf (K1 w x odd) ∧ ∀ p ∈ K1 w x odd, Ok0 p.1 ∧ Ok0 p.2 := by
  refine ⟨DWf.puts (k := Val.str) (v := v1 w x odd) (fun a => keyD_str) _ [] .nil, puts_mem (k := Val.str) (v := v1 w x odd) (n := fun a => .text (stx a)) (P := Ok0) _ [] (by simp) fun a ha => ⟨ok0_str (name_len hL hm a ha), ?_⟩⟩
  unfold v1
  split
  · exact ho.1
  · exact ok0_str (look_len hL hm a)
theorem K2_ok {m : Nat} {w : List (Tx × Tx)} {x : Tx} {odd : Val} {n : NestedKey} (hL : LotOk m w) (hm : m ≤ 3000) (ho : Odd odd) (hn : keyD odd = some n) : DWf (K2 w x odd n) ∧ ∀ p ∈ K2 w x odd n, Ok0 p.1 ∧ Ok0 p.2 := by
  refine ⟨DWf.puts (k := k2 x odd) (v := fun a => .str ((look w a).getD [])) (n := fun a => if a = x then n else .text (stx a)) (fun a => ?_) _ [] .nil, puts_mem (k := k2 x odd) (v := fun a => .str ((look w a).getD [])) (n := fun a => if a = x then n else .text (stx a)) (P := Ok0) _ [] (by simp) fun a ha => ⟨?_, ok0_str (look_len hL hm a)⟩⟩
  · unfold k2
    split
    · exact hn
    · exact keyD_str
  · unfold k2
    split
    · exact ho.1
    · exact ok0_str (name_len hL hm a ha)
theorem web_ok {m : Nat} {w : List (Tx × Tx)} (hL : LotOk m w) (hm : m ≤ 3000) : DWf (webK Val.str w) ∧ ∀ p ∈ webK Val.str w, Ok0 p.1 ∧ Ok0 p.2 := by
  refine ⟨DWf.web hL.nd, fun p hp => ?_⟩
  obtain ⟨q, hq, rfl⟩ := List.mem_map.mp hp
  have := lot_len hL hm q hq
  exact ⟨ok0_str this.1, ok0_str this.2⟩
theorem fine_K {S : Sto} {i : Nat} {kvs : List (Val × Val)} (h : S[i]? = some (.dct kvs)) (hk : DWf kvs ∧ ∀ p ∈ kvs, Ok0 p.1 ∧ Ok0 p.2) : Fine S (.ref i) ∧ NoF S (.ref i) :=
  fine_dct h hk.1 fun p hp => ⟨(hk.2 p hp).1 S, (hk.2 p hp).2 S⟩
/-- what stands but at q -/
def But (q : Nat) (S S' : Sto) : Prop := S.length ≤ S'.length ∧ ∀ i, i < S.length → i ≠ q → S'[i]? = S[i]?
theorem But.refl {q : Nat} {S : Sto} : But q S S := ⟨Nat.le_refl _, fun _ _ _ => rfl⟩
theorem But.step {q : Nat} {S S' X : Sto} {o : Ob} (h : But q S S') : But q S (S'.set q o ++ X) := by
  refine ⟨by simp; have := h.1; omega, fun i hi hq => ?_⟩
  rw [List.getElem?_append_left (by simp; have := h.1; omega), List.getElem?_set_ne (Ne.symm hq), h.2 i hi hq]
theorem in_all {W k d q s m : Nat} {S : Sto} {w : List (Tx × Tx)} {odd : Val} {xs : List Tx} {e0 e1 e2 e3 e4 e5 e8 e10 e11 e12 : Option Val} {its : List Val} (hd : S[d]? = some (.dct (webK Val.str w))) (hq : S[q]? = some (.lst its)) (hs : S[s]? = some (.lst (xs.map Val.str))) (hdq : d ≠ q) (hsq : s ≠ q) (hw : w.length ≤ 8) (hL : LotOk m w) (hm : m ≤ 3000) (hi : its.length ≤ 3) (hx : xs.length ≤ 2) (ho : Odd odd) (hits : ∀ v ∈ its, Fine S v ∧ NoF S v) :
    Runs (forL [(s, Ob.lst (xs.map Val.str))] (forF (callF T W k) W (.nm 10) inF) (xs.map Val.str) [e0, e1, e2, e3, e4, e5, some (.ref d), some odd, e8, some (.ref q), e10, e11, e12] S) fun r S' => But q S S' ∧ (∃ e10, r = .nx [e0, e1, e2, e3, e4, e5, some (.ref d), some odd, e8, some (.ref q), e10, e11, e12]) ∧ ∃ its, S'[q]? = some (.lst its) ∧ ∀ v ∈ its, Fine S' v ∧ NoF S' v := by
  have hdl := lt_of_get hd
  have hql := lt_of_get hq
  have hsl := lt_of_get hs
  obtain ⟨n, hn⟩ := ho.2.1
  refine forL_ix (fun j ρ S' => But q S S' ∧ (∃ e10, ρ = [e0, e1, e2, e3, e4, e5, some (.ref d), some odd, e8, some (.ref q), e10, e11, e12]) ∧ ∃ its, S'[q]? = some (.lst its) ∧ its.length ≤ 3 + 2 * j ∧ ∀ v ∈ its, Fine S' v ∧ NoF S' v) _ (fun _ _ _ h => stays_one (by rw [h.1.2 s hsl hsq]; exact hs))
    (fun j v ρ S1 hv ⟨h1, ⟨e, h2⟩, its1, h3, h4, h5⟩ => ?_) (fun ρ S1 ⟨h1, ⟨e, h2⟩, its1, h3, h4, h5⟩ => ⟨h1, ⟨e, by rw [h2]⟩, its1, h3, h5⟩) ⟨.refl, ⟨_, rfl⟩, its, hq, hi, hits⟩
  subst h2
  rw [List.getElem?_map] at hv
  obtain ⟨x, hx1, rfl⟩ := Option.map_eq_some_iff.mp hv
  have hj : j < xs.length := (List.getElem?_eq_some_iff.mp hx1).1
  have hd1 : S1[d]? = some (.dct (webK Val.str w)) := by rw [h1.2 d hdl hdq]; exact hd
  have hq1 := lt_of_get h3
  obtain ⟨A, B, et⟩ := in_turn (W := W) (k := k) (x := x) (e0 := e0) (e1 := e1) (e2 := e2) (e3 := e3) (e4 := e4) (e5 := e5) (e8 := e8) (e10 := e) (e11 := e11) (e12 := e12) hd1 h3 hw (by omega) hn hdq
  have es : ∀ o1 o2 : Ob, (((S1 ++ [A, Ob.dct (K1 w x odd)]).set q o1 ++ [B, Ob.dct (K2 w x odd n)])).set q o2 = S1.set q o2 ++ [A, Ob.dct (K1 w x odd), B, Ob.dct (K2 w x odd n)] := fun o1 o2 => by
    rw [setApp hq1, List.append_assoc, setApp (by simpa using hq1), List.set_set]; rfl
  rw [es] at et
  rw [et]
  have g : ∀ (k : Nat) (o : Ob), (S1.set q o ++ [A, Ob.dct (K1 w x odd), B, Ob.dct (K2 w x odd n)])[S1.length + k]? = [A, Ob.dct (K1 w x odd), B, Ob.dct (K2 w x odd n)][k]? := fun k o => by
    have := getAtK (S := S1.set q o) (k := k) (T := [A, Ob.dct (K1 w x odd), B, Ob.dct (K2 w x odd n)])
    simpa using this
  refine .mk ⟨h1.step, ⟨_, rfl⟩, _, by rw [List.getElem?_append_left (by simpa using hq1), List.getElem?_set_self hq1], by simp; omega, fun v hv => ?_⟩
  rcases List.mem_append.mp hv with hv | hv
  · exact fine_app (fine_setL h3 (h5 v hv))
  · simp only [List.mem_cons, List.not_mem_nil, or_false] at hv
    rcases hv with rfl | rfl
    · exact fine_K (g 1 _) (K1_ok hL hm ho)
    · exact fine_K (g 3 _) (K2_ok hL hm ho hn)
end Law
set_option linter.all false
set_option Elab.async false
set_option maxRecDepth 100000
set_option maxHeartbeats 400000
namespace Law
open PySem MP
def tL (i : Nat) : MS := turnB.getD i .pass
theorem turnB_eq : turnB = [tL 0, tL 1, tL 2, tL 3, tL 4, tL 5, tL 6, tL 7] := rfl
theorem t7 {W k q : Nat} {S : Sto} {xs : List Val} {e0 e1 e2 e3 e4 e5 e6 e7 e8 e10 e11 e12 : Option Val} (hl : S[q]? = some (.lst xs)) (h : ∀ v ∈ xs, Fine S v ∧ NoF S v) :
    meanS (callF T W (k + 4)) W (tL 7) [e0, e1, e2, e3, e4, e5, e6, e7, e8, some (.ref q), e10, e11, e12] S = .ok (.nx [e0, e1, e2, e3, e4, e5, e6, e7, e8, some (.ref q), e10, e11, e12]) (S ++ [Ob.lst [], Ob.lst []]) := by
  have e := none_left (W := W) (k := k) (e0 := e0) (e1 := e1) (e2 := e2) (e3 := e3) (e4 := e4) (e5 := e5) (e6 := e6) (e7 := e7) (e8 := e8) (e9 := some (.ref q)) (e10 := e10) (e11 := e11) (e12 := e12) hl h
  rw [← bind_id (meanS _ _ _ _ _)]
  simp [tL, turnB, sL, fd23, hl]
  rw [e]
  simp
  rw [eqD_lst (n := 59) (xs := []) (ys := []) (by simp) (by simp), eqs_nil]
  simp
def K3 (w : List (Tx × Tx)) (odd : Val) : List (Val × Val) := putK (webK Val.str w) (.text (stx sx_more)) (.str sx_more) odd
theorem K3_ok {m : Nat} {w : List (Tx × Tx)} {odd : Val} (hL : LotOk m w) (hm : m ≤ 3000) (ho : Odd odd) : DWf (K3 w odd) ∧ ∀ p ∈ K3 w odd, Ok0 p.1 ∧ Ok0 p.2 := by
  obtain ⟨h1, h2⟩ := web_ok hL hm
  have h4 : Ok0 (.str sx_more) := ok0_str (by decide)
  refine ⟨h1.put keyD_str, fun p hp => ?_⟩
  rcases putK_mem hp with (h | rfl) | ⟨q, hq, rfl⟩
  · exact h2 p h
  · exact ⟨h4, ho.1⟩
  · exact ⟨(h2 q hq).1, ho.1⟩
/-- the first six statements of a turn -/
theorem pre {W k s m : Nat} {S : Sto} {ns : List Int} (hn : ns.length ≤ 63) {j : Nat} {e2 e3 e5 e6 e7 e8 e9 e10 e11 e12 : Option Val} (h0 : S[0]? = some (.rol (ns.map Val.int))) (hs : S[s]? = some (.lst (someL m))) :
    ∃ (o : Ob) (w : List (Tx × Tx)) (odd : Val), w.length ≤ 8 ∧ LotOk 20 w ∧ Odd odd ∧ meanB (callF T W (k + 5)) W turnB [some (.ref 0), some (.ref s), e2, e3, some (.int (j : Nat)), e5, e6, e7, e8, e9, e10, e11, e12] S =
      meanB (callF T W (k + 5)) W [tL 6, tL 7] [some (.ref 0), some (.ref s), e2, e3, some (.int (j : Nat)), some (.ref S.length), some (.ref (S.length + 1)), some odd, some (.ref (S.length + 2)), some (.ref (S.length + 4)), e10, e11, e12]
        (S ++ [o, Ob.dct (webK Val.str w), Ob.dct (K3 w odd), Ob.lst ((webK Val.str w).map fun p => .tup [p.1, p.2]), Ob.lst [.ref (S.length + 1), .ref (S.length + 3), .ref (S.length + 2)]]) := by
  have hline : line = 16777216 := rfl
  have hl0 := lt_of_get h0
  have hsl := lt_of_get hs
  obtain ⟨o, ep, ho⟩ := law_pool (W := W) (k := k + 4) (j := j) h0 hn
  have hp : PoolAt (S ++ [o]) S.length := ⟨o, by simp, ho⟩
  obtain ⟨w, o2, el, ho2, hw, hL⟩ := law_lot (tt := 8) (m := 20) (W := W) (k := k + 2) hp (by omega) (by omega)
  have s1 : (S ++ [o]).set S.length o2 ++ [Ob.dct (webK Val.str w)] = S ++ [o2, Ob.dct (webK Val.str w)] := by simp
  rw [s1] at el
  have hp2 : PoolAt (S ++ [o2, Ob.dct (webK Val.str w)]) S.length := ⟨o2, by simp, ho2⟩
  obtain ⟨t, o3, et, ho3, ht⟩ := law_take (W := W) (k := k + 4) (m := 15) hp2 (by omega)
  have s2 : (S ++ [o2, Ob.dct (webK Val.str w)]).set S.length o3 = S ++ [o3, Ob.dct (webK Val.str w)] := by simp
  rw [s2] at et
  have ht' : t < 15 := by omega
  obtain ⟨odd, hodd⟩ : ∃ odd, odds[t]? = some odd := ⟨_, List.getElem?_eq_getElem (show t < odds.length from ht')⟩
  have ho : Odd odd := odds_ok odd (List.mem_of_getElem? hodd)
  have hat : L2.atI (someL m) (t : Int) = some odd := atI_some (by unfold someL; rw [List.getElem?_append_left (show t < odds.length from ht')]; exact hodd)
  refine ⟨o3, w, odd, hw, hL, ho, ?_⟩
  have hg : ∀ X : Sto, (S ++ X)[s]? = some (.lst (someL m)) := fun X => by rw [getOld hsl]; exact hs
  rw [turnB_eq]
  have a0 : meanS (callF T W (k + 5)) W (tL 0) [some (.ref 0), some (.ref s), e2, e3, some (.int (j : Nat)), e5, e6, e7, e8, e9, e10, e11, e12] S = .ok (.nx [some (.ref 0), some (.ref s), e2, e3, some (.int (j : Nat)), some (.ref S.length), e6, e7, e8, e9, e10, e11, e12]) (S ++ [o]) := by
    rw [← bind_id (meanS _ _ _ _ _)]
    simp [tL, turnB, sL, fd23, setE, ep]
  have a1 : meanS (callF T W (k + 5)) W (tL 1) [some (.ref 0), some (.ref s), e2, e3, some (.int (j : Nat)), some (.ref S.length), e6, e7, e8, e9, e10, e11, e12] (S ++ [o]) = .ok (.nx [some (.ref 0), some (.ref s), e2, e3, some (.int (j : Nat)), some (.ref S.length), some (.ref (S.length + 1)), e7, e8, e9, e10, e11, e12]) (S ++ [o2, Ob.dct (webK Val.str w)]) := by
    rw [← bind_id (meanS _ _ _ _ _)]
    have el' : callF T W (k + 5) 15 [.ref S.length, .int 8, .int 20] (S ++ [o]) = _ := el
    simp [tL, turnB, sL, fd23, setE, el']
  have a2 : meanS (callF T W (k + 5)) W (tL 2) [some (.ref 0), some (.ref s), e2, e3, some (.int (j : Nat)), some (.ref S.length), some (.ref (S.length + 1)), e7, e8, e9, e10, e11, e12] (S ++ [o2, Ob.dct (webK Val.str w)]) = .ok (.nx [some (.ref 0), some (.ref s), e2, e3, some (.int (j : Nat)), some (.ref S.length), some (.ref (S.length + 1)), some odd, e8, e9, e10, e11, e12]) (S ++ [o3, Ob.dct (webK Val.str w)]) := by
    rw [← bind_id (meanS _ _ _ _ _)]
    simp [tL, turnB, sL, fd23, setE, et, hg, hat]
  have a3 : meanS (callF T W (k + 5)) W (tL 3) [some (.ref 0), some (.ref s), e2, e3, some (.int (j : Nat)), some (.ref S.length), some (.ref (S.length + 1)), some odd, e8, e9, e10, e11, e12] (S ++ [o3, Ob.dct (webK Val.str w)]) = .ok (.nx [some (.ref 0), some (.ref s), e2, e3, some (.int (j : Nat)), some (.ref S.length), some (.ref (S.length + 1)), some odd, some (.ref (S.length + 2)), e9, e10, e11, e12]) (S ++ [o3, Ob.dct (webK Val.str w), Ob.dct (webK Val.str w)]) := by
    rw [← bind_id (meanS _ _ _ _ _)]
    simp [tL, turnB, sL, fd23, setE]
  have a4 : meanS (callF T W (k + 5)) W (tL 4) [some (.ref 0), some (.ref s), e2, e3, some (.int (j : Nat)), some (.ref S.length), some (.ref (S.length + 1)), some odd, some (.ref (S.length + 2)), e9, e10, e11, e12] (S ++ [o3, Ob.dct (webK Val.str w), Ob.dct (webK Val.str w)]) = .ok (.nx [some (.ref 0), some (.ref s), e2, e3, some (.int (j : Nat)), some (.ref S.length), some (.ref (S.length + 1)), some odd, some (.ref (S.length + 2)), e9, e10, e11, e12]) (S ++ [o3, Ob.dct (webK Val.str w), Ob.dct (K3 w odd)]) := by
    rw [← bind_id (meanS _ _ _ _ _)]
    simp [tL, turnB, sL, fd23, setE]
    rw [keyD_str, putD_some (by rw [webK_len]; omega)]
    simp [K3]
  have a5 : meanS (callF T W (k + 5)) W (tL 5) [some (.ref 0), some (.ref s), e2, e3, some (.int (j : Nat)), some (.ref S.length), some (.ref (S.length + 1)), some odd, some (.ref (S.length + 2)), e9, e10, e11, e12] (S ++ [o3, Ob.dct (webK Val.str w), Ob.dct (K3 w odd)]) = .ok (.nx [some (.ref 0), some (.ref s), e2, e3, some (.int (j : Nat)), some (.ref S.length), some (.ref (S.length + 1)), some odd, some (.ref (S.length + 2)), some (.ref (S.length + 4)), e10, e11, e12]) (S ++ [o3, Ob.dct (webK Val.str w), Ob.dct (K3 w odd), Ob.lst ((webK Val.str w).map fun p => .tup [p.1, p.2]), Ob.lst [.ref (S.length + 1), .ref (S.length + 3), .ref (S.length + 2)]]) := by
    rw [← bind_id (meanS _ _ _ _ _)]
    simp [tL, turnB, sL, fd23, setE]
  rw [step a0, step a1, step a2, step a3, step a4, step a5]
end Law
set_option linter.all false
set_option Elab.async false
set_option maxRecDepth 100000
set_option maxHeartbeats 400000
namespace Law
open PySem MP
theorem t6 {W k d q m : Nat} {S : Sto} {w : List (Tx × Tx)} {odd : Val} {its : List Val} {e0 e1 e2 e3 e4 e5 e8 e10 e11 e12 : Option Val} (hd : S[d]? = some (.dct (webK Val.str w))) (hq : S[q]? = some (.lst its)) (hdq : d ≠ q) (hw : w.length ≤ 8) (hL : LotOk m w) (hm : m ≤ 3000) (hi : its.length ≤ 3) (ho : Odd odd) (hits : ∀ v ∈ its, Fine S v ∧ NoF S v) :
    Runs (meanS (callF T W k) W (tL 6) [e0, e1, e2, e3, e4, e5, some (.ref d), some odd, e8, some (.ref q), e10, e11, e12] S) fun r S' => But q S S' ∧ (∃ e10, r = .nx [e0, e1, e2, e3, e4, e5, some (.ref d), some odd, e8, some (.ref q), e10, e11, e12]) ∧ ∃ its, S'[q]? = some (.lst its) ∧ ∀ v ∈ its, Fine S' v ∧ NoF S' v := by
  have hline : line = 16777216 := rfl
  have hdl := lt_of_get hd
  have hql := lt_of_get hq
  have hkeys : ((webK Val.str w).map fun p => p.1) = (w.map fun p => p.1).map Val.str := web_keys
  have hso : srtOk S ((webK Val.str w).map fun p => p.1) := by
    rw [hkeys]; exact srtOk_strs (by simp; omega)
  have hst := sortR_dct (z := none) hso
  rw [hkeys, srtD_strs] at hst
  have hset : setO' (some (Ob.dct (webK Val.str w))) = none := rfl
  have hcut : cutL ((sortT (w.map fun p => p.1)).map Val.str) none (some (2 : Int)) = ((sortT (w.map fun p => p.1)).take 2).map Val.str := by
    rw [List.map_take]; exact cut_to _ 2
  obtain ⟨r, S2, e, h1, h2, h3⟩ := in_all (W := W) (k := k) (S := S ++ [Ob.lst ((sortT (w.map fun p => p.1)).map Val.str), Ob.lst (((sortT (w.map fun p => p.1)).take 2).map Val.str)]) (d := d) (q := q) (s := S.length + 1) (w := w) (odd := odd) (xs := (sortT (w.map fun p => p.1)).take 2) (e0 := e0) (e1 := e1) (e2 := e2) (e3 := e3) (e4 := e4) (e5 := e5) (e8 := e8) (e10 := e10) (e11 := e11) (e12 := e12) (its := its)
    (by rw [getOld hdl]; exact hd) (by rw [getOld hql]; exact hq) (by rw [getAtK]; rfl) hdq (by omega) hw hL hm hi (by simp; omega) ho (fun v hv => fine_app (hits v hv))
  have hfin : ∃ r' S', meanS (callF T W k) W (tL 6) [e0, e1, e2, e3, e4, e5, some (.ref d), some odd, e8, some (.ref q), e10, e11, e12] S = .ok r' S' ∧ r' = r ∧ S' = S2 := by
    refine ⟨r, S2, ?_, rfl, rfl⟩
    rw [← bind_id (meanS _ _ _ _ _)]
    simp [tL, turnB, sL, fd23, hd, hset, -List.map_map]
    rw [hst]
    simp [hcut, -List.map_map, -List.map_take]
    simp only [inF, turnB, sL, fd23] at e
    simp only [List.getD_cons_succ, List.getD_cons_zero, List.getD_eq_getElem?_getD] at e
    simp [-List.map_take, -List.map_map] at e
    rw [e]
    simp
  obtain ⟨r', S', e', rfl, rfl⟩ := hfin
  refine ⟨r', S', e', ⟨?_, fun i hi hq => ?_⟩, h2, h3⟩
  · have := h1.1; simp at this; omega
  · rw [h1.2 i (by simp; omega) hq, getOld hi]
end Law
set_option linter.all false
set_option Elab.async false
set_option maxRecDepth 100000
set_option maxHeartbeats 400000
namespace Law
open PySem MP
theorem turn_runs {W k s m : Nat} {S : Sto} {ns : List Int} (hn : ns.length ≤ 63) {j : Nat} {e2 e3 e4 e5 e6 e7 e8 e9 e10 e11 e12 : Option Val} (h0 : S[0]? = some (.rol (ns.map Val.int))) (hs : S[s]? = some (.lst (someL m))) :
    Runs (forF (callF T W (k + 5)) W (.nm 4) turnB (.int (j : Nat)) [some (.ref 0), some (.ref s), e2, e3, e4, e5, e6, e7, e8, e9, e10, e11, e12] S) fun r S' => S'[0]? = some (.rol (ns.map Val.int)) ∧ S'[s]? = some (.lst (someL m)) ∧ ∃ e2 e3 e4 e5 e6 e7 e8 e9 e10 e11 e12, r = .nx [some (.ref 0), some (.ref s), e2, e3, e4, e5, e6, e7, e8, e9, e10, e11, e12] := by
  have hl0 := lt_of_get h0
  have hsl := lt_of_get hs
  obtain ⟨o, w, odd, hw, hL, ho, ep⟩ := pre (W := W) (k := k) (e2 := e2) (e3 := e3) (e5 := e5) (e6 := e6) (e7 := e7) (e8 := e8) (e9 := e9) (e10 := e10) (e11 := e11) (e12 := e12) hn (j := j) h0 hs
  generalize hX : [o, Ob.dct (webK Val.str w), Ob.dct (K3 w odd), Ob.lst ((webK Val.str w).map fun p => .tup [p.1, p.2]), Ob.lst [.ref (S.length + 1), .ref (S.length + 3), .ref (S.length + 2)]] = X at ep
  have g : ∀ k, (S ++ X)[S.length + k]? = X[k]? := fun k => getAtK
  have g1 : (S ++ X)[S.length + 1]? = some (.dct (webK Val.str w)) := by rw [g, ← hX]; rfl
  have g2 : (S ++ X)[S.length + 2]? = some (.dct (K3 w odd)) := by rw [g, ← hX]; rfl
  have g3 : (S ++ X)[S.length + 3]? = some (.lst ((webK Val.str w).map fun p => .tup [p.1, p.2])) := by rw [g, ← hX]; rfl
  have g4 : (S ++ X)[S.length + 4]? = some (.lst [.ref (S.length + 1), .ref (S.length + 3), .ref (S.length + 2)]) := by rw [g, ← hX]; rfl
  obtain ⟨r, S2, e6', hb, ⟨e10', rfl⟩, its, hi, hf⟩ := t6 (W := W) (k := k + 5) (e0 := some (.ref 0)) (e1 := some (.ref s)) (e2 := e2) (e3 := e3) (e4 := some (.int (j : Nat))) (e5 := some (.ref S.length)) (e8 := some (.ref (S.length + 2))) (e10 := e10) (e11 := e11) (e12 := e12) g1 g4 (by omega) hw hL (by omega) (by simp) ho (by
    intro v hv
    simp only [List.mem_cons, List.not_mem_nil, or_false] at hv
    rcases hv with rfl | rfl | rfl
    · exact fine_K g1 (web_ok hL (by omega))
    · exact fine_lst g3
    · exact fine_K g2 (K3_ok hL (by omega) ho))
  have e7' := t7 (W := W) (k := k + 1) (e0 := some (.ref 0)) (e1 := some (.ref s)) (e2 := e2) (e3 := e3) (e4 := some (.int (j : Nat))) (e5 := some (.ref S.length)) (e6 := some (.ref (S.length + 1))) (e7 := some odd) (e8 := some (.ref (S.length + 2))) (e10 := e10') (e11 := e11) (e12 := e12) hi hf
  have et : forF (callF T W (k + 5)) W (.nm 4) turnB (.int (j : Nat)) [some (.ref 0), some (.ref s), e2, e3, e4, e5, e6, e7, e8, e9, e10, e11, e12] S = .ok (.nx [some (.ref 0), some (.ref s), e2, e3, some (.int (j : Nat)), some (.ref S.length), some (.ref (S.length + 1)), some odd, some (.ref (S.length + 2)), some (.ref (S.length + 4)), e10', e11, e12]) (S2 ++ [Ob.lst [], Ob.lst []]) := by
    rw [forF_ap]
    simp only [tgNm, setE, bind_ok, List.set_cons_succ, List.set_cons_zero]
    rw [ep, step e6', step e7']
    simp
  rw [et]
  have b0 : S2[0]? = some (.rol (ns.map Val.int)) := by rw [hb.2 0 (by simp; omega) (by omega), getOld hl0]; exact h0
  have bs : S2[s]? = some (.lst (someL m)) := by rw [hb.2 s (by simp; omega) (by omega), getOld hsl]; exact hs
  exact .mk ⟨by rw [getOld (lt_of_get b0)]; exact b0, by rw [getOld (lt_of_get bs)]; exact bs, _, _, _, _, _, _, _, _, _, _, _, rfl⟩
/-- what is looked at ahead of the turns -/
theorem fixed {W k : Nat} {S : Sto} :
    ∃ (X : Sto) (q : Nat) (f : Nat), X[2]? = some (.lst (someL S.length)) ∧ ∀ ss : List MS, meanB (callF T W (k + 4)) W ([sL 0, sL 1, sL 2, sL 3, sL 4, sL 5] ++ ss) [some (.ref 0), none, none, none, none, none, none, none, none, none, none, none, none] S = meanB (callF T W (k + 4)) W ss [some (.ref 0), some (.ref (S.length + 2)), some (.ref f), some (.ref q), none, none, none, none, none, none, none, none, none] (S ++ X) := by
  have a0 := st0 (φ := callF T W (k + 4)) (W := W) (S := S) (e0 := some (.ref 0)) (e1 := none) (e2 := none) (e3 := none) (e4 := none) (e5 := none) (e6 := none) (e7 := none) (e8 := none) (e9 := none) (e10 := none) (e11 := none) (e12 := none)
  generalize hX1 : [Ob.lst [], Ob.dct [], Ob.lst (someL S.length)] = X1 at a0
  have a1 := st1 (φ := callF T W (k + 4)) (W := W) (S := S ++ X1) (e0 := some (.ref 0)) (e1 := some (.ref (S.length + 2))) (e2 := none) (e3 := none) (e4 := none) (e5 := none) (e6 := none) (e7 := none) (e8 := none) (e9 := none) (e10 := none) (e11 := none) (e12 := none)
  have hl1 : X1.length = 3 := by rw [← hX1]; rfl
  have l1 : (S ++ X1).length = S.length + 3 := by simp [hl1]
  rw [l1] at a1
  obtain ⟨X2, hX2⟩ : ∃ X2, X2 = X1 ++ [Ob.lst (eightL.map Val.str), Ob.lst (eightL.map fun a => Val.tup [.str a, .str (mulT [97, 98] 25)]), Ob.dct fullK] := ⟨_, rfl⟩
  rw [List.append_assoc, ← hX2] at a1
  have hs2 : (S ++ X2)[S.length + 2]? = some (.lst (someL S.length)) := by rw [getAtK, hX2, ← hX1]; rfl
  have a2 := st2 (φ := callF T W (k + 4)) (W := W) (f := S.length + 3 + 2) (e0 := some (.ref 0)) (e3 := none) (e4 := none) (e5 := none) (e6 := none) (e7 := none) (e8 := none) (e9 := none) (e10 := none) (e11 := none) (e12 := none) hs2 (by simp [someL, odds])
  have l2 : (S ++ X2).length = S.length + 6 := by simp [hX2, hl1]
  rw [l2] at a2
  obtain ⟨X3, hX3⟩ : ∃ X3, X3 = X2 ++ [Ob.dct [(.str [97], .str (mulT [98] 400))], Ob.dct [(.str [97], .str (mulT [98] 401))], Ob.dct (putK [(.str [97], .str (mulT [98] 399))] (.text (stx [98])) (.str [98]) (.str [99, 99])), Ob.dct [(.str [], .str [97])], Ob.dct [(.int 1, .str [97])],
        Ob.lst [.ref (S.length + 3 + 2), .ref (S.length + 6), .ref (S.length + 6 + 1), .ref (S.length + 6 + 2), .ref (S.length + 6 + 3), .ref (S.length + 6 + 4)], Ob.lst (someL S.length ++ [.ref (S.length + 3 + 2), .ref (S.length + 6), .ref (S.length + 6 + 1), .ref (S.length + 6 + 2), .ref (S.length + 6 + 3), .ref (S.length + 6 + 4)])] := ⟨_, rfl⟩
  rw [List.append_assoc, ← hX3] at a2
  have hs3 : (S ++ X3)[S.length + 12]? = some (.lst (someL S.length ++ [.ref (S.length + 3 + 2), .ref (S.length + 6), .ref (S.length + 6 + 1), .ref (S.length + 6 + 2), .ref (S.length + 6 + 3), .ref (S.length + 6 + 4)])) := by rw [getAtK, hX3, hX2, ← hX1]; rfl
  have a3 := st3 (φ := callF T W (k + 4)) (W := W) (e0 := some (.ref 0)) (e1 := some (.ref (S.length + 2))) (e2 := some (.ref (S.length + 3 + 2))) (e4 := none) (e5 := none) (e6 := none) (e7 := none) (e8 := none) (e9 := none) (e10 := none) (e11 := none) (e12 := none) hs3 (by simp [someL, odds])
  have l3 : (S ++ X3).length = S.length + 13 := by simp [hX3, hX2, hl1]
  rw [l3, List.append_assoc, setK] at a3
  obtain ⟨X4, hX4⟩ : ∃ X4, X4 = (X3 ++ [Ob.dct [(.str [97], .non)]]).set 12 (.lst (someL S.length ++ [.ref (S.length + 3 + 2), .ref (S.length + 6), .ref (S.length + 6 + 1), .ref (S.length + 6 + 2), .ref (S.length + 6 + 3), .ref (S.length + 6 + 4)] ++ [.ref (S.length + 13)])) := ⟨_, rfl⟩
  rw [← hX4] at a3
  have hs4 : (S ++ X4)[S.length + 12]? = some (.lst (someL S.length ++ [.ref (S.length + 3 + 2), .ref (S.length + 6), .ref (S.length + 6 + 1), .ref (S.length + 6 + 2), .ref (S.length + 6 + 3), .ref (S.length + 6 + 4)] ++ [.ref (S.length + 13)])) := by rw [getAtK, hX4, hX3, hX2, ← hX1]; rfl
  have a4 := st4 (φ := callF T W (k + 4)) (W := W) (e0 := some (.ref 0)) (e1 := some (.ref (S.length + 2))) (e2 := some (.ref (S.length + 3 + 2))) (e4 := none) (e5 := none) (e6 := none) (e7 := none) (e8 := none) (e9 := none) (e10 := none) (e11 := none) (e12 := none) hs4 (by simp [someL, odds])
  have l4 : (S ++ X4).length = S.length + 14 := by simp [hX4, hX3, hX2, hl1]
  rw [l4, List.append_assoc, setK] at a4
  obtain ⟨X5, hX5⟩ : ∃ X5, X5 = (X4 ++ [Ob.lst (nineL.map Val.str), Ob.lst (nineL.map fun a => Val.tup [.str a, .str []]), Ob.dct nineK]).set 12 (.lst (someL S.length ++ [.ref (S.length + 3 + 2), .ref (S.length + 6), .ref (S.length + 6 + 1), .ref (S.length + 6 + 2), .ref (S.length + 6 + 3), .ref (S.length + 6 + 4)] ++ [.ref (S.length + 13)] ++ [.ref (S.length + 14 + 2)])) := ⟨_, rfl⟩
  rw [← hX5] at a4
  have hs5 : (S ++ X5)[S.length + 12]? = some (.lst (someL S.length ++ [.ref (S.length + 3 + 2), .ref (S.length + 6), .ref (S.length + 6 + 1), .ref (S.length + 6 + 2), .ref (S.length + 6 + 3), .ref (S.length + 6 + 4)] ++ [.ref (S.length + 13)] ++ [.ref (S.length + 14 + 2)])) := by rw [getAtK, hX5, hX4, hX3, hX2, ← hX1]; rfl
  have d0 : (S ++ X5)[S.length + 0]? = some (.lst []) := by rw [getAtK, hX5, hX4, hX3, hX2, ← hX1]; rfl
  have d1 : (S ++ X5)[S.length + 1]? = some (.dct []) := by rw [getAtK, hX5, hX4, hX3, hX2, ← hX1]; rfl
  have d5 : (S ++ X5)[S.length + 5]? = some (.dct fullK) := by rw [getAtK, hX5, hX4, hX3, hX2, ← hX1]; rfl
  have d6 : (S ++ X5)[S.length + 6]? = some (.dct [(.str [97], .str (mulT [98] 400))]) := by rw [getAtK, hX5, hX4, hX3, hX2, ← hX1]; rfl
  have d7 : (S ++ X5)[S.length + 7]? = some (.dct [(.str [97], .str (mulT [98] 401))]) := by rw [getAtK, hX5, hX4, hX3, hX2, ← hX1]; rfl
  have d8 : (S ++ X5)[S.length + 8]? = some (.dct (putK [(.str [97], .str (mulT [98] 399))] (.text (stx [98])) (.str [98]) (.str [99, 99]))) := by rw [getAtK, hX5, hX4, hX3, hX2, ← hX1]; rfl
  have d9 : (S ++ X5)[S.length + 9]? = some (.dct [(.str [], .str [97])]) := by rw [getAtK, hX5, hX4, hX3, hX2, ← hX1]; rfl
  have d10 : (S ++ X5)[S.length + 10]? = some (.dct [(.int 1, .str [97])]) := by rw [getAtK, hX5, hX4, hX3, hX2, ← hX1]; rfl
  have d13 : (S ++ X5)[S.length + 13]? = some (.dct [(.str [97], .non)]) := by rw [getAtK, hX5, hX4, hX3, hX2, ← hX1]; rfl
  have d16 : (S ++ X5)[S.length + 16]? = some (.dct nineK) := by rw [getAtK, hX5, hX4, hX3, hX2, ← hX1]; rfl
  obtain ⟨_, m1, m2, m3⟩ := mul_short
  have q : ∀ x : Tx, x.length ≤ 500 → Ok0 (.str x) := fun x h => ok0_str (by omega)
  have one : ∀ (k v : Val) (n : NestedKey), keyD k = some n → Ok0 k → Ok0 v → DWf [(k, v)] ∧ ∀ p ∈ [(k, v)], Ok0 p.1 ∧ Ok0 p.2 := fun k v n h h1 h2 => ⟨.one h, fun p hp => by rw [List.mem_singleton.mp hp]; exact ⟨h1, h2⟩⟩
  have a5 := st5 (W := W) (k := k) (e0 := some (.ref 0)) (e1 := some (.ref (S.length + 2))) (e2 := some (.ref (S.length + 3 + 2))) (e4 := none) (e5 := none) (e6 := none) (e7 := none) (e8 := none) (e9 := none) (e10 := none) (e11 := none) (e12 := none) hs5 (by
    intro v hv
    simp only [List.mem_append, or_assoc] at hv
    unfold someL at hv
    simp only [List.mem_append, List.mem_cons, List.not_mem_nil, or_false, or_assoc] at hv
    rcases hv with hv | rfl | rfl | rfl | rfl | rfl | rfl | rfl | rfl | rfl | rfl | rfl
    · exact fine_plain ((odds_ok v hv).1 _) (odds_ok v hv).2.2
    · exact fine_lst d0
    · exact fine_K d1 ⟨.nil, by simp⟩
    · exact fine_plain rfl (fun i e => by cases e)
    · exact fine_dct d5 full_ok.1 (full_ok.2 _)
    · exact fine_K d6 (one _ _ _ keyD_str (q _ (by decide)) (q _ m1))
    · exact fine_K d7 (one _ _ _ keyD_str (q _ (by decide)) (q _ m2))
    · refine fine_K d8 ⟨(DWf.one keyD_str).put keyD_str, fun p hp => ?_⟩
      rcases putK_mem hp with (h | rfl) | ⟨r, hr, rfl⟩
      · rw [List.mem_singleton.mp h]; exact ⟨q _ (by decide), q _ m3⟩
      · exact ⟨q _ (by decide), q _ (by decide)⟩
      · rw [List.mem_singleton.mp hr]; exact ⟨q _ (by decide), q _ (by decide)⟩
    · exact fine_K d9 (one _ _ _ keyD_str (q _ (by decide)) (q _ (by decide)))
    · exact fine_K d10 (one _ _ _ keyD_int (fun S => rfl) (q _ (by decide)))
    · exact fine_K d13 (one _ _ _ keyD_str (q _ (by decide)) (fun S => rfl))
    · exact fine_dct d16 nine_ok.1 (nine_ok.2 _))
  refine ⟨X5 ++ [Ob.lst [], Ob.lst []], S.length + 12, S.length + 3 + 2, by rw [hX5, hX4, hX3, hX2, ← hX1]; rfl, fun ss => ?_⟩
  simp only [List.cons_append, List.nil_append]
  rw [step a0, step a1, step a2, step a3, step a4, step a5, List.append_assoc]
theorem law_true {W : Nat} (ns : List Int) (hn : ns.length ≤ 63) : ∃ S', callF T W 20 23 [.ref 0] [.rol (ns.map Val.int)] = .ok (.bl true) S' := by
  have h0 : ([.rol (ns.map Val.int)] : Sto)[0]? = some (.rol (ns.map Val.int)) := rfl
  generalize hS : ([.rol (ns.map Val.int)] : Sto) = S at *
  have hl0 := lt_of_get h0
  obtain ⟨X, q, f, hX, ef⟩ := fixed (W := W) (k := 15) (S := S)
  have h02 : (S ++ X)[0]? = some (.rol (ns.map Val.int)) := by rw [getOld hl0]; exact h0
  have hs2 : (S ++ X)[S.length + 2]? = some (.lst (someL S.length)) := by rw [getAtK]; exact hX
  have hm : (if 1 < (if (20 : Int) < (ns.length : Int) then 20 else (ns.length : Int)) then (if (20 : Int) < (ns.length : Int) then 20 else (ns.length : Int)) else 1) = ((max 1 (min ns.length 20) : Nat) : Int) := by
    split <;> split <;> omega
  have fin := forL_ix (gs := []) (f := forF (callF T W 19) W (.nm 4) turnB) (fun j ρ S' => S'[0]? = some (.rol (ns.map Val.int)) ∧ S'[S.length + 2]? = some (.lst (someL S.length)) ∧ ∃ e2 e3 e4 e5 e6 e7 e8 e9 e10 e11 e12, ρ = [some (.ref 0), some (.ref (S.length + 2)), e2, e3, e4, e5, e6, e7, e8, e9, e10, e11, e12]) (fun r S' => ∃ ρ, r = .nx ρ)
    (fun _ _ _ _ => stays_nil) (xs := (List.range (max 1 (min ns.length 20))).map fun (k : Nat) => Val.int (k : Int)) (ρ := [some (.ref 0), some (.ref (S.length + 2)), some (.ref f), some (.ref q), none, none, none, none, none, none, none, none, none]) (S := S ++ X) (fun j x ρ S1 hx ⟨a, b, e2, e3, e4, e5, e6, e7, e8, e9, e10, e11, e12, c⟩ => by
      subst c
      rw [List.getElem?_map] at hx
      obtain ⟨j', _, rfl⟩ := Option.map_eq_some_iff.mp hx
      obtain ⟨r, S2, e, a2, b2, c2, c3, c4, c5, c6, c7, c8, c9, c10, c11, c12, rfl⟩ := turn_runs (W := W) (k := 14) (j := j') (e2 := e2) (e3 := e3) (e4 := e4) (e5 := e5) (e6 := e6) (e7 := e7) (e8 := e8) (e9 := e9) (e10 := e10) (e11 := e11) (e12 := e12) hn a b
      rw [e]
      exact .mk ⟨a2, b2, _, _, _, _, _, _, _, _, _, _, _, rfl⟩) (fun ρ S1 _ => ⟨ρ, rfl⟩) ⟨h02, hs2, _, _, _, _, _, _, _, _, _, _, _, rfl⟩
  obtain ⟨r, S2, e, ρ', rfl⟩ := fin
  have hb : fd23.body = [sL 0, sL 1, sL 2, sL 3, sL 4, sL 5] ++ [sL 6, .ret (.con (.bl true))] := rfl
  have h6 : sL 6 = .for_ (.nm 4) (.rng1 (.blt .max2 [(.con (.int 1)), (.blt .min2 [(.blt .len [(.var 0)]), (.con (.int 20))])])) turnB := rfl
  rw [callF_succ (d := fd23) rfl rfl, hb]
  have hst : startE fd23 [.ref 0] = [some (.ref 0), none, none, none, none, none, none, none, none, none, none, none, none] := rfl
  rw [hst, ef, h6]
  generalize turnB = tb at e ⊢
  simp [h02]
  rw [hm, rngV_int (by omega)]
  simp only [bind_ok, Int.toNat_natCast]
  rw [e]
  simp
  exact gc_bl
end Law
set_option linter.all false
set_option Elab.async false
theorem PySem.Challenge.cw_sortedturns_k01_signs_names_and_lots_holds : PySem.Challenge.rw_sortedturns_k01_signs_names_and_lots.Holds :=
  holds_of (W := 2000) Law.lawD fun ns hn => Law.law_true ns hn
