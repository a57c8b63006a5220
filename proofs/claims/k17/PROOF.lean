import PyProof.Rows.All
import Wide.All
import OpenK.AllK
import Wide.FinOn
import KE.KeyNested
import HandS.SetTxt0
import HandS.Set
import HandS.ForMost
import HandS.TupAny
import HandS.TupMul
import HandS.Deep
import HandS.Flow
import HandS.Walk
import HandS.Exc
import HandS.Ends
import HandS.IsInst
import HandS.Conv
import HandS.HotCalls
import HandS.More
import KE.KOpsOwn
import HandS.Small
import HandS.TupLen
import HandS.DictComp
import KE.SortData
import KE.KDictPairs
import HandS.DictEq
import HandS.OwnEq
import PyProof.AssignAttr
import HandS.TupSets
import PyProof.WalksMore
import PyProof.FactsAll.subtypes_4
import HandS.Zip
import HandS.MakeKwOnly
import HandS.Property
import HandS.Star
import HandS.Style
import HandS.DictTup
import PyProof.SumAny
import PyProof.Rows.SumAny
import HandS.Defaults
import KE.SortKeyHeap
import KE.KExcSuper
import HandS.ExcField
import HandS.ExcIs
import HandS.StrMore
import HandS.Replace
import PyProof.FactsAll.str_4
import PyProof.FactsAll.str_7
import PyProof.EqKinds
import HandS.RevTup
import HandS.Strs
import PyProof.DictRoadsH
import PyProof.DictTable
import HandS.SetBool
import PyProof.Rows.Range3
import PyProof.Conv_bool
import KE.KDictList
import PyProof.StrWalks
import KE.KRevSl
import KE.DataMinMax
import KE.GoesEnum
import HandS.List
import PyProof.ReprRoads
import HandS.Text
import PySem.Challenge.RW_listnames_k17_zones_refused
set_option Elab.async false
set_option linter.all false
set_option maxRecDepth 100000
/-! Me0: dicts by nested keys (None, tuples of anything): find, get, set. -/
namespace Me
open PySem PySem.Spec PyProof.Rows
/-- None or a tuple -/
def hdK : NestedKey → Bool
  | .none => true
  | .tup _ => true
  | _ => false
structure KeyAt (h : Heap) (k : NestedKey) (v : Value) : Prop where
  is : NestedIs h k v
  sh : hdK k = true
  dp : k.depth ≤ 8
theorem KeyAt.shape {h : Heap} {k : NestedKey} {v : Value} (x : KeyAt h k v) : v = .none ∨ ∃ a, v = .ref a := by
  have := x.sh
  cases x.is with
  | none => exact .inl rfl
  | tup => exact .inr ⟨_, rfl⟩
  | bool => simp [hdK] at this
  | int => simp [hdK] at this
  | text => simp [hdK] at this
abbrev NEt := NestedKey × Value × Value
def entN (w : World) (x : NEt) : DictEntry := ⟨x.1.hash w, x.2.1, x.2.2⟩
theorem nat_uniq {xs : List NEt} (hn : (xs.map (·.1)).Nodup) {i j : Nat} {k : NestedKey} {p q : Value × Value} (hi : xs[i]? = some (k, p)) (hj : xs[j]? = some (k, q)) : i = j := by
  have hi' : (xs.map (·.1))[i]? = some k := by rw [List.getElem?_map, hi]; rfl
  have hj' : (xs.map (·.1))[j]? = some k := by rw [List.getElem?_map, hj]; rfl
  exact (List.getElem?_inj (List.getElem?_eq_some_iff.mp hi').1 hn).mp (hi'.trans hj'.symm)
section
variable {prog : Program} {w : World} {A : Around} {E : Value → Shared → Prop} {s : Shared}
theorem ent_at {es : Array DictEntry} {xs : List NEt} (he : es.toList = xs.map (entN w)) (j : Nat) : es[j]? = (xs[j]?).map (entN w) := by
  rw [← Array.getElem?_toList, he, List.getElem?_map]
theorem ent_size {es : Array DictEntry} {xs : List NEt} (he : es.toList = xs.map (entN w)) : es.size = xs.length := by
  rw [← Array.length_toList, he, List.length_map]
theorem eq_n {h : Shared} {x y : NestedKey} {a b : Value} {Q : Bool → Shared → Prop} (hu : A.units + 8 < cLine) (ha : KeyAt h.heap x a) (hb : KeyAt h.heap y b) (q : Q (decide (x = y)) h) : wpAny (model prog w) A (eqBool a b) Q E h :=
  eqAt_key x y A h _ _ ha.is hb.is (by have := ha.dp; omega) _ _ _ _ (by rw [← NestedKey.decide_eq]; exact q)
theorem tell_n {v : Value} {k : NestedKey} {stored : List Value} {Q : Bool → Shared → Prop} (hkey : KeyAt s.heap k v)
    (hst : ∀ v ∈ stored, ∃ k', KeyAt s.heap k' v) (h : Q false s) : wpAny (model prog w) A (tableMayTell v stored) Q E s := by
  unfold tableMayTell
  split
  · exact wpAny_pure h
  · refine wpAny_bind (quiet_key k v 8 s hkey.is hkey.dp A E _ ?_)
    simp only [Bool.not_true, Bool.false_eq_true, if_false]
    refine wpAny_bind ?_
    refine wpAny_forIn_list _ (fun rest r s' => s' = s ∧ r = (none, ()) ∧ ∀ v ∈ rest, ∃ k', KeyAt s.heap k' v) _ ?_ ?_ _ _ ⟨rfl, rfl, hst⟩
    · rintro x rest r s' ⟨rfl, rfl, hr⟩
      obtain ⟨k', hb⟩ := hr x List.mem_cons_self
      refine wpAny_bind (quiet_key k' x 8 _ hb.is hb.dp A E _ ?_)
      simp only [Bool.not_true, Bool.false_eq_true, if_false]
      exact wpAny_pure ⟨rfl, rfl, fun v hv => hr v (List.mem_cons_of_mem _ hv)⟩
    · rintro r s' ⟨rfl, rfl, _⟩
      exact wpAny_pure h
theorem walk_n {d : Addr} {v : Value} {o : Obj} {es ep} {xs : List NEt} {k : NestedKey} {Q : Option Nat → Shared → Prop} (hu : A.units + 8 < cLine) (hkey : KeyAt s.heap k v)
    (ho : s.heap.get? d = some o) (hd : o.data = .dict es ep) (he : es.toList = xs.map (entN w)) (his : ∀ x ∈ xs, KeyAt s.heap x.1 x.2.1) (hn : (xs.map (·.1)).Nodup)
    (hnone : (∀ (j : Nat) (p : Value × Value), xs[j]? ≠ some (k, p)) → Q none s) (hsome : ∀ (j : Nat) (p : Value × Value), xs[j]? = some (k, p) → Q (some j) s) :
    wpAny (model prog w) A (dictWalkPlain d v (k.hash w) es (placesWithHash es.size (fun i => es[i]?.map (·.hash)) (k.hash w))) Q E s := by
  have hsz : es.size = xs.length := ent_size he
  have haskey : ∀ (j : Nat) (p : Value × Value), xs[j]? = some (k, p) → ((es[j]?.map (·.hash)) == some (k.hash w)) = true := by
    intro j p hj
    rw [ent_at he j, hj]
    simp [entN]
  unfold dictWalkPlain
  refine wpAny_bind ?_
  refine wpAny_forIn_list _
    (fun rest b s' => s' = s ∧ b = (none, ()) ∧ ∃ i, rest = (List.range' i (es.size - i)).filter (fun i => (es[i]?.map (·.hash)) == some (k.hash w)) ∧ i ≤ es.size ∧
      ∀ j p, j < i → xs[j]? ≠ some (k, p)) _ ?_ ?_ _ _
    ⟨rfl, rfl, 0, by rw [placesWithHash, List.range_eq_range', Nat.sub_zero], Nat.zero_le _, fun _ _ h => absurd h (Nat.not_lt_zero _)⟩
  · rintro x rest b s' ⟨rfl, rfl, i, hr, hi, hno⟩
    obtain ⟨hix, hxn, hpx, hskip, hrest⟩ := filter_range'_cons _ _ _ _ _ hr.symm
    have hlt : x < es.size := by omega
    have hrest' : rest = (List.range' (x + 1) (es.size - (x + 1))).filter (fun i => (es[i]?.map (·.hash)) == some (k.hash w)) := by rw [hrest]; congr 2; omega
    obtain ⟨⟨k', b, v'⟩, hkv⟩ : ∃ y, xs[x]? = some y := ⟨xs[x]'(by rw [← hsz]; exact hlt), List.getElem?_eq_getElem _⟩
    have hib : KeyAt s'.heap k' b := his _ (List.mem_of_getElem? hkv)
    have hex : es[x]? = some ⟨k'.hash w, b, v'⟩ := by rw [ent_at he x, hkv]; rfl
    have hstay : ¬ k' = k → ∀ j p, j < x + 1 → xs[j]? ≠ some (k, p) := fun hne j p hjx hj => by
      rcases Nat.lt_or_ge j i with h | h
      · exact hno j p h hj
      · by_cases e : j = x
        · subst e; rw [hkv] at hj; injection hj with hj; injection hj with hj; exact hne hj
        · have := hskip j h (by omega)
          rw [haskey j p hj] at this
          exact absurd this (by decide)
    rw [hex]
    dsimp only
    by_cases hh : (k'.hash w == k.hash w) = true
    · rw [if_pos hh]
      refine wpAny_bind (wpAny_dictEpoch ho hd (wpAny_bind (eq_n hu hib hkey (wpAny_bind (wpAny_dictEpoch ho hd ?_)))))
      show wpAny _ _ (if (ep != ep) = true then _ else _) _ E _
      rw [if_neg (by simp)]
      by_cases hkk : k' = k
      · rw [decide_eq_true hkk]
        subst hkk
        exact wpAny_bind (wpAny_rule (wpAny_pure (wpAny_pure (hsome x _ hkv))))
      · rw [decide_eq_false hkk]
        exact wpAny_bind (wpAny_rule (wpAny_pure ⟨rfl, rfl, x + 1, hrest', hlt, hstay hkk⟩))
    · rw [if_neg hh]
      exact wpAny_pure ⟨rfl, rfl, x + 1, hrest', hlt, hstay fun e => hh (by rw [e]; simp)⟩
  · rintro b s' ⟨rfl, rfl, i, hr, hi, hno⟩
    refine wpAny_pure (hnone fun j p hj => ?_)
    rcases Nat.lt_or_ge j i with h | h
    · exact hno j p h hj
    · have hjl : j < es.size := by rw [hsz]; exact (List.getElem?_eq_some_iff.mp hj).1
      have := List.filter_eq_nil_iff.mp hr.symm j (List.mem_range'_1.mpr ⟨h, by omega⟩)
      rw [haskey j p hj] at this
      exact absurd this (by decide)
theorem find_n {d : Addr} {v : Value} {o : Obj} {es ep} {xs : List NEt} {k : NestedKey} {Q : Option Nat → Shared → Prop} (hu : A.units + 8 < cLine) (hkey : KeyAt s.heap k v)
    (ho : s.heap.get? d = some o) (hd : o.data = .dict es ep) (he : es.toList = xs.map (entN w)) (his : ∀ x ∈ xs, KeyAt s.heap x.1 x.2.1) (hn : (xs.map (·.1)).Nodup)
    (hnone : (∀ (j : Nat) (p : Value × Value), xs[j]? ≠ some (k, p)) → Q none s) (hsome : ∀ (j : Nat) (p : Value × Value), xs[j]? = some (k, p) → Q (some j) s) :
    wpAny (model prog w) A (dictFind d v (k.hash w)) Q E s := by
  have hsz : es.size = xs.length := ent_size he
  have haskey : ∀ (j : Nat) (p : Value × Value), xs[j]? = some (k, p) → ((es[j]?.map (·.hash)) == some (k.hash w)) = true := by
    intro j p hj
    rw [ent_at he j, hj]
    simp [entN]
  have hmem : ∀ e ∈ es, ∃ x ∈ xs, e = entN w x := by
    intro e hin
    have : e ∈ xs.map (entN w) := he ▸ Array.mem_toList_iff.mpr hin
    obtain ⟨x, hx, rfl⟩ := List.mem_map.mp this
    exact ⟨x, hx, rfl⟩
  have hany : ¬ (es.any fun e => e.key == v && e.hash != k.hash w) = true := by
    rw [← Array.any_toList, List.any_eq_true]
    rintro ⟨e, hin, hc⟩
    obtain ⟨x, hx, rfl⟩ := hmem e (Array.mem_toList_iff.mp hin)
    simp only [entN, Bool.and_eq_true, beq_iff_eq, bne_iff_ne, ne_eq] at hc
    obtain ⟨hxa, hne⟩ := hc
    have := (his x hx).is
    rw [hxa] at this
    exact hne (by rw [NestedIs.inj _ _ _ this hkey.is])
  have hst : ∀ v ∈ (placesWithHash es.size (fun i => es[i]?.map (·.hash)) (k.hash w)).filterMap (fun i => es[i]?.map (·.key)), ∃ k', KeyAt s.heap k' v := by
    intro v hv
    obtain ⟨i, _, hi⟩ := List.mem_filterMap.mp hv
    cases hei : es[i]? with
    | none => rw [hei] at hi; cases hi
    | some e =>
      rw [hei] at hi
      obtain rfl : e.key = v := by simpa using hi
      obtain ⟨x, hx, rfl⟩ := hmem e (Array.mem_of_getElem? hei)
      exact ⟨x.1, his x hx⟩
  unfold dictFind
  try with_reducible refine wpAny_holding ?_
  refine wpAny_bind (wpAny_dictEntries ho hd ?_)
  rcases hkey.shape with rfl | ⟨a, rfl⟩ <;> dsimp only
  · by_cases hall : ((Value.none :: (placesWithHash es.size (fun i => es[i]?.map (·.hash)) (k.hash w)).filterMap (fun i => es[i]?.map (·.key))).all carriedByValue) = true
    · rw [if_pos hall]
      exact walk_n hu hkey ho hd he his hn hnone hsome
    · rw [if_neg hall]
      by_cases hone : (((placesWithHash es.size (fun i => es[i]?.map (·.hash)) (k.hash w)).filterMap (fun i => es[i]?.map (·.key))) == [Value.none]) = true <;>
      (first | rw [if_pos hone] | rw [if_neg hone]) <;> (first | refine wpAny_bind (wpAny_pure ?_) | refine wpAny_bind (tell_n hkey hst ?_)) <;> (
        rw [if_neg (by simp)]
        refine wpAny_bind ?_
        refine wpAny_forIn_list _
          (fun rest b s' => s' = s ∧ ∃ i hit, b = (none, hit) ∧ rest = (List.range' i (es.size - i)).filter (fun i => (es[i]?.map (·.hash)) == some (k.hash w)) ∧ i ≤ es.size ∧
            ((hit = none ∧ ∀ j p, j < i → xs[j]? ≠ some (k, p)) ∨ ∃ j p, hit = some j ∧ j < i ∧ xs[j]? = some (k, p))) _ ?_ ?_ _ _
          ⟨rfl, 0, none, rfl, by rw [placesWithHash, List.range_eq_range', Nat.sub_zero], Nat.zero_le _, .inl ⟨rfl, fun _ _ h => absurd h (Nat.not_lt_zero _)⟩⟩
        · rintro x rest b s' ⟨rfl, i, hit, rfl, hr, hi, hH⟩
          obtain ⟨hix, hxn, hpx, hskip, hrest⟩ := filter_range'_cons _ _ _ _ _ hr.symm
          have hlt : x < es.size := by omega
          have hrest' : rest = (List.range' (x + 1) (es.size - (x + 1))).filter (fun i => (es[i]?.map (·.hash)) == some (k.hash w)) := by rw [hrest]; congr 2; omega
          obtain ⟨⟨k', b, v'⟩, hkv⟩ : ∃ y, xs[x]? = some y := ⟨xs[x]'(by rw [← hsz]; exact hlt), List.getElem?_eq_getElem _⟩
          have hib : KeyAt s'.heap k' b := his _ (List.mem_of_getElem? hkv)
          have hex : es[x]? = some ⟨k'.hash w, b, v'⟩ := by rw [ent_at he x, hkv]; rfl
          have hHx : (hit = none ∧ ∀ j p, j < x → xs[j]? ≠ some (k, p)) ∨ ∃ j p, hit = some j ∧ j < x ∧ xs[j]? = some (k, p) := by
            rcases hH with ⟨h0, hno⟩ | ⟨j, p, h1, hji, hj⟩
            · refine .inl ⟨h0, fun j p hjx hj => ?_⟩
              rcases Nat.lt_or_ge j i with h | h
              · exact hno j p h hj
              · have := hskip j h hjx
                rw [haskey j p hj] at this
                exact absurd this (by decide)
            · exact .inr ⟨j, p, h1, by omega, hj⟩
          have hstay : ¬ k' = k → ((hit = none ∧ ∀ j p, j < x + 1 → xs[j]? ≠ some (k, p)) ∨ ∃ j p, hit = some j ∧ j < x + 1 ∧ xs[j]? = some (k, p)) := by
            intro hne
            rcases hHx with ⟨h0, hno⟩ | ⟨j, p, h1, hjx, hj⟩
            · refine .inl ⟨h0, fun j p hjx hj => ?_⟩
              rcases Nat.lt_or_ge j x with h | h
              · exact hno j p h hj
              · have hjx' : j = x := by omega
                subst hjx'
                rw [hkv] at hj
                injection hj with hj
                injection hj with hj
                exact hne hj
            · exact .inr ⟨j, p, h1, by omega, hj⟩
          rw [hex]
          dsimp only
          by_cases hh : (k'.hash w == k.hash w) = true
          · rw [if_pos hh]
            refine wpAny_bind (wpAny_dictEpoch ho hd (wpAny_bind (eq_n hu hib hkey (wpAny_bind (wpAny_dictEpoch ho hd ?_)))))
            show wpAny _ _ (if (ep != ep) = true then _ else _) _ E _
            rw [if_neg (by simp)]
            by_cases hkk : k' = k
            · rw [decide_eq_true hkk]
              subst hkk
              rcases hHx with ⟨rfl, _⟩ | ⟨j, p, _, hjx, hj⟩
              · first | rw [if_pos rfl] | skip
                simp only [Option.isSome_none, Bool.false_eq_true, if_false]
                first | refine wpAny_bind (wpAny_pure ?_) | skip
                refine wpAny_bind (wpAny_rule ?_)
                split
                · exact wpAny_pure (wpAny_pure (hsome x _ hkv))
                · exact wpAny_pure ⟨rfl, x + 1, some x, rfl, hrest', hlt, .inr ⟨x, _, rfl, Nat.lt_succ_self x, hkv⟩⟩
              · exact absurd (nat_uniq hn hj hkv) (by omega)
            · rw [decide_eq_false hkk]
              simp only [Bool.false_eq_true, if_false]
              refine wpAny_bind (wpAny_rule ?_)
              first | rw [if_neg (by simp)] | skip
              first
                | exact wpAny_pure ⟨rfl, x + 1, hit, rfl, hrest', hlt, hstay hkk⟩
                | exact wpAny_bind (wpAny_pure (wpAny_pure ⟨rfl, x + 1, hit, rfl, hrest', hlt, hstay hkk⟩))
          · rw [if_neg hh]
            refine wpAny_pure ⟨rfl, x + 1, hit, rfl, hrest', hlt, hstay ?_⟩
            intro hkk
            rw [hkk] at hh; simp at hh
        · rintro b s' ⟨rfl, i, hit, rfl, hr, hi, hH⟩
          have hall : ∀ j, i ≤ j → j < es.size → ((es[j]?.map (·.hash)) == some (k.hash w)) = false := by
            intro j h1 h2
            have := List.filter_eq_nil_iff.mp hr.symm j (List.mem_range'_1.mpr ⟨h1, by omega⟩)
            simpa using this
          rcases hH with ⟨rfl, hno⟩ | ⟨j, p, rfl, _, hj⟩
          · refine wpAny_pure (hnone fun j p hj => ?_)
            rcases Nat.lt_or_ge j i with h | h
            · exact hno j p h hj
            · have hjl : j < es.size := by
                rw [hsz]
                exact (List.getElem?_eq_some_iff.mp hj).1
              have := hall j h hjl
              rw [haskey j p hj] at this
              exact absurd this (by decide)
          · exact wpAny_pure (hsome j p hj))
  · rw [if_neg (show ¬ ((Value.ref a :: (placesWithHash es.size (fun i => es[i]?.map (·.hash)) (k.hash w)).filterMap (fun i => es[i]?.map (·.key))).all carriedByValue) = true by simp [carriedByValue])]
    rw [if_neg hany]
    by_cases hone : (((placesWithHash es.size (fun i => es[i]?.map (·.hash)) (k.hash w)).filterMap (fun i => es[i]?.map (·.key))) == [Value.ref a]) = true <;>
    (first | rw [if_pos hone] | rw [if_neg hone]) <;> (first | refine wpAny_bind (wpAny_pure ?_) | refine wpAny_bind (tell_n hkey hst ?_)) <;> (
      rw [if_neg (by simp)]
      refine wpAny_bind ?_
      refine wpAny_forIn_list _
        (fun rest b s' => s' = s ∧ ∃ i hit, b = (none, hit) ∧ rest = (List.range' i (es.size - i)).filter (fun i => (es[i]?.map (·.hash)) == some (k.hash w)) ∧ i ≤ es.size ∧
          ((hit = none ∧ ∀ j p, j < i → xs[j]? ≠ some (k, p)) ∨ ∃ j p, hit = some j ∧ j < i ∧ xs[j]? = some (k, p))) _ ?_ ?_ _ _
        ⟨rfl, 0, none, rfl, by rw [placesWithHash, List.range_eq_range', Nat.sub_zero], Nat.zero_le _, .inl ⟨rfl, fun _ _ h => absurd h (Nat.not_lt_zero _)⟩⟩
      · rintro x rest b s' ⟨rfl, i, hit, rfl, hr, hi, hH⟩
        obtain ⟨hix, hxn, hpx, hskip, hrest⟩ := filter_range'_cons _ _ _ _ _ hr.symm
        have hlt : x < es.size := by omega
        have hrest' : rest = (List.range' (x + 1) (es.size - (x + 1))).filter (fun i => (es[i]?.map (·.hash)) == some (k.hash w)) := by rw [hrest]; congr 2; omega
        obtain ⟨⟨k', b, v'⟩, hkv⟩ : ∃ y, xs[x]? = some y := ⟨xs[x]'(by rw [← hsz]; exact hlt), List.getElem?_eq_getElem _⟩
        have hib : KeyAt s'.heap k' b := his _ (List.mem_of_getElem? hkv)
        have hex : es[x]? = some ⟨k'.hash w, b, v'⟩ := by rw [ent_at he x, hkv]; rfl
        have hHx : (hit = none ∧ ∀ j p, j < x → xs[j]? ≠ some (k, p)) ∨ ∃ j p, hit = some j ∧ j < x ∧ xs[j]? = some (k, p) := by
          rcases hH with ⟨h0, hno⟩ | ⟨j, p, h1, hji, hj⟩
          · refine .inl ⟨h0, fun j p hjx hj => ?_⟩
            rcases Nat.lt_or_ge j i with h | h
            · exact hno j p h hj
            · have := hskip j h hjx
              rw [haskey j p hj] at this
              exact absurd this (by decide)
          · exact .inr ⟨j, p, h1, by omega, hj⟩
        have hstay : ¬ k' = k → ((hit = none ∧ ∀ j p, j < x + 1 → xs[j]? ≠ some (k, p)) ∨ ∃ j p, hit = some j ∧ j < x + 1 ∧ xs[j]? = some (k, p)) := by
          intro hne
          rcases hHx with ⟨h0, hno⟩ | ⟨j, p, h1, hjx, hj⟩
          · refine .inl ⟨h0, fun j p hjx hj => ?_⟩
            rcases Nat.lt_or_ge j x with h | h
            · exact hno j p h hj
            · have hjx' : j = x := by omega
              subst hjx'
              rw [hkv] at hj
              injection hj with hj
              injection hj with hj
              exact hne hj
          · exact .inr ⟨j, p, h1, by omega, hj⟩
        rw [hex]
        dsimp only
        by_cases hh : (k'.hash w == k.hash w) = true
        · rw [if_pos hh]
          refine wpAny_bind (wpAny_dictEpoch ho hd (wpAny_bind (eq_n hu hib hkey (wpAny_bind (wpAny_dictEpoch ho hd ?_)))))
          show wpAny _ _ (if (ep != ep) = true then _ else _) _ E _
          rw [if_neg (by simp)]
          by_cases hkk : k' = k
          · rw [decide_eq_true hkk]
            subst hkk
            rcases hHx with ⟨rfl, _⟩ | ⟨j, p, _, hjx, hj⟩
            · first | rw [if_pos rfl] | skip
              simp only [Option.isSome_none, Bool.false_eq_true, if_false]
              first | refine wpAny_bind (wpAny_pure ?_) | skip
              refine wpAny_bind (wpAny_rule ?_)
              split
              · exact wpAny_pure (wpAny_pure (hsome x _ hkv))
              · exact wpAny_pure ⟨rfl, x + 1, some x, rfl, hrest', hlt, .inr ⟨x, _, rfl, Nat.lt_succ_self x, hkv⟩⟩
            · exact absurd (nat_uniq hn hj hkv) (by omega)
          · rw [decide_eq_false hkk]
            simp only [Bool.false_eq_true, if_false]
            refine wpAny_bind (wpAny_rule ?_)
            first | rw [if_neg (by simp)] | skip
            first
              | exact wpAny_pure ⟨rfl, x + 1, hit, rfl, hrest', hlt, hstay hkk⟩
              | exact wpAny_bind (wpAny_pure (wpAny_pure ⟨rfl, x + 1, hit, rfl, hrest', hlt, hstay hkk⟩))
        · rw [if_neg hh]
          refine wpAny_pure ⟨rfl, x + 1, hit, rfl, hrest', hlt, hstay ?_⟩
          intro hkk
          rw [hkk] at hh; simp at hh
      · rintro b s' ⟨rfl, i, hit, rfl, hr, hi, hH⟩
        have hall : ∀ j, i ≤ j → j < es.size → ((es[j]?.map (·.hash)) == some (k.hash w)) = false := by
          intro j h1 h2
          have := List.filter_eq_nil_iff.mp hr.symm j (List.mem_range'_1.mpr ⟨h1, by omega⟩)
          simpa using this
        rcases hH with ⟨rfl, hno⟩ | ⟨j, p, rfl, _, hj⟩
        · refine wpAny_pure (hnone fun j p hj => ?_)
          rcases Nat.lt_or_ge j i with h | h
          · exact hno j p h hj
          · have hjl : j < es.size := by
              rw [hsz]
              exact (List.getElem?_eq_some_iff.mp hj).1
            have := hall j h hjl
            rw [haskey j p hj] at this
            exact absurd this (by decide)
        · exact wpAny_pure (hsome j p hj))
/-- the dict at d: its entries -/
def DictN (w : World) (h : Heap) (d : Addr) (xs : List NEt) : Prop :=
  ∃ o es ep, h.get? d = some o ∧ o.ExactDict ∧ o.data = .dict es ep ∧ es.toList = xs.map (entN w)
def AllKey (h : Heap) (xs : List NEt) : Prop := (∀ x ∈ xs, KeyAt h x.1 x.2.1) ∧ (xs.map (·.1)).Nodup
def atN (xs : List NEt) (k : NestedKey) : Option Value := (xs.find? fun x => decide (x.1 = k)).map (·.2.2)
def setN (xs : List NEt) (k : NestedKey) (kv v : Value) : List NEt := if (atN xs k).isSome then xs.map (fun x => if x.1 = k then (x.1, x.2.1, v) else x) else xs ++ [(k, kv, v)]
theorem KeyAt.toks {h : Shared} {t : Nat} {k : NestedKey} {v : Value} (x : KeyAt h.heap k v) : KeyAt ({ h with toks := t } : Shared).heap k v := x
theorem atN_none {xs : List NEt} {k : NestedKey} (h : ∀ (j : Nat) (p : Value × Value), xs[j]? ≠ some (k, p)) : atN xs k = none := by
  unfold atN
  rw [List.find?_eq_none.mpr]
  · rfl
  · intro x hx hk
    obtain ⟨j, hj⟩ := List.mem_iff_getElem?.mp hx
    exact h j x.2 (by rw [hj, ← of_decide_eq_true hk])
theorem atN_get : ∀ {xs : List NEt} (hn : (xs.map (·.1)).Nodup) {j : Nat} {k : NestedKey} {p : Value × Value}, xs[j]? = some (k, p) → atN xs k = some p.2
  | x :: xs, hn, j, k, p, h => by
    rw [List.map_cons, List.nodup_cons] at hn
    cases j with
    | zero => simp only [List.getElem?_cons_zero, Option.some.injEq] at h; subst h; simp [atN]
    | succ j =>
      simp only [List.getElem?_cons_succ] at h
      have hne : ¬ x.1 = k := fun e => hn.1 (e ▸ List.mem_map.mpr ⟨(k, p), List.mem_of_getElem? h, rfl⟩)
      have := atN_get hn.2 h
      unfold atN at this ⊢
      rw [List.find?_cons, decide_eq_false hne]
      exact this
theorem modN {xs : List NEt} {j : Nat} {k : NestedKey} {p : Value × Value} {v : Value} (hn : (xs.map (·.1)).Nodup) (hj : xs[j]? = some (k, p)) :
    (xs.map (entN w)).modify j (fun e => { e with val := v }) = (xs.map (fun x => if x.1 = k then (x.1, x.2.1, v) else x)).map (entN w) := by
  refine List.ext_getElem? fun i => ?_
  rw [List.getElem?_modify, List.getElem?_map, List.getElem?_map, List.getElem?_map]
  cases hi : xs[i]? with
  | none => rfl
  | some x =>
    simp only [Option.map_some]
    by_cases e : j = i
    · subst e
      rw [hj] at hi; cases hi
      simp [entN]
    · have : ¬ x.1 = k := fun z => e (nat_uniq hn hj (q := x.2) (by rw [hi, ← z]))
      simp [e, this]
theorem set_n {d : Addr} {kv v : Value} {xs : List NEt} {k : NestedKey} {Q : Unit → Shared → Prop} (hu : A.units + 8 < cLine) (hkey : KeyAt s.heap k kv) (hm : DictN w s.heap d xs) (ha : AllKey s.heap xs)
    (hQ : ∀ h', DictN w h' d (setN xs k kv v) → Heap.SameBut d s.heap h' → Q () { s with heap := h', toks := s.toks + k.draws })
    (hsz : xs.length ≤ sizeLine) : wpAny (model prog w) A (dictSet d kv v) Q E s := by
  obtain ⟨o, es, ep, ho, hc, hd, he⟩ := hm
  have hn := ha.2
  unfold dictSet
  try with_reducible refine wpAny_holding ?_
  refine wpAny_bind (pyHash_key k kv A s _ hkey.is (by have := hkey.dp; omega) ?_)
  unfold dictSetHashed
  try with_reducible refine wpAny_holding ?_
  refine wpAny_bind (find_n (s := { s with toks := s.toks + k.draws }) hu hkey ho hd he ha.1 ha.2 ?_ ?_)
  · intro hno
    refine wpAny_bind (wpAny_rule (wpAny_updateDictKeys (hz := by have e := ent_size he; omega) (s := { s with toks := s.toks + k.draws }) ho hd (hQ _ ⟨_, _, ep + 1, Heap.get?_update_self _ ho (Obj.isFreed_of_dict (Obj.data_mapDictKeys hd _)),
      hc.mapDictKeys _, Obj.data_mapDictKeys hd _, ?_⟩ (Heap.SameBut.update ..))))
    unfold setN
    rw [atN_none hno]
    simp [he, entN]
  · intro j p hj
    refine wpAny_bind (wpAny_rule (wpAny_bind (wpAny_updateDict (s := { s with toks := s.toks + k.draws }) ho hd (wpAny_point (hQ _ ⟨_, _, ep, Heap.get?_update_self _ ho (Obj.isFreed_of_dict (Obj.data_mapDict hd _)),
      hc.mapDict _, Obj.data_mapDict hd _, ?_⟩ (Heap.SameBut.update ..))))))
    unfold setN
    rw [atN_get hn hj]
    have := modN (w := w) (v := v) hn hj
    rw [← he] at this
    obtain ⟨l⟩ := es
    simpa using this
end
end Me

/-! Me1: values, cells, worlds. -/
namespace Me
open PySem PySem.Spec PyProof.Rows L2

/-- the set at a has the texts l, its table can be walked -/
structure TxSet (P : Program) (w : World) (h : Heap) (a : Addr) (l : List Str) : Prop where
  ex : ∃ D : Froz.SD, h.get? a = some (Froz.sObj "set" D) ∧ Froz.TxOk P w D l ∧ L2.Ris D.2.2.place.toList ∧ (w.params.followText "set-order" = true ∨ D.2.2.led = true)
theorem TxSet.keep {P : Program} {w : World} {h h' : Heap} {a : Addr} {l : List Str} (R : TxSet P w h a l) (k : ∀ o, h.get? a = some o → h'.get? a = some o) : TxSet P w h' a l := by
  obtain ⟨D, ho, r⟩ := R.ex
  exact ⟨D, k _ ho, r⟩
/-- a set of texts -/
def TSo (P : Program) (w : World) (a : Addr) (l : List Str) : HO := .ext fun h => TxSet P w h a l
/-- a key: an int, a text; a tuple of these -/
inductive DK where
  | k (x : Key)
  | t (x : List Key)
  deriving DecidableEq
/-- a value: data; frozen lists, dicts (by keys, by tuples), instances; a cell -/
inductive D where
  | non | bl (b : Bool) | int (i : Int) | str (x : Str)
  | lst (ds : List D) | tup (ds : List D)
  | dct (t : Bool) (kvs : List (DK × D))
  | ins (c : String) (fs : List (Str × D))
  | err (c : String) (fs : List (Str × D))
  | ty (n : String)
  | cls (c : String)
  | cell (j : Nat)
  | tpx (xs : List Str)
  deriving Inhabited
/-- a thing that changes -/
inductive Cell where
  | lst (ds : List D)
  | dct (t : Bool) (lk : Option HO) (kvs : List (DK × D))
  | ins (c : String) (fs : List (Str × D))
  | dead
  | gd (w : World) (kvs : List (NestedKey × Int))
  | ts (P : Program) (w : World) (l : List Str)
  | gl (w : World) (q : HO) (kvs : List (NestedKey × Int))
abbrev Mu := List Cell
abbrev En := List (Option D)
mutual
def D.refs : D → List Nat
  | .lst ds => D.refsL ds
  | .tup ds => D.refsL ds
  | .dct _ kvs => D.refsP kvs
  | .ins _ fs => D.refsF fs
  | .err _ fs => D.refsF fs
  | .cell j => [j]
  | .tpx _ => [] | .ty _ => [] | .cls _ => [] | .non => [] | .bl _ => [] | .int _ => [] | .str _ => []
def D.refsL : List D → List Nat
  | [] => []
  | d :: ds => d.refs ++ D.refsL ds
def D.refsP : List (DK × D) → List Nat
  | [] => []
  | (_, d) :: ds => d.refs ++ D.refsP ds
def D.refsF : List (Str × D) → List Nat
  | [] => []
  | (_, d) :: ds => d.refs ++ D.refsF ds
end
def Cell.refs : Cell → List Nat
  | .lst ds => D.refsL ds
  | .dct _ _ kvs => D.refsP kvs
  | .ins _ fs => D.refsF fs
  | .dead => []
  | .gd _ _ => []
  | .ts _ _ _ => []
  | .gl _ _ _ => []
def keyD : Key → D
  | .inl i => .int i
  | .inr x => .str x

/-- the written part, the classes by name -/
structure Gam where
  K : PySem.W.Frag
  cls : String → Option Addr
  err : Option (Addr × Addr × Option Addr)
/-- where a cell lies, and as what it is locked -/
structure Ad where
  a : Addr
  lk : Option HO
mutual
inductive DV (Γ : Gam) (F : Hp) (as : List Ad) : V → D → Prop
  | non : DV Γ F as .non .non
  | bl (b : Bool) : DV Γ F as (.bl b) (.bl b)
  | int (i : Int) : DV Γ F as (.int i) (.int i)
  | str (x : Str) : DV Γ F as (.str x) (.str x)
  | lst {a : Addr} {vs : List V} {ds : List D} : F a = some (.lst vs) → DVs Γ F as vs ds → DV Γ F as (.ref a) (.lst ds)
  | tup {a : Addr} {vs : List V} {ds : List D} : F a = some (.tup vs) → DVs Γ F as vs ds → DV Γ F as (.ref a) (.tup ds)
  | dctK {a : Addr} {od : Obj} {vs : List (Key × V)} {kvs : List (DK × D)} : F a = some (.frz od (.dK vs)) → DKs Γ F as vs kvs → DV Γ F as (.ref a) (.dct false kvs)
  | dctT {a : Addr} {od : Obj} {vs : List (List Key × V)} {kvs : List (DK × D)} : F a = some (.frz od (.dT vs)) → DTs Γ F as vs kvs → DV Γ F as (.ref a) (.dct true kvs)
  | ins {a C dx : Addr} {vs : List (Str × V)} {c : String} {fs : List (Str × D)} : F a = some (.ins C dx vs) → Γ.cls c = some C → DFs Γ F as vs fs → DV Γ F as (.ref a) (.ins c fs)
  | err0 {a C : Addr} {dx : Option Addr} {c : String} : Γ.err = some (a, C, dx) → Γ.cls c = some C → DV Γ F as (.ref a) (.err c [])
  | err1 {a C dx : Addr} {vs : List (Str × V)} {c : String} {fs : List (Str × D)} : Γ.err = some (a, C, some dx) → Γ.cls c = some C → F dx = some (.xd vs) → DFs Γ F as vs fs → DV Γ F as (.ref a) (.err c fs)
  | ty (n : String) : DV Γ F as (.ty n) (.ty n)
  | cls {C : Addr} {c : String} : Γ.cls c = some C → DV Γ F as (.ref C) (.cls c)
  | cell {j : Nat} {ad : Ad} : as[j]? = some ad → DV Γ F as (.ref ad.a) (.cell j)
  | tpx {a : Addr} {od : Obj} {xs : List Str} : F a = some (.frz od (.tup (xs.map V.str))) → od.dict = none → DV Γ F as (.ref a) (.tpx xs)
inductive DVs (Γ : Gam) (F : Hp) (as : List Ad) : List V → List D → Prop
  | nil : DVs Γ F as [] []
  | cons {v : V} {vs : List V} {d : D} {ds : List D} : DV Γ F as v d → DVs Γ F as vs ds → DVs Γ F as (v :: vs) (d :: ds)
inductive DKs (Γ : Gam) (F : Hp) (as : List Ad) : List (Key × V) → List (DK × D) → Prop
  | nil : DKs Γ F as [] []
  | cons {k : Key} {v : V} {vs : List (Key × V)} {d : D} {ds : List (DK × D)} : DV Γ F as v d → DKs Γ F as vs ds → DKs Γ F as ((k, v) :: vs) ((.k k, d) :: ds)
inductive DTs (Γ : Gam) (F : Hp) (as : List Ad) : List (List Key × V) → List (DK × D) → Prop
  | nil : DTs Γ F as [] []
  | cons {k : List Key} {v : V} {vs : List (List Key × V)} {d : D} {ds : List (DK × D)} : DV Γ F as v d → DTs Γ F as vs ds → DTs Γ F as ((k, v) :: vs) ((.t k, d) :: ds)
inductive DFs (Γ : Gam) (F : Hp) (as : List Ad) : List (Str × V) → List (Str × D) → Prop
  | nil : DFs Γ F as [] []
  | cons {f : Str} {v : V} {vs : List (Str × V)} {d : D} {ds : List (Str × D)} : DV Γ F as v d → DFs Γ F as vs ds → DFs Γ F as ((f, v) :: vs) ((f, d) :: ds)
end
theorem Rd.to {F F' : Hp} (s : Same F F') {a : Addr} {o : HO} (h : Rd F a o) : Rd F' a o := by
  rcases h with h | ⟨q, h⟩
  · exact .inl (s _ _ h)
  · exact .inr ⟨q, s _ _ h⟩
theorem SqL.to {K : PySem.W.Frag} {F F' : Hp} (s : Same F F') {a : Addr} {xs : List V} (h : SqL K F a xs) : SqL K F' a xs := by
  rcases h with h | h
  · exact .inl (Rd.to s h)
  · exact .inr h
theorem SqT.to {K : PySem.W.Frag} {F F' : Hp} (s : Same F F') {a : Addr} {xs : List V} (h : SqT K F a xs) : SqT K F' a xs := by
  rcases h with h | h
  · exact .inl (Rd.to s h)
  · exact .inr h
/-- places that stay -/
def Kp (as as' : List Ad) (js : List Nat) : Prop := ∀ j ∈ js, ∀ ad, as[j]? = some ad → as'[j]? = some ad
theorem Kp.l {as as' : List Ad} {a b : List Nat} (h : Kp as as' (a ++ b)) : Kp as as' a := fun j hj => h j (List.mem_append_left _ hj)
theorem Kp.r {as as' : List Ad} {a b : List Nat} (h : Kp as as' (a ++ b)) : Kp as as' b := fun j hj => h j (List.mem_append_right _ hj)
section
variable {Γ : Gam} {F F' : Hp} {as as' : List Ad}
mutual
theorem DV.to (s : Same F F') {v : V} {d : D} (h : DV Γ F as v d) (k : Kp as as' d.refs) : DV Γ F' as' v d := by
  cases h with
  | non => exact .non
  | bl b => exact .bl b
  | int i => exact .int i
  | str x => exact .str x
  | lst h1 h2 => exact .lst (s _ _ h1) (DVs.to s h2 (by simpa only [D.refs] using k))
  | tup h1 h2 => exact .tup (s _ _ h1) (DVs.to s h2 (by simpa only [D.refs] using k))
  | dctK h1 h2 => exact .dctK (s _ _ h1) (DKs.to s h2 (by simpa only [D.refs] using k))
  | dctT h1 h2 => exact .dctT (s _ _ h1) (DTs.to s h2 (by simpa only [D.refs] using k))
  | ins h1 hc h2 => exact .ins (s _ _ h1) hc (DFs.to s h2 (by simpa only [D.refs] using k))
  | err0 h1 hc => exact .err0 h1 hc
  | ty n => exact .ty n
  | cls hc => exact .cls hc
  | err1 h0 hc h1 h2 => exact .err1 h0 hc (s _ _ h1) (DFs.to s h2 (by simpa only [D.refs] using k))
  | cell h => exact .cell (k _ (by simp [D.refs]) _ h)
  | tpx h1 h2 => exact .tpx (s _ _ h1) h2
theorem DVs.to (s : Same F F') {vs : List V} {ds : List D} (h : DVs Γ F as vs ds) (k : Kp as as' (D.refsL ds)) : DVs Γ F' as' vs ds := by
  cases h with
  | nil => exact .nil
  | cons h1 h2 =>
    rw [D.refsL] at k
    exact .cons (DV.to s h1 k.l) (DVs.to s h2 k.r)
theorem DKs.to (s : Same F F') {vs : List (Key × V)} {ds : List (DK × D)} (h : DKs Γ F as vs ds) (k : Kp as as' (D.refsP ds)) : DKs Γ F' as' vs ds := by
  cases h with
  | nil => exact .nil
  | cons h1 h2 =>
    rw [D.refsP] at k
    exact .cons (DV.to s h1 k.l) (DKs.to s h2 k.r)
theorem DTs.to (s : Same F F') {vs : List (List Key × V)} {ds : List (DK × D)} (h : DTs Γ F as vs ds) (k : Kp as as' (D.refsP ds)) : DTs Γ F' as' vs ds := by
  cases h with
  | nil => exact .nil
  | cons h1 h2 =>
    rw [D.refsP] at k
    exact .cons (DV.to s h1 k.l) (DTs.to s h2 k.r)
theorem DFs.to (s : Same F F') {vs : List (Str × V)} {ds : List (Str × D)} (h : DFs Γ F as vs ds) (k : Kp as as' (D.refsF ds)) : DFs Γ F' as' vs ds := by
  cases h with
  | nil => exact .nil
  | cons h1 h2 =>
    rw [D.refsF] at k
    exact .cons (DV.to s h1 k.l) (DFs.to s h2 k.r)
end
/-- what a value speaks of is there -/
def Lw (as : List Ad) (js : List Nat) : Prop := ∀ j ∈ js, j < as.length
theorem Lw.app {as : List Ad} {a b : List Nat} (h : Lw as a) (h' : Lw as b) : Lw as (a ++ b) := fun j hj => by
  rcases List.mem_append.mp hj with z | z
  · exact h j z
  · exact h' j z
theorem Lw.nil {as : List Ad} : Lw as [] := fun _ h => nomatch h
mutual
theorem DV.low {v : V} {d : D} (h : DV Γ F as v d) : Lw as d.refs := by
  cases h with
  | non => exact Lw.nil
  | bl b => exact Lw.nil
  | int i => exact Lw.nil
  | str x => exact Lw.nil
  | lst h1 h2 => rw [D.refs]; exact DVs.low h2
  | tup h1 h2 => rw [D.refs]; exact DVs.low h2
  | dctK h1 h2 => rw [D.refs]; exact DKs.low h2
  | dctT h1 h2 => rw [D.refs]; exact DTs.low h2
  | ins h1 hc h2 => rw [D.refs]; exact DFs.low h2
  | err0 h1 hc => rw [D.refs, D.refsF]; exact Lw.nil
  | ty n => rw [D.refs]; exact Lw.nil
  | tpx _ _ => rw [D.refs]; exact Lw.nil
  | cls hc => rw [D.refs]; exact Lw.nil
  | err1 h0 hc h1 h2 => rw [D.refs]; exact DFs.low h2
  | cell h =>
    intro i hi
    rw [D.refs] at hi
    obtain rfl := List.mem_singleton.mp hi
    exact (List.getElem?_eq_some_iff.mp h).1
theorem DVs.low {vs : List V} {ds : List D} (h : DVs Γ F as vs ds) : Lw as (D.refsL ds) := by
  cases h with
  | nil => exact Lw.nil
  | cons h1 h2 => rw [D.refsL]; exact (DV.low h1).app (DVs.low h2)
theorem DKs.low {vs : List (Key × V)} {ds : List (DK × D)} (h : DKs Γ F as vs ds) : Lw as (D.refsP ds) := by
  cases h with
  | nil => exact Lw.nil
  | cons h1 h2 => rw [D.refsP]; exact (DV.low h1).app (DKs.low h2)
theorem DTs.low {vs : List (List Key × V)} {ds : List (DK × D)} (h : DTs Γ F as vs ds) : Lw as (D.refsP ds) := by
  cases h with
  | nil => exact Lw.nil
  | cons h1 h2 => rw [D.refsP]; exact (DV.low h1).app (DTs.low h2)
theorem DFs.low {vs : List (Str × V)} {ds : List (Str × D)} (h : DFs Γ F as vs ds) : Lw as (D.refsF ds) := by
  cases h with
  | nil => exact Lw.nil
  | cons h1 h2 => rw [D.refsF]; exact (DV.low h1).app (DFs.low h2)
end
/-! ### lists of values -/
theorem DVs.length : ∀ {vs : List V} {ds : List D}, DVs Γ F as vs ds → vs.length = ds.length
  | _, _, .nil => rfl
  | _, _, .cons _ t => congrArg (· + 1) t.length
theorem DVs.get : ∀ {vs : List V} {ds : List D} {i : Nat} {d : D}, DVs Γ F as vs ds → ds[i]? = some d → ∃ v, vs[i]? = some v ∧ DV Γ F as v d
  | _, _, _, _, .nil, e => by simp at e
  | _, _, 0, _, .cons h _, e => by simp at e; subst e; exact ⟨_, rfl, h⟩
  | _, _, i + 1, d, .cons _ t, e => by
    obtain ⟨v, h1, h2⟩ := DVs.get (i := i) (d := d) t (by simpa using e)
    exact ⟨v, by simpa using h1, h2⟩
theorem DVs.getV : ∀ {vs : List V} {ds : List D} {i : Nat} {v : V}, DVs Γ F as vs ds → vs[i]? = some v → ∃ d, ds[i]? = some d ∧ DV Γ F as v d
  | _, _, _, _, .nil, e => by simp at e
  | _, _, 0, _, .cons h _, e => by simp at e; subst e; exact ⟨_, rfl, h⟩
  | _, _, i + 1, v, .cons _ t, e => by
    obtain ⟨d, h1, h2⟩ := DVs.getV (i := i) (v := v) t (by simpa using e)
    exact ⟨d, by simpa using h1, h2⟩
theorem DVs.append : ∀ {vs ws : List V} {ds es : List D}, DVs Γ F as vs ds → DVs Γ F as ws es → DVs Γ F as (vs ++ ws) (ds ++ es)
  | _, _, _, _, .nil, h => h
  | _, _, _, _, .cons h t, h' => .cons h (t.append h')
theorem DVs.take : ∀ {vs : List V} {ds : List D} (n : Nat), DVs Γ F as vs ds → DVs Γ F as (vs.take n) (ds.take n)
  | _, _, 0, _ => .nil
  | _, _, _ + 1, .nil => .nil
  | _, _, n + 1, .cons h t => .cons h (t.take n)
theorem DVs.drop : ∀ {vs : List V} {ds : List D} (n : Nat), DVs Γ F as vs ds → DVs Γ F as (vs.drop n) (ds.drop n)
  | _, _, 0, h => h
  | _, _, _ + 1, .nil => .nil
  | _, _, n + 1, .cons _ t => t.drop n
theorem DVs.reverse : ∀ {vs : List V} {ds : List D}, DVs Γ F as vs ds → DVs Γ F as vs.reverse ds.reverse
  | _, _, .nil => .nil
  | _, _, .cons h t => by
    rw [List.reverse_cons, List.reverse_cons]
    exact t.reverse.append (.cons h .nil)
theorem DVs.rep {vs : List V} {ds : List D} (h : DVs Γ F as vs ds) : ∀ n : Nat, DVs Γ F as (List.replicate n vs).flatten (List.replicate n ds).flatten
  | 0 => .nil
  | n + 1 => by
    rw [List.replicate_succ, List.replicate_succ, List.flatten_cons, List.flatten_cons]
    exact h.append (h.rep n)
theorem DVs.set {v : V} {d : D} (h : DV Γ F as v d) : ∀ {vs : List V} {ds : List D} (i : Nat), DVs Γ F as vs ds → DVs Γ F as (vs.set i v) (ds.set i d)
  | _, _, _, .nil => .nil
  | _, _, 0, .cons _ t => .cons h t
  | _, _, i + 1, .cons q t => .cons q (t.set h i)
theorem DVs.dropLast {vs : List V} {ds : List D} (h : DVs Γ F as vs ds) : DVs Γ F as vs.dropLast ds.dropLast := by
  rw [List.dropLast_eq_take, List.dropLast_eq_take, h.length]
  exact h.take _
theorem DVs.ofInts : ∀ ns : List Int, DVs Γ F as (ns.map V.int) (ns.map D.int)
  | [] => .nil
  | n :: ns => .cons (.int n) (DVs.ofInts ns)
end

/-! ### cells -/
mutual
/-- a key of a dict by nested keys -/
inductive NkV (F : Hp) : NestedKey → V → Prop
  | none : NkV F .none .non
  | bool (b : Bool) : NkV F (.num (if b = true then 1 else 0)) (.bl b)
  | int (i : Int) : NkV F (.num i) (.int i)
  | text (x : Str) : NkV F (.text x) (.str x)
  | tup {a : Addr} {vs : List V} {ks : List NestedKey} : F a = some (.tup vs) → NkVs F ks vs → NkV F (.tup ks) (.ref a)
inductive NkVs (F : Hp) : List NestedKey → List V → Prop
  | nil : NkVs F [] []
  | cons {k : NestedKey} {v : V} {ks : List NestedKey} {vs : List V} : NkV F k v → NkVs F ks vs → NkVs F (k :: ks) (v :: vs)
end
mutual
theorem NkV.to {F F' : Hp} (s : Same F F') : ∀ {k : NestedKey} {v : V}, NkV F k v → NkV F' k v
  | _, _, .none => .none
  | _, _, .bool b => .bool b
  | _, _, .int i => .int i
  | _, _, .text x => .text x
  | _, _, .tup h t => .tup (s _ _ h) (NkVs.to s t)
theorem NkVs.to {F F' : Hp} (s : Same F F') : ∀ {ks : List NestedKey} {vs : List V}, NkVs F ks vs → NkVs F' ks vs
  | _, _, .nil => .nil
  | _, _, .cons h t => .cons (NkV.to s h) (NkVs.to s t)
end
abbrev NV := NestedKey × V × Int
/-- the dict at a: its keys, their values, numbers -/
def GDo (w : World) (a : Addr) (xs : List NV) : HO := .ext fun h => (a == sysModules) = false ∧ ∃ us : List NEt, DictN w h a us ∧ Paired (fun (x : NV) (u : NEt) => x.1 = u.1 ∧ RelV x.2.1 u.2.1 ∧ RelV (.int x.2.2) u.2.2) xs us
structure GKeys (F : Hp) (xs : List NV) : Prop where
  key : ∀ x ∈ xs, NkV F x.1 x.2.1 ∧ hdK x.1 = true ∧ x.1.depth ≤ 8
  nd : (xs.map (·.1)).Nodup
section
variable (Γ : Gam)
/-- a thing at a place, locked or not -/
def LkOk (ad : Ad) (H : Hp) (o : HO) : Option HO → Prop
  | some q => H ad.a = some q ∧ ∃ od, q = .frz od o
  | none => H ad.a = some o
def CellOk (F H : Hp) (as : List Ad) (ad : Ad) : Cell → Prop
  | .lst ds => ad.lk = none ∧ F ad.a = none ∧ ∃ vs, H ad.a = some (.lst vs) ∧ DVs Γ F as vs ds
  | .dct false lk kvs => F ad.a = none ∧ ∃ vs, LkOk ad H (.dK vs) lk ∧ DKs Γ F as vs kvs
  | .dct true lk kvs => F ad.a = none ∧ ∃ vs, LkOk ad H (.dT vs) lk ∧ DTs Γ F as vs kvs
  | .ins c fs => ad.lk = none ∧ F ad.a = none ∧ ∃ C dx vs, Γ.cls c = some C ∧ H ad.a = some (.ins C dx vs) ∧ DFs Γ F as vs fs
  | .dead => True
  | .ts P w l => ad.lk = none ∧ F ad.a = none ∧ H ad.a = some (TSo P w ad.a l)
  | .gl w q kvs => ad.lk = none ∧ F ad.a = none ∧ ∃ (xs : List NV) (od : Obj), q = .frz od (GDo w ad.a xs) ∧ H ad.a = some q ∧ GKeys F xs ∧ xs.map (fun x => (x.1, x.2.2)) = kvs
  | .gd w kvs => ad.lk = none ∧ F ad.a = none ∧ ∃ xs : List NV, H ad.a = some (GDo w ad.a xs) ∧ GKeys F xs ∧ xs.map (fun x => (x.1, x.2.2)) = kvs
end
section
variable {Γ : Gam} {F F' H H' : Hp} {as as' : List Ad} {ad : Ad} {c : Cell}
theorem LkOk.go {o : HO} {b : Option HO} (h : LkOk ad H o b) (k : ∀ o, H ad.a = some o → H' ad.a = some o) : LkOk ad H' o b := by
  cases b with
  | some q => exact ⟨k _ h.1, h.2⟩
  | none => exact k _ h
theorem LkOk.rd {o : HO} {b : Option HO} (h : LkOk ad H o b) : Rd H ad.a o := by
  cases b with
  | some q => obtain ⟨h1, od, rfl⟩ := h; exact .inr ⟨od, h1⟩
  | none => exact .inl h
theorem CellOk.go (k : CellOk Γ F H as ad c) (sF : Same F F') (nF : F ad.a = none → F' ad.a = none) (hH : ∀ o, H ad.a = some o → H' ad.a = some o) (has : Kp as as' c.refs) : CellOk Γ F' H' as' ad c := by
  match c, k with
  | .dead, _ => trivial
  | .ts _ _ _, ⟨k0, k1, k2⟩ => exact ⟨k0, nF k1, hH _ k2⟩
  | .gl w q kvs, ⟨k0, k1, xs, od, e, k2, k3, k4⟩ => exact ⟨k0, nF k1, xs, od, e, hH _ k2, ⟨fun x hx => ⟨(k3.key x hx).1.to sF, (k3.key x hx).2⟩, k3.nd⟩, k4⟩
  | .gd w kvs, ⟨k0, k1, xs, k2, k3, k4⟩ => exact ⟨k0, nF k1, xs, hH _ k2, ⟨fun x hx => ⟨(k3.key x hx).1.to sF, (k3.key x hx).2⟩, k3.nd⟩, k4⟩
  | .lst ds, ⟨k0, k1, vs, k2, k3⟩ => exact ⟨k0, nF k1, vs, hH _ k2, DVs.to sF k3 has⟩
  | .dct false lk kvs, ⟨k1, vs, k2, k3⟩ => exact ⟨nF k1, vs, k2.go hH, DKs.to sF k3 has⟩
  | .dct true lk kvs, ⟨k1, vs, k2, k3⟩ => exact ⟨nF k1, vs, k2.go hH, DTs.to sF k3 has⟩
  | .ins c fs, ⟨k0, k1, C, dx, vs, kc, k2, k3⟩ => exact ⟨k0, nF k1, C, dx, vs, kc, hH _ k2, DFs.to sF k3 has⟩
theorem CellOk.low (k : CellOk Γ F H as ad c) : Lw as c.refs := by
  match c, k with
  | .dead, _ => exact Lw.nil
  | .gd _ _, _ => exact Lw.nil
  | .ts _ _ _, _ => exact Lw.nil
  | .gl _ _ _, _ => exact Lw.nil
  | .lst ds, ⟨k0, k1, vs, k2, k3⟩ => exact k3.low
  | .dct false lk kvs, ⟨k1, vs, k2, k3⟩ => exact k3.low
  | .dct true lk kvs, ⟨k1, vs, k2, k3⟩ => exact k3.low
  | .ins c fs, ⟨k0, k1, C, dx, vs, kc, k2, k3⟩ => exact k3.low
end

/-! ### worlds -/
abbrev ads (as : List Ad) : List Addr := as.map Ad.a
structure Wd (Γ : Gam) (F H : Hp) (as : List Ad) (μ : Mu) : Prop where
  sub : Same F H
  nd : (ads as).Nodup
  len : as.length = μ.length
  ok : ∀ (j : Nat) (ad : Ad) (c : Cell), as[j]? = some ad → μ[j]? = some c → CellOk Γ F H as ad c
  seen : ∀ ad ∈ as, H ad.a ≠ none
structure Go (F H : Hp) (as : List Ad) (F' H' : Hp) (as' : List Ad) : Prop where
  keep : ∀ a o, H a = some o → a ∉ ads as → H' a = some o
  dom : ∀ a, H' a = none → H a = none
  sub : Same F F'
  new : ∀ a, F a = none → F' a ≠ none → H a = none ∨ a ∈ ads as ∨ ∃ xs, H a = some (.tup xs)
  pre : ∃ more, as' = as ++ more ∧ ∀ ad ∈ more, H ad.a = none
theorem Go.refl (F H : Hp) (as : List Ad) : Go F H as F H as :=
  ⟨fun _ _ h _ => h, fun _ h => h, Same.refl F, fun a h h' => absurd h h', [], (List.append_nil as).symm, fun _ h => nomatch h⟩
theorem ads_app (a b : List Ad) : ads (a ++ b) = ads a ++ ads b := List.map_append
theorem Go.trans {F H F1 H1 F2 H2 : Hp} {as as1 as2 : List Ad} (g : Go F H as F1 H1 as1) (g' : Go F1 H1 as1 F2 H2 as2) : Go F H as F2 H2 as2 := by
  obtain ⟨m1, e1, n1⟩ := g.pre
  obtain ⟨m2, e2, n2⟩ := g'.pre
  have n1' : ∀ a ∈ ads m1, H a = none := fun a ha => by
    obtain ⟨ad, h1, rfl⟩ := List.mem_map.mp ha
    exact n1 ad h1
  refine ⟨fun a o h na => g'.keep a o (g.keep a o h na) ?_, fun a h => g.dom a (g'.dom a h), g.sub.trans g'.sub, fun a h h' => ?_, m1 ++ m2, by rw [e2, e1, List.append_assoc], fun a ha => ?_⟩
  · rw [e1, ads_app]
    intro z
    rcases List.mem_append.mp z with z | z
    · exact na z
    · rw [n1' a z] at h; cases h
  · by_cases q : F1 a = none
    · rcases g'.new a q h' with z | z | ⟨xs, z⟩
      · exact .inl (g.dom a z)
      · rw [e1, ads_app] at z
        rcases List.mem_append.mp z with z | z
        · exact .inr (.inl z)
        · exact .inl (n1' a z)
      · by_cases hn : H a = none
        · exact .inl hn
        · by_cases ha : a ∈ ads as
          · exact .inr (.inl ha)
          · cases ho : H a with
            | none => exact absurd ho hn
            | some o =>
              have := g.keep a o ho ha
              rw [z] at this
              exact .inr (.inr ⟨xs, this.symm⟩)
    · exact g.new a h q
  · rcases List.mem_append.mp ha with z | z
    · exact n1 a z
    · exact g.dom _ (n2 a z)
theorem Go.at {F H F' H' : Hp} {as as' : List Ad} (g : Go F H as F' H' as') {j : Nat} {ad : Ad} (h : as[j]? = some ad) : as'[j]? = some ad := by
  obtain ⟨m, e, _⟩ := g.pre
  rw [e, List.getElem?_append_left (List.getElem?_eq_some_iff.mp h).1]
  exact h
theorem Go.kp {F H F' H' : Hp} {as as' : List Ad} (g : Go F H as F' H' as') (js : List Nat) : Kp as as' js := fun _ _ _ h => g.at h
section
variable {Γ : Gam} {F H F' H' : Hp} {as as' : List Ad} {μ : Mu}
theorem DV.mono (g : Go F H as F' H' as') {v : V} {d : D} (h : DV Γ F as v d) : DV Γ F' as' v d := DV.to g.sub h (g.kp _)
theorem DVs.mono (g : Go F H as F' H' as') {v : List V} {d : List D} (h : DVs Γ F as v d) : DVs Γ F' as' v d := DVs.to g.sub h (g.kp _)
theorem DKs.mono (g : Go F H as F' H' as') {v : List (Key × V)} {d : List (DK × D)} (h : DKs Γ F as v d) : DKs Γ F' as' v d := DKs.to g.sub h (g.kp _)
theorem DTs.mono (g : Go F H as F' H' as') {v : List (List Key × V)} {d : List (DK × D)} (h : DTs Γ F as v d) : DTs Γ F' as' v d := DTs.to g.sub h (g.kp _)
theorem DFs.mono (g : Go F H as F' H' as') {v : List (Str × V)} {d : List (Str × D)} (h : DFs Γ F as v d) : DFs Γ F' as' v d := DFs.to g.sub h (g.kp _)
def EnvOk (Γ : Gam) (F : Hp) (as : List Ad) (env : En) (σ : L2.St) : Prop :=
  env.length = σ.length ∧ ∀ (i : Nat) (d : D), env[i]? = some (some d) → ∃ v, σ[i]? = some (some v) ∧ DV Γ F as v d
theorem EnvOk.mono (g : Go F H as F' H' as') {env : En} {σ : L2.St} (h : EnvOk Γ F as env σ) : EnvOk Γ F' as' env σ :=
  ⟨h.1, fun i sv e => let ⟨v, h1, h2⟩ := h.2 i sv e; ⟨v, h1, DV.mono g h2⟩⟩
theorem EnvOk.set {env : En} {σ : L2.St} (h : EnvOk Γ F as env σ) {d : D} {v : V} (r : DV Γ F as v d) (i : Nat) : EnvOk Γ F as (env.set i (some d)) (σ.set i (some v)) := by
  refine ⟨by rw [List.length_set, List.length_set, h.1], fun k sv' e => ?_⟩
  rw [List.getElem?_set] at e ⊢
  by_cases hk : i = k
  · subst hk
    rw [if_pos rfl] at e ⊢
    by_cases hl : i < env.length
    · rw [if_pos hl] at e
      rw [if_pos (h.1 ▸ hl)]
      obtain rfl := Option.some.inj (Option.some.inj e)
      exact ⟨v, rfl, r⟩
    · rw [if_neg hl] at e
      exact nomatch e
  · rw [if_neg hk] at e ⊢
    exact h.2 k sv' e
theorem EnvOk.set0 {env : En} {σ : L2.St} (h : EnvOk Γ F as env σ) (i : Nat) : EnvOk Γ F as (env.set i none) (σ.set i none) := by
  refine ⟨by rw [List.length_set, List.length_set, h.1], fun k sv' e => ?_⟩
  rw [List.getElem?_set] at e ⊢
  by_cases hk : i = k
  · subst hk
    rw [if_pos rfl] at e
    split at e <;> exact nomatch e
  · rw [if_neg hk] at e ⊢
    exact h.2 k sv' e
/-- some slots forgotten -/
theorem EnvOk.le {env env' : En} {σ : L2.St} (h : EnvOk Γ F as env σ) (hl : env'.length = env.length) (hs : ∀ (i : Nat) (d : D), env'[i]? = some (some d) → env[i]? = some (some d)) : EnvOk Γ F as env' σ :=
  ⟨hl.trans h.1, fun i sv e => h.2 i sv (hs i sv e)⟩
theorem Wd.nofree (W : Wd Γ F H as μ) {p : Addr} (np : H p = none) : F p = none ∧ p ∉ ads as := by
  refine ⟨?_, fun z => ?_⟩
  · cases q : F p with
    | none => rfl
    | some u => rw [W.sub p u q] at np; cases np
  · obtain ⟨ad, h1, rfl⟩ := List.mem_map.mp z
    exact W.seen ad h1 np
theorem Wd.apartC (W : Wd Γ F H as μ) {p : Addr} (na : p ∉ ads as) {ad : Ad} {j : Nat} (h : as[j]? = some ad) : ad.a ≠ p := fun z => na (by rw [← z]; exact List.mem_map.mpr ⟨ad, List.mem_of_getElem? h, rfl⟩)
/-- an object beside -/
theorem Wd.off (W : Wd Γ F H as μ) {p : Addr} {o : HO} (nF : F p = none) (na : p ∉ ads as) : Wd Γ F (upd H p o) as μ := by
  refine ⟨fun b u e => ?_, W.nd, W.len, fun j ad c ha hc => ?_, fun ad ha => ?_⟩
  · rw [upd_ne (ne_of_none e nF)]; exact W.sub b u e
  · have hap := W.apartC na ha
    exact (W.ok j ad c ha hc).go (Same.refl F) (fun z => z) (fun o z => by rw [upd_ne hap]; exact z) (fun _ _ _ z => z)
  · have hap : ad.a ≠ p := fun z => na (by rw [← z]; exact List.mem_map.mpr ⟨ad, ha, rfl⟩)
    rw [upd_ne hap]
    exact W.seen ad ha
theorem Go.off (g : Go F H as F' H' as') {p : Addr} {o : HO} (np : H p = none) : Go F H as F' (upd H' p o) as' :=
  ⟨fun a u h na => by rw [upd_ne (ne_of_none h np)]; exact g.keep a u h na, fun a h => by
    by_cases ha : a = p
    · rw [ha]; exact np
    · rw [upd_ne ha] at h; exact g.dom a h, g.sub, g.new, g.pre⟩
theorem Go.apart (g : Go F H as F' H' as') {p : Addr} {o : HO} (hp : H p = some o) (nt : ∀ xs, o ≠ .tup xs) (nF : F p = none) (na : p ∉ ads as) : H' p = some o ∧ F' p = none ∧ p ∉ ads as' := by
  refine ⟨g.keep p o hp na, ?_, ?_⟩
  · cases q : F' p with
    | none => rfl
    | some u =>
      rcases g.new p nF (by rw [q]; exact fun z => nomatch z) with z | z | ⟨xs, z⟩
      · rw [hp] at z; cases z
      · exact absurd z na
      · rw [hp] at z
        exact absurd (Option.some.inj z) (nt xs)
  · obtain ⟨more, e, n⟩ := g.pre
    rw [e, ads_app]
    intro z
    rcases List.mem_append.mp z with z | z
    · exact na z
    · obtain ⟨ad, h1, rfl⟩ := List.mem_map.mp z
      rw [n ad h1] at hp; cases hp
def era (H : Hp) (p : Addr) : Hp := fun b => if b = p then none else H b
theorem era_same {H : Hp} {p : Addr} : era H p p = none := if_pos rfl
theorem era_ne {H : Hp} {p b : Addr} (h : b ≠ p) : era H p b = H b := if_neg h
theorem era_upd {H : Hp} {p : Addr} {o : HO} (h : H p = some o) : upd (era H p) p o = H := by
  funext b
  by_cases hb : b = p
  · rw [hb, upd_same, h]
  · rw [upd_ne hb, era_ne hb]
theorem Wd.era (W : Wd Γ F H as μ) {p : Addr} (nF : F p = none) (na : p ∉ ads as) : Wd Γ F (Me.era H p) as μ := by
  refine ⟨fun b u e => ?_, W.nd, W.len, fun j ad c ha hc => ?_, fun ad ha => ?_⟩
  · rw [era_ne (ne_of_none e nF)]; exact W.sub b u e
  · have hap := W.apartC na ha
    exact (W.ok j ad c ha hc).go (Same.refl F) (fun z => z) (fun o z => by rw [era_ne hap]; exact z) (fun _ _ _ z => z)
  · have hap : ad.a ≠ p := fun z => na (by rw [← z]; exact List.mem_map.mpr ⟨ad, ha, rfl⟩)
    rw [era_ne hap]
    exact W.seen ad ha
theorem Go.era (g : Go F H as F' H' as') {p : Addr} (np : H p = none) : Go F H as F' (Me.era H' p) as' :=
  ⟨fun a u h na => by rw [era_ne (ne_of_none h np)]; exact g.keep a u h na, fun a h => by
    by_cases ha : a = p
    · rw [ha]; exact np
    · rw [era_ne ha] at h; exact g.dom a h, g.sub, g.new, g.pre⟩
/-- a new object, tracked as stable -/
theorem Wd.addF (W : Wd Γ F H as μ) {p : Addr} {o : HO} (np : H p = none) :
    Wd Γ (upd F p o) (upd H p o) as μ ∧ Go F H as (upd F p o) (upd H p o) as := by
  obtain ⟨nF, na⟩ := W.nofree np
  have sF : Same F (upd F p o) := fun b u e => by rw [upd_ne (ne_of_none e nF)]; exact e
  refine ⟨⟨fun b u e => ?_, W.nd, W.len, fun j ad c ha hc => ?_, fun ad ha => ?_⟩, ⟨fun a u h _ => ?_, fun a h => ?_, sF, fun a h h' => ?_, [], (List.append_nil as).symm, fun _ h => nomatch h⟩⟩
  · by_cases hb : b = p
    · subst hb; rw [upd_same] at e ⊢; exact e
    · rw [upd_ne hb] at e ⊢; exact W.sub b u e
  · have hap := W.apartC na ha
    exact (W.ok j ad c ha hc).go sF (fun z => by rw [upd_ne hap]; exact z) (fun o z => by rw [upd_ne hap]; exact z) (fun _ _ _ z => z)
  · exact (W.off (o := o) nF na).seen ad ha
  · rw [upd_ne (ne_of_none h np)]; exact h
  · by_cases ha : a = p
    · subst ha; exact np
    · rw [upd_ne ha] at h; exact h
  · by_cases ha : a = p
    · subst ha; exact .inl np
    · rw [upd_ne ha] at h'; exact absurd h h'
/-- a tuple that is there, tracked as stable from now on -/
theorem Wd.adopt (W : Wd Γ F H as μ) {p : Addr} {xs : List V} (hp : H p = some (.tup xs)) :
    ∃ F', F' p = some (.tup xs) ∧ Wd Γ F' H as μ ∧ Go F H as F' H as := by
  cases q : F p with
  | some u =>
    have := W.sub p u q
    rw [hp] at this
    obtain rfl := Option.some.inj this
    exact ⟨F, q, W, Go.refl _ _ _⟩
  | none =>
    have sF : Same F (upd F p (.tup xs)) := fun b u e => by rw [upd_ne (ne_of_none e q)]; exact e
    refine ⟨upd F p (.tup xs), upd_same, ⟨fun b u e => ?_, W.nd, W.len, fun j ad c ha hc => ?_, W.seen⟩, ⟨fun a u h _ => h, fun a h => h, sF, fun a h h' => ?_, [], (List.append_nil as).symm, fun _ h => nomatch h⟩⟩
    · by_cases hb : b = p
      · subst hb; rw [upd_same] at e; rw [← e]; exact hp
      · rw [upd_ne hb] at e; exact W.sub b u e
    · have k := W.ok j ad c ha hc
      have hap : c ≠ .dead → ad.a ≠ p := fun hd z => by
        subst z
        match c, k, hd with
        | .lst ds, ⟨k0, k1, vs, k2, k3⟩, _ => rw [hp] at k2; cases k2
        | .dct false (some q) kvs, ⟨k1, vs, ⟨k2, od, eq⟩, k3⟩, _ => rw [hp, eq] at k2; cases k2
        | .dct false none kvs, ⟨k1, vs, k2, k3⟩, _ => have k2 := Option.some.inj (hp.symm.trans k2); cases k2
        | .dct true (some q) kvs, ⟨k1, vs, ⟨k2, od, eq⟩, k3⟩, _ => rw [hp, eq] at k2; cases k2
        | .dct true none kvs, ⟨k1, vs, k2, k3⟩, _ => have k2 := Option.some.inj (hp.symm.trans k2); cases k2
        | .ins c fs, ⟨k0, k1, C, dx, vs, kc, k2, k3⟩, _ => rw [hp] at k2; cases k2
        | .dead, _, hd => exact hd rfl
        | .gd _ _, ⟨k0, k1, vs, k2, k3⟩, _ => rw [hp] at k2; cases k2
        | .ts _ _ _, ⟨k0, k1, k2⟩, _ => rw [hp] at k2; cases k2
        | .gl _ _ _, ⟨k0, k1, xs, od, e, k2, _⟩, _ => rw [hp, e] at k2; cases k2
      by_cases hd : c = .dead
      · subst hd; trivial
      · exact k.go sF (fun z => by rw [upd_ne (hap hd)]; exact z) (fun o z => z) (fun _ _ _ z => z)
    · by_cases ha : a = p
      · subst ha; exact .inr (.inr ⟨xs, hp⟩)
      · rw [upd_ne ha] at h'; exact absurd h h'
/-- a new thing, tracked as a cell -/
theorem Wd.addO (W : Wd Γ F H as μ) {p : Addr} {o : HO} {c : Cell} (np : H p = none) (hc : F p = none → CellOk Γ F (upd H p o) (as ++ [⟨p, none⟩]) ⟨p, none⟩ c) :
    Wd Γ F (upd H p o) (as ++ [⟨p, none⟩]) (μ ++ [c]) ∧ Go F H as F (upd H p o) (as ++ [⟨p, none⟩]) := by
  obtain ⟨nF, na⟩ := W.nofree np
  have W1 := W.off (o := o) nF na
  refine ⟨⟨W1.sub, ?_, by rw [List.length_append, List.length_append, W.len]; rfl, fun j ad c' ha hc' => ?_, fun ad ha => ?_⟩,
    ⟨fun a u h _ => ?_, fun a h => ?_, Same.refl F, fun a h h' => absurd h h', [⟨p, none⟩], rfl, fun ad h => ?_⟩⟩
  · rw [ads_app, List.nodup_append]
    exact ⟨W.nd, by simp, fun a ha b hb => by
      obtain rfl : b = p := by simpa using hb
      exact fun z => na (z ▸ ha)⟩
  · by_cases hj : j < as.length
    · rw [List.getElem?_append_left hj] at ha
      rw [List.getElem?_append_left (W.len ▸ hj)] at hc'
      exact (W1.ok j ad c' ha hc').go (Same.refl F) (fun z => z) (fun o z => z) (fun i _ b z => by rw [List.getElem?_append_left (List.getElem?_eq_some_iff.mp z).1]; exact z)
    · rw [List.getElem?_append_right (by omega)] at ha
      rw [List.getElem?_append_right (by have := W.len; omega)] at hc'
      have e0 : j - as.length = 0 := by
        have := (List.getElem?_eq_some_iff.mp ha).1
        simp at this
        omega
      have e1 : j - μ.length = 0 := by have := W.len; omega
      rw [e0] at ha
      rw [e1] at hc'
      simp at ha hc'
      subst ha hc'
      exact hc nF
  · rcases List.mem_append.mp ha with z | z
    · exact W1.seen ad z
    · obtain rfl := List.mem_singleton.mp z
      show upd H p o p ≠ none
      rw [upd_same]; exact fun q => nomatch q
  · rw [upd_ne (ne_of_none h np)]; exact h
  · by_cases ha : a = p
    · subst ha; exact np
    · rw [upd_ne ha] at h; exact h
  · obtain rfl := List.mem_singleton.mp h
    exact np
theorem nodup_inj {α : Type} : ∀ {l : List α} {i j : Nat} {x : α}, l.Nodup → l[i]? = some x → l[j]? = some x → i = j
  | [], i, j, x, _, h, _ => by simp at h
  | a :: l, 0, 0, x, _, _, _ => rfl
  | a :: l, 0, j + 1, x, n, h, h' => by
    simp at h h'
    subst h
    exact absurd (List.mem_of_getElem? h') (List.nodup_cons.mp n).1
  | a :: l, i + 1, 0, x, n, h, h' => by
    simp at h h'
    subst h'
    exact absurd (List.mem_of_getElem? h) (List.nodup_cons.mp n).1
  | a :: l, i + 1, j + 1, x, n, h, h' => by
    simp at h h'
    rw [nodup_inj (List.nodup_cons.mp n).2 h h']
theorem Wd.inj (W : Wd Γ F H as μ) {i j : Nat} {a b : Ad} (hi : as[i]? = some a) (hj : as[j]? = some b) (e : a.a = b.a) : i = j := by
  refine nodup_inj (x := a.a) W.nd ?_ ?_
  · rw [List.getElem?_map, hi]; rfl
  · rw [List.getElem?_map, hj, e]; rfl
/-- a cell is changed -/
theorem Wd.setO (W : Wd Γ F H as μ) {j : Nat} {ad : Ad} {o : HO} {c : Cell} (ha : as[j]? = some ad) (nF : F ad.a = none) (hc : CellOk Γ F (upd H ad.a o) as ad c) :
    Wd Γ F (upd H ad.a o) as (μ.set j c) ∧ Go F H as F (upd H ad.a o) as := by
  have ham : ad.a ∈ ads as := List.mem_map.mpr ⟨ad, List.mem_of_getElem? ha, rfl⟩
  refine ⟨⟨fun b u e => ?_, W.nd, by rw [List.length_set]; exact W.len, fun k b c' hb hk => ?_, fun b hb => ?_⟩,
    ⟨fun b u h nb => ?_, fun b h => ?_, Same.refl F, fun b h h' => absurd h h', [], (List.append_nil as).symm, fun _ h => nomatch h⟩⟩
  · rw [upd_ne (ne_of_none e nF)]; exact W.sub b u e
  · by_cases hkj : j = k
    · subst hkj
      rw [ha] at hb
      obtain rfl := Option.some.inj hb
      rw [List.getElem?_set, if_pos rfl] at hk
      split at hk
      · obtain rfl := Option.some.inj hk
        exact hc
      · exact nomatch hk
    · rw [List.getElem?_set, if_neg hkj] at hk
      have hba : b.a ≠ ad.a := fun z => hkj (W.inj ha hb z.symm)
      exact (W.ok k b c' hb hk).go (Same.refl F) (fun z => z) (fun o z => by rw [upd_ne hba]; exact z) (fun _ _ _ z => z)
  · by_cases hb' : b.a = ad.a
    · rw [hb', upd_same]; exact fun q => nomatch q
    · rw [upd_ne hb']; exact W.seen b hb
  · rw [upd_ne (fun (z : b = ad.a) => nb (by rw [z]; exact ham))]; exact h
  · by_cases hb' : b = ad.a
    · subst hb'; rw [upd_same] at h; exact nomatch h
    · rw [upd_ne hb'] at h; exact h
theorem Wd.low (W : Wd Γ F H as μ) {j : Nat} {c : Cell} (h : μ[j]? = some c) : ∀ i ∈ c.refs, i < μ.length := by
  have hj : j < as.length := by rw [W.len]; exact (List.getElem?_eq_some_iff.mp h).1
  rw [← W.len]
  exact (W.ok j _ c (List.getElem?_eq_getElem hj) h).low
theorem Wd.adAt (W : Wd Γ F H as μ) {j : Nat} {c : Cell} (h : μ[j]? = some c) : ∃ ad, as[j]? = some ad ∧ CellOk Γ F H as ad c := by
  have hj : j < as.length := by rw [W.len]; exact (List.getElem?_eq_some_iff.mp h).1
  exact ⟨_, List.getElem?_eq_getElem hj, W.ok j _ c (List.getElem?_eq_getElem hj) h⟩
theorem Wd.last (W : Wd Γ F H as μ) (x : Ad) : (as ++ [x])[μ.length]? = some x := by
  rw [List.getElem?_append_right (by rw [W.len]; exact Nat.le_refl _), W.len, Nat.sub_self]
  rfl
end
end Me

/-! GL: contracts of defs that are called where no repr is under way (guards = some []): FnG, its calls, repr, the law's end. -/
namespace Gd
open PySem PySem.Spec PyProof.Rows L2

/-- a def's promise, wherever no guard stands around -/
structure FnG (P : Program) (w : World) (K : PySem.W.Frag) (mg : Str → Option Value) (base : Heap) (CX : CXT)
    (k : Nat) (f : Addr) (fd : FuncData) (ps : List Str) (sp : Sp) : Prop where
  lenG : ∀ vs H Q E, sp vs H Q E → vs.length = ps.length
  runG : ∀ (A : Around) (outer : List Env) (s : Shared) (H : Hp) (args : Args) (us : List Value) (vs : List V) (Q : VK) (E : XK),
    A.guards = some [] → Room k A → Env0 P w K mg base A outer s H → BindsTo s fd args (ps.zip us) → Vals vs us → sp vs H Q E →
    codeAny (model P w) A (.call (.ref f) args) (CR CX outer P w H s Q E) s

section
variable {w : World} {P : Program} {base : Heap} {mg : Str → Option Value} {K : PySem.W.Frag} {CX : CXT} {k : Nat} {f : Addr}
  {fd : FuncData} {ps : List Str} {sp : Sp}
theorem FnG.of (F : FnOk P w K mg base CX k f fd ps sp) : FnG P w K mg base CX k f fd ps sp :=
  ⟨F.len, fun A o s H a us vs Q E _ => F.run A o s H a us vs Q E⟩
theorem FnG.mono {j : Nat} (F : FnG P w K mg base CX j f fd ps sp) (h : j ≤ k) : FnG P w K mg base CX k f fd ps sp :=
  ⟨F.lenG, fun A o s H a us vs Q E g hr => F.runG A o s H a us vs Q E g (hr.mono h)⟩

/-- from a def's body to its promise -/
theorem fn_ofG {name qual : Str} {params : Arguments} {body : List Stmt} {scope : Scope} {dV kV doc pm cdv ct oc : Value}
    {an od : Option Addr} {osl : Array (Option Value)} {N : List Str}
    (lk : K.lookup f = some ⟨oc, od, .func (PySem.W.fnOf name qual params body scope dV kV doc pm an cdv ct), osl⟩)
    (hcd : PySem.W.codeIn K cdv qual = true) (S : FnScope N ps scope) (ln : ∀ vs H Q E, sp vs H Q E → vs.length = ps.length)
    (hb0 : ∀ (A : Around) (outer : List Env) (s : Shared) (H : Hp) (vs : List V) (Q : VK) (E : XK), A.guards = some [] →
      Room k (A.deeper (envOfC qual scope s.heap.objs.size f cdv)) → sp vs H Q E →
      ∃ t, PSs (cxOf CX P w K mg base N qual scope f cdv A outer s H E) body t ∧
        t { nx := fun _ H' => Q .non H', rt := Q } (start N vs) H) :
    FnG P w K mg base CX (k + 1) f (PySem.W.fnOf name qual params body scope dV kV doc pm an cdv ct) ps sp := by
  refine ⟨ln, fun A outer s H args us vs Q E gA room e0 bind rel hsp => ?_⟩
  have hlen := ln _ _ _ _ hsp
  have kin : K.In s.heap := e0.mod.kin.keeps fun b o e => (e0.bs b o e).1
  have nolim : s.heap.NoLimit := e0.mod.nolimit.keeps fun b o e => (e0.bs b o e).1
  have kinds : ∀ y ∈ ps.zip us, scope.names.lookup y.1 = some .local ∨
      (scope.names.lookup y.1 = some .cell ∧ ((cellsFrom (s.heap.objs.size + 1) scope.names []).lookup y.1).isSome = true) := by
    rintro ⟨n, v⟩ hy
    rcases S.par n (List.of_mem_zip hy).1 with q | q
    · left; exact q
    · right; exact ⟨q, PySem.W.cellsFrom_some _ _ _ (.inl q)⟩
  refine codeAny_call_function room.depth (kin _ _ lk) rfl S.co S.gen rfl (PySem.W.codeRec_of kin hcd) (bind _ _ _ _ ?_)
  refine wpAny_newFunctionEnv_cells S.kind kinds fun env he s1 x1 => ?_
  subst he
  refine ⟨nolim.keeps x1.toInCall.keep, codeAny_func ?_⟩
  obtain ⟨t, ht, hq⟩ := hb0 A outer s H vs Q E gA (room.deeper _) hsp
  have I : Inv (cxOf CX P w K mg base N qual scope f cdv A outer s H E) [] (start N vs) H s1 :=
    inv_start S room.hd e0 hlen rel x1
  refine wpAny_mono (ht.run [] s1 (start N vs) H _ I hq) (fun fl s' hs => ?_) fun e s' hs => hs
  have done : ∀ {σ' : L2.St} {H' : Hp} {v : V} {u : Value},
      Inv (cxOf CX P w K mg base N qual scope f cdv A outer s H E) [] σ' H' s' → RelV v u → Q v H' → CE outer P w H s Q u s' :=
    fun {σ' H' v u} J rv q => ⟨v, H', J.os, J.bare, J.base, J.hok, rv, q⟩
  cases fl with
  | ret u => exact let ⟨v, σ', H', J, rv, q⟩ := hs; done J rv q
  | next => exact let ⟨σ', H', J, q⟩ := hs; done (v := V.non) (u := Value.none) J rfl q
  | brk => exact let ⟨_, _, _, q⟩ := hs; False.elim q
  | cont => exact let ⟨_, _, _, q⟩ := hs; False.elim q
end

section
variable {w : World} {P : Program} {base : Heap} {mg : Str → Option Value} {K : PySem.W.Frag}
end

section
variable {X : Cx} {CX : CXT} {k : Nat} {f : Addr} {fd : FuncData} {ps : List Str} {sp : Sp} {dvs : List V} {ds : List Value} {E : XK}
  {x : Str} {p pos : Pos} {e : Expr} {es : List Expr} {t : TA}
/-- repr(x), x data -/
def rRepr (K : PySem.W.Frag) : List V → Hp → VK → Prop := fun xs H Q =>
  ∃ x d, xs = [x] ∧ Dp K H x d ∧ d.showable = true ∧ d.hasDict = false ∧ d.depth ≤ 64 ∧ d.shown.length ≤ sizeLine ∧ Q (.str d.shown) H
theorem cr_repr (gX : X.A.guards = some []) (hu : X.A.units + 66 < cLine) : CallR X (.builtin "repr") (rRepr X.K) := by
  intro pins s σ H xs us Q I r h
  obtain ⟨x, d, rfl, hd, hs, hn, hp, hz, q⟩ := h
  obtain ⟨u, rfl, ru⟩ := vals1 r
  cases hd with
  | non => cases ru; exact PySem.P.repr_of_none ⟨.str _, H, I.tok _, ⟨_, rfl⟩, q⟩
  | bl b => cases ru; exact PySem.P.repr_of_bool ⟨.str _, H, I.tok _, ⟨_, rfl⟩, q⟩
  | int i =>
    obtain ⟨t, rfl⟩ := ru
    exact PySem.P.repr_of_int (of_decide_eq_true hs) ⟨.str _, H, I.tok _, ⟨_, rfl⟩, q⟩
  | str x =>
    obtain ⟨t, rfl⟩ := ru
    exact PySem.P.repr_of_str ⟨.str _, H, I.tok _, ⟨_, rfl⟩, q⟩ hz
  | lst a b =>
    obtain ⟨as, rd⟩ := Dp.reads I _ _ _ (Dp.lst a b) ru
    cases ru
    refine repr_of_reads' rd hs (fun e => by rw [hn] at e; cases e) gX (by omega) (fun _ _ e => e) (fun h' u tk kept => ?_) hz
    exact ⟨.str _, H, I.kept (t' := tk) kept, ⟨_, rfl⟩, q⟩
  | tup a b =>
    obtain ⟨as, rd⟩ := Dp.reads I _ _ _ (Dp.tup a b) ru
    cases ru
    refine repr_of_reads' rd hs (fun e => by rw [hn] at e; cases e) gX (by omega) (fun _ _ e => e) (fun h' u tk kept => ?_) hz
    exact ⟨.str _, H, I.kept (t' := tk) kept, ⟨_, rfl⟩, q⟩
end
end Gd

/-! GE: the law's end over FnG. -/
namespace Gd
open PySem PySem.Spec PyProof.Rows L2

section
variable {P : Program} {w : World} {K : PySem.W.Frag} {mg mb : Str → Option Value} {CX : CXT} {k : Nat} {fa a : Addr} {fd : FuncData}
  {x : Str} {sp : Sp} {s1 : Shared} {vs : List Value} {ns : List Int}
/-- the call of the law over an abstract heap that tracks at most the script -/
theorem law_at (H : Hp) (KX : K.In s1.heap) (hns : s1.heap.Ns mainGlobals mg) (hb : s1.heap.Ns builtinsNs mb)
    (hbb : ∀ x : Str, x ≠ "__name__" → mb x = bootBuiltins x) (hlim : s1.heap.NoLimit) (hg : s1.gens = #[])
    (ha : s1.heap.get? a = some { cls := .type "list", data := .seq vs.toArray }) (hr : Room k callerA)
    (F : ∀ base : Heap, K.In base → base.Ns mainGlobals mg → FnG P w K mg base CX k fa fd [x] sp)
    (hbind : ∀ (s : Shared) (u : Value), BindsTo s fd ⟨[u], []⟩ [(x, u)])
    (hCX : ∀ H e s', CX [] H s1 (fun _ _ _ => False) e s' → False)
    (hO : Only H) (hsp : sp [.ref a] H (fun v _ => v = .bl true) fun _ _ _ => False) (hok : HOk P w H s1.heap)
    (only : ∀ b, H b ≠ none → b = a) (offK : H a ≠ none → K.lookup a = none) :
    codeAny (model P w) callerA (.call (.ref fa) ⟨[.ref a], []⟩)
      (fun r s' => r = .ok (.ret (.bool true)) ∧ OldK s1.heap s'.heap ∧ s'.os = s1.os ∧ AllBare s'.gens) s1 := by
  have dictFree : ∀ (b : Addr) (o : Obj) (es : Array DictEntry) (ep : Nat), s1.heap.get? b = some o → o.data = .dict es ep → H b = none := by
    intro b o es ep e dd
    cases q : H b with
    | none => rfl
    | some u =>
      have eb : b = a := only b (by rw [q]; exact fun z => nomatch z)
      rw [eb, ha] at e
      obtain rfl := Option.some.inj e
      exact nomatch dd
  have ns' : ∀ (b : Addr) (m : Str → Option Value), s1.heap.Ns b m → (hidT s1.heap H).Ns b m := by
    rintro b m ⟨o, es, ep, e, dd, rest⟩
    exact ⟨o, es, ep, hidT_get e (dictFree b o es ep e dd), dd, rest⟩
  have kin' : K.In (hidT s1.heap H) := by
    intro b o e
    refine hidT_get (KX b o e) ?_
    cases q : H b with
    | none => rfl
    | some u =>
      have eb : b = a := only b (by rw [q]; exact fun z => nomatch z)
      subst eb
      rw [offK (by rw [q]; exact fun z => nomatch z)] at e
      exact nomatch e
  have modl : Mod K mg (hidT s1.heap H) := by
    obtain ⟨mc, l1, l2⟩ := hlim
    exact ⟨kin', ns' _ _ hns, ⟨mb, ns' _ _ hb, hbb⟩, ⟨mc, ns' _ _ l1, l2⟩⟩
  have nofr : ∀ b, b ∉ frs ([] : List Env) := fun b z => List.not_mem_nil z
  have env0 : Env0 P w K mg (hidT s1.heap H) callerA [] s1 H :=
    ⟨rfl, modl, fun b o e => of_hidT e, Nat.le_of_eq (hidT_size _ _), trivial, fun b z => absurd z (nofr b), hok, .of_eq hg⟩
  have run := (F _ kin' (ns' _ _ hns)).runG callerA [] s1 H ⟨[.ref a], []⟩ [.ref a] [.ref a] _ _ rfl hr env0 (hbind s1 (.ref a)) (.cons rfl .nil) hsp
  refine codeAny_mono run fun r s' h => ?_
  match r, h with
  | .error e, h => exact (hCX H e s' h).elim
  | .ok .next, h => exact False.elim h
  | .ok .brk, h => exact False.elim h
  | .ok .cont, h => exact False.elim h
  | .ok (.ret u), h =>
    obtain ⟨v, H', os, bare, un, hok', rv, q⟩ := h
    obtain rfl : v = .bl true := q
    obtain rfl : u = Value.bool true := rv
    refine ⟨rfl, OldK.of_keep fun b o e => ?_, os, bare⟩
    rcases hO b with z | ⟨ob, xs, z⟩
    · exact un.keep b o e z (nofr b) (fun m => List.not_mem_nil m)
    · have g1 := (hok b _ z).1
      have g2 := (hok' b _ (un.frzs b ob _ z)).1
      rw [e] at g1
      rw [Option.some.inj g1]
      exact g2
/-- the script as the abstract heap bears it -/
theorem law_callG (KX : K.In s1.heap) (hns : s1.heap.Ns mainGlobals mg) (hb : s1.heap.Ns builtinsNs mb)
    (hbb : ∀ x : Str, x ≠ "__name__" → mb x = bootBuiltins x) (hlim : s1.heap.NoLimit) (hg : s1.gens = #[])
    (ha : s1.heap.get? a = some { cls := .type "list", data := .seq vs.toArray }) (hi : IntsAre vs ns) (hl : ns.length ≤ sizeLine) (hr : Room k callerA)
    (F : ∀ base : Heap, K.In base → base.Ns mainGlobals mg → FnG P w K mg base CX k fa fd [x] sp)
    (hbind : ∀ (s : Shared) (u : Value), BindsTo s fd ⟨[u], []⟩ [(x, u)])
    (hsp : ∀ H : Hp, Only H → SqL K H a (ns.map V.int) → sp [.ref a] H (fun v _ => v = .bl true) fun _ _ _ => False)
    (hCX : ∀ H e s', CX [] H s1 (fun _ _ _ => False) e s' → False) :
    codeAny (model P w) callerA (.call (.ref fa) ⟨[.ref a], []⟩)
      (fun r s' => r = .ok (.ret (.bool true)) ∧ OldK s1.heap s'.heap ∧ s'.os = s1.os ∧ AllBare s'.gens) s1 := by
  have rv : Vals (ns.map V.int) vs := vals_ints hi
  cases hk : K.lookup a with
  | some o =>
    have e := KX a o hk
    rw [ha] at e
    obtain rfl := Option.some.inj e
    have hO : Only (fun _ => none) := fun _ => .inl rfl
    have hS : SqL K (fun _ => none) a (ns.map V.int) :=
      .inr ⟨_, vs.toArray, _, hk, rfl, rfl, rfl, by rw [List.size_toArray, hi.length]; exact hl, by simpa using rv⟩
    exact law_at (fun _ => none) KX hns hb hbb hlim hg ha hr F hbind hCX hO (hsp _ hO hS) (fun b u z => nomatch z)
      (fun b z => absurd rfl z) (fun z => absurd rfl z)
  | none =>
    let T : HO := .frz { cls := .type "list", data := .seq vs.toArray } (.lst (ns.map V.int))
    let H : Hp := fun b => if b = a then some T else none
    have at_ : ∀ b, b = a → H b = some T := fun b e => if_pos e
    have off : ∀ b, ¬ b = a → H b = none := fun b e => if_neg e
    have hO : Only H := fun b => by
      by_cases e : b = a
      · exact .inr ⟨_, _, at_ b e⟩
      · exact .inl (off b e)
    have hok : HOk P w H s1.heap := fun b u z => by
      by_cases e : b = a
      · rw [at_ b e] at z
        obtain rfl := Option.some.inj z
        subst e
        exact ⟨ha, by rw [List.length_map]; exact hl, vs, _, rv, ha⟩
      · rw [off b e] at z
        exact nomatch z
    refine law_at H KX hns hb hbb hlim hg ha hr F hbind hCX hO (hsp H hO (.inl (.inr ⟨_, at_ a rfl⟩))) hok (fun b z => ?_) fun _ => hk
    by_cases e : b = a
    · exact e
    · exact absurd (off b e) z
end
/-- the goal that the head leaves, from the law's promise -/
theorem walk_ofG {l : PySem.W.OpenLaw} {n k : Nat} {q : Program} {loose : List Str} {XP : (Str → Option Value) → Heap → Prop}
    {YP : World → Heap → Prop} {d : DefRec} {K : Params → PySem.W.Frag} {CX : World → CXT} {sp : World → Sp} {x : Str}
    (hn : l.most = some n) (hn2 : n ≤ sizeLine) (hdf : d.params.defaults = []) (hr : Room k callerA)
    (hY : ∀ (w : World) (h : Heap), YP w h → (K w.params).In h)
    (F : ∀ (w : World) (mg : Str → Option Value) (fa : Addr) (h : Heap), (K w.params).In h → h.Ns mainGlobals mg → mg d.name = some (.ref fa) →
      ∃ fd : FuncData, (∀ (s : Shared) (u : Value), BindsTo s fd ⟨[u], []⟩ [(x, u)]) ∧
        ∀ base : Heap, (K w.params).In base → base.Ns mainGlobals mg → FnG l.prog w (K w.params) mg base (CX w) k fa fd [x] (sp w))
    (hsp : ∀ (w : World) (H : Hp) (a : Addr) (ns : List Int), ns.length ≤ n → Only H → SqL (K w.params) H a (ns.map V.int) →
      sp w [.ref a] H (fun v _ => v = .bl true) fun _ _ _ => False)
    (hCX : ∀ (w : World) (H : Hp) (s : Shared) (e : Value) (s' : Shared), CX w [] H s (fun _ _ _ => False) e s' → False) :
    PySem.W.WalkO q loose XP YP l.row.toRowW d [] (fun f vs => PySem.call f vs) := by
  refine Att.attach_call hn hdf ?_
  intro w s0 s1 mg mb fa o pm cd doc a vs ns G Y ho hd hcd hmg hobj hints hlen hg
  obtain ⟨fd, hb, hF⟩ := F w mg fa _ (hY w _ Y) G.T.g hmg
  refine law_callG (hY w _ Y) G.T.g G.T.b G.T.builtins G.T.nolimit hg hobj hints (Nat.le_trans hlen hn2) hr hF hb ?_ ?_
  · exact fun H hO hS => hsp w H a ns hlen hO hS
  · exact fun H e s' => hCX w H s1 e s'
end Gd

/-! Me2: the judgements, in continuation form; expressions. -/
namespace Me
open PySem PySem.Spec PyProof.Rows L2

/-- an exception of an own class, with its attributes -/
structure Ex where
  c : String
  fs : List (Str × D)
/-- the weakest wish of a context -/
def Wk (X : Cx) : WX := fun cls d σ H => ∀ u s', XE X (fun c' d' σ' H' => c' = cls ∧ d' = d ∧ σ' = σ ∧ H' = H) u s' → X.xe u s'
theorem takes_wk {X : Cx} : Takes X (Wk X) := fun u s' ⟨a, B, sI, pins, σ, H, cls, d, e, I, nb, up, sky, na, os, ag, w⟩ =>
  w u s' ⟨a, B, sI, pins, σ, H, cls, d, e, I, nb, up, sky, na, os, ag, rfl, rfl, rfl, rfl⟩
theorem Wk.of {X : Cx} {W : WX} (t : Takes X W) {cls : Value} {d : Option Addr} {σ : L2.St} {H : Hp} (w : W cls d σ H) : Wk X cls d σ H := fun u s' x =>
  t.imp (W' := fun c' d' σ' H' => c' = cls ∧ d' = d ∧ σ' = σ ∧ H' = H) (fun c' d' σ' H' ⟨e1, e2, e3, e4⟩ => by subst e1 e2 e3 e4; exact w) u s' x
/-- the exception's class and own dict -/
def XOk (Γ : Gam) (F H : Hp) (as : List Ad) (cls : Value) (d : Option Addr) (x : Ex) : Prop :=
  ∃ C, Γ.cls x.c = some C ∧ cls = .ref C ∧ (x.fs = [] ∨ ∃ dx vs, d = some dx ∧ F dx = some (.xd vs) ∧ DFs Γ F as vs x.fs)

/-- the built-in names that the module leaves alone -/
structure Bi (mg : Str → Option Value) : Prop where
  len : mg "len" = none
  int : mg "int" = none
  abs : mg "abs" = none
  tuple : mg "tuple" = none
  list : mg "list" = none
  repr : mg "repr" = none
  range : mg "range" = none
  sorted : mg "sorted" = none
  sum : mg "sum" = none
  all : mg "all" = none
  any : mg "any" = none
  min : mg "min" = none
  max : mg "max" = none
  set : mg "set" = none
  dict : mg "dict" = none
  zip : mg "zip" = none
  enumerate : mg "enumerate" = none
  reversed : mg "reversed" = none
  str : mg "str" = none
  type' : mg "type" = none
  isinstance : mg "isinstance" = none
  bool : mg "bool" = none
/-- where one stands: the names of classes, the context, what is wished of exceptions -/
structure Sc where
  Γ : Gam
  X : Cx
  Z : Ex → En → Mu → Prop
  hK : Γ.K = X.K
  hg : X.A.guards = some []
  hN : X.N.Nodup
  hp : PassesOwn (model X.prog X.w) X.A X.env X.xe
  hb : Bi X.mg
  k : Nat
  rm : L2H.RoomH k X.A
theorem Sc.hu (S : Sc) : S.X.A.units + 70 < cLine := by have := S.rm.un; omega
def Ko (S : Sc) (F H : Hp) (as : List Ad) : Prop := ∀ x env μ σ cls dx F' H' as', S.Z x env μ → Go F H as F' H' as' → EnvOk S.Γ F' as' env σ → Wd S.Γ F' H' as' μ → XOk S.Γ F' H' as' cls dx x → Wk S.X cls dx σ H'
theorem Ko.go {S : Sc} {F H F1 H1 : Hp} {as as1 : List Ad} (k : Ko S F H as) (g : Go F H as F1 H1 as1) : Ko S F1 H1 as1 :=
  fun x env μ σ cls dx F' H' as' z g' => k x env μ σ cls dx F' H' as' z (g.trans g')
structure At (S : Sc) (env : En) (μ : Mu) (σ : L2.St) (H F : Hp) (as : List Ad) : Prop where
  e : EnvOk S.Γ F as env σ
  w : Wd S.Γ F H as μ
  k : Ko S F H as
theorem At.go {S : Sc} {env : En} {μ μ' : Mu} {σ : L2.St} {H F H' F' : Hp} {as as' : List Ad} (a : At S env μ σ H F as) (g : Go F H as F' H' as') (w : Wd S.Γ F' H' as' μ') : At S env μ' σ H' F' as' :=
  ⟨a.e.mono g, w, a.k.go g⟩
abbrev KD := D → Mu → Prop
/-- what follows a value -/
def Kv (S : Sc) (F H : Hp) (as : List Ad) (P : KD) (Q : VK) : Prop := ∀ d μ' v F' H' as', P d μ' → Go F H as F' H' as' → Wd S.Γ F' H' as' μ' → DV S.Γ F' as' v d → Q v H'
theorem Kv.go {S : Sc} {F H F1 H1 : Hp} {as as1 : List Ad} {P : KD} {Q : VK} (k : Kv S F H as P Q) (g : Go F H as F1 H1 as1) : Kv S F1 H1 as1 P Q :=
  fun d μ' v F' H' as' p g' => k d μ' v F' H' as' p (g.trans g')
def rdE (S : Sc) (env : En) (μ : Mu) (P : KD) : TE := fun σ H Q => ∃ F as, At S env μ σ H F as ∧ Kv S F H as P Q
def E (S : Sc) (e : Expr) (env : En) (μ : Mu) (P : KD) : Prop := PE S.X e (rdE S env μ P)
def rdA (S : Sc) (env : En) (μ : Mu) (P : List D → Mu → Prop) : TA := fun σ H Q => ∃ F as, At S env μ σ H F as ∧
  ∀ ds μ' vs F' H' as', P ds μ' → Go F H as F' H' as' → Wd S.Γ F' H' as' μ' → DVs S.Γ F' as' vs ds → Q vs H'
def A (S : Sc) (es : List Expr) (env : En) (μ : Mu) (P : List D → Mu → Prop) : Prop := PA S.X es (rdA S env μ P)
def rdT (S : Sc) (env : En) (μ : Mu) (P : Bool → Mu → Prop) : TT := fun σ H Q => ∃ F as, At S env μ σ H F as ∧
  ∀ b μ' F' H' as', P b μ' → Go F H as F' H' as' → Wd S.Γ F' H' as' μ' → Q b H'
def T (S : Sc) (e : Expr) (env : En) (μ : Mu) (P : Bool → Mu → Prop) : Prop := PT S.X e (rdT S env μ P)
def W (S : Sc) (e : Expr) (env : En) (μ : Mu) (P : Bool → Mu → Prop) : Prop := PW S.X e (rdT S env μ P)

theorem PE.imp {X : Cx} {e : Expr} {t t' : TE} (h : PE X e t) (i : ∀ σ H Q, t' σ H Q → t σ H Q) : PE X e t' := ⟨fun pins s σ H Q I q => h.run pins s σ H Q I (i σ H Q q)⟩
theorem PT.imp {X : Cx} {e : Expr} {t t' : TT} (h : PT X e t) (i : ∀ σ H Q, t' σ H Q → t σ H Q) : PT X e t' := ⟨fun pins s σ H Q I q => h.run pins s σ H Q I (i σ H Q q)⟩
theorem PW.imp {X : Cx} {e : Expr} {t t' : TT} (h : PW X e t) (i : ∀ σ H Q, t' σ H Q → t σ H Q) : PW X e t' := ⟨fun wh pins s σ H Q I q => h.run wh pins s σ H Q I (i σ H Q q)⟩
theorem PA.imp {X : Cx} {es : List Expr} {t t' : TA} (h : PA X es t) (i : ∀ σ H Q, t' σ H Q → t σ H Q) : PA X es t' := ⟨fun pos pins s σ H Q I q => h.run pos pins s σ H Q I (i σ H Q q)⟩
theorem PS.imp {X : Cx} {st : Stmt} {t t' : TS} (h : PS X st t) (i : ∀ D σ H, t' D σ H → t D σ H) : PS X st t' := ⟨fun pins s σ H D I q => h.run pins s σ H D I (i D σ H q)⟩
theorem PSs.imp {X : Cx} {st : List Stmt} {t t' : TS} (h : PSs X st t) (i : ∀ D σ H, t' D σ H → t D σ H) : PSs X st t' := ⟨fun pins s σ H D I q => h.run pins s σ H D I (i D σ H q)⟩
theorem PO.imp {X : Cx} {t t' : TO} {o : Option Expr} (h : PO X o t) (i : ∀ σ H Q, t' σ H Q → t σ H Q) : PO X o t' := ⟨fun pins s σ H Q I q => h.run pins s σ H Q I (i σ H Q q)⟩
theorem PI.imp {X : Cx} {tg iter : Expr} {wi wi' : TI} (h : PI X tg iter wi) (i : ∀ σ H R, wi' σ H R → wi σ H R) : PI X tg iter wi' := ⟨fun pins s σ H R I q => h.run pins s σ H R I (i σ H R q)⟩
/-! any reading -/
def yE (X : Cx) (e : Expr) : TE := fun σ H Q => ∃ t, PE X e t ∧ t σ H Q
def yA (X : Cx) (e : List Expr) : TA := fun σ H Q => ∃ t, PA X e t ∧ t σ H Q
def yT (X : Cx) (e : Expr) : TT := fun σ H Q => ∃ t, PT X e t ∧ t σ H Q
def yW (X : Cx) (e : Expr) : TT := fun σ H Q => ∃ t, PW X e t ∧ t σ H Q
def yO (X : Cx) (e : Option Expr) : TO := fun σ H Q => ∃ t, PO X e t ∧ t σ H Q
def yS (X : Cx) (st : List Stmt) : TS := fun D σ H => ∃ t, PSs X st t ∧ t D σ H
theorem pe_y {X : Cx} {e : Expr} : PE X e (yE X e) := ⟨fun pins s σ H Q I ⟨t, h, q⟩ => h.run pins s σ H Q I q⟩
theorem pa_y {X : Cx} {e : List Expr} : PA X e (yA X e) := ⟨fun pos pins s σ H Q I ⟨t, h, q⟩ => h.run pos pins s σ H Q I q⟩
theorem pw_y {X : Cx} {e : Expr} : PW X e (yW X e) := ⟨fun wh pins s σ H Q I ⟨t, h, q⟩ => h.run wh pins s σ H Q I q⟩
theorem po_y {X : Cx} {e : Option Expr} : PO X e (yO X e) := ⟨fun pins s σ H Q I ⟨t, h, q⟩ => h.run pins s σ H Q I q⟩
theorem pss_y {X : Cx} {st : List Stmt} : PSs X st (yS X st) := ⟨fun pins s σ H D I ⟨t, h, q⟩ => h.run pins s σ H D I q⟩

section
variable {S : Sc} {env : En} {μ : Mu} {a b c e : Expr} {es : List Expr} {pos p0 : Pos} {x : Str} {P P' : KD} {PB PB' : Bool → Mu → Prop} {PA' PA2 : List D → Mu → Prop}
theorem E.go (h : E S e env μ P) {σ : L2.St} {H F : Hp} {as : List Ad} {Q : VK} (a : At S env μ σ H F as) (k : Kv S F H as P Q) : yE S.X e σ H Q := ⟨_, h, F, as, a, k⟩
theorem A.go (h : A S es env μ PA') {σ : L2.St} {H F : Hp} {as : List Ad} {Q : List V → Hp → Prop} (a : At S env μ σ H F as)
    (k : ∀ ds μ' vs F' H' as', PA' ds μ' → Go F H as F' H' as' → Wd S.Γ F' H' as' μ' → DVs S.Γ F' as' vs ds → Q vs H') : yA S.X es σ H Q := ⟨_, h, F, as, a, k⟩
theorem T.go (h : T S e env μ PB) {σ : L2.St} {H F : Hp} {as : List Ad} {Q : Bool → Hp → Prop} (a : At S env μ σ H F as)
    (k : ∀ b μ' F' H' as', PB b μ' → Go F H as F' H' as' → Wd S.Γ F' H' as' μ' → Q b H') : yT S.X e σ H Q := ⟨_, h, F, as, a, k⟩
theorem W.go (h : W S e env μ PB) {σ : L2.St} {H F : Hp} {as : List Ad} {Q : Bool → Hp → Prop} (a : At S env μ σ H F as)
    (k : ∀ b μ' F' H' as', PB b μ' → Go F H as F' H' as' → Wd S.Γ F' H' as' μ' → Q b H') : yW S.X e σ H Q := ⟨_, h, F, as, a, k⟩
theorem E.imp (h : E S e env μ P) (i : ∀ d m, P d m → P' d m) : E S e env μ P' :=
  PE.imp h fun σ H Q ⟨F, as, a, k⟩ => ⟨F, as, a, fun d m v F' H' as' p => k d m v F' H' as' (i d m p)⟩
theorem T.imp (h : T S e env μ PB) (i : ∀ d m, PB d m → PB' d m) : T S e env μ PB' :=
  PT.imp h fun σ H Q ⟨F, as, a, k⟩ => ⟨F, as, a, fun d m F' H' as' p => k d m F' H' as' (i d m p)⟩
theorem A.imp (h : A S es env μ PA') (i : ∀ d m, PA' d m → PA2 d m) : A S es env μ PA2 :=
  PA.imp h fun σ H Q ⟨F, as, a, k⟩ => ⟨F, as, a, fun d m v F' H' as' p => k d m v F' H' as' (i d m p)⟩
theorem W.t (h : W S e env μ PB) : T S e env μ PB := PW.pt h

theorem e_var (i : Nat) {d : D} (h : env[i]? = some (some d)) (k : P d μ) (hN : S.X.N[i]? = some x := by rfl)
    (hv : Vis S.X.env.scope x := by first | exact Or.inl rfl | exact Or.inr (Or.inl rfl) | exact Or.inr (Or.inr rfl))
    (hd : (x == ("__debug__" : Str)) = false := by decide) (hcd : (x == ("__classdict__" : Str)) = false := by decide) : E S (.Name x pos) env μ P :=
  PE.imp (pe_var hN hv hd hcd) fun σ H Q ⟨F, as, a, kk⟩ => let ⟨v, h1, h2⟩ := a.e.2 i d h; ⟨v, h1, kk d μ v F H as k (Go.refl F H as) a.w h2⟩
theorem e_c {v : V} {d : D} (hp : PE S.X e (tC v)) (hd : ∀ F as, DV S.Γ F as v d) (k : P d μ) : E S e env μ P :=
  PE.imp hp fun σ H Q ⟨F, as, a, kk⟩ => kk d μ v F H as k (Go.refl F H as) a.w (hd F as)
theorem e_int {i : Int} {j : Nat} (k : P (.int i) μ) : E S (.Constant (.int i) j pos) env μ P := e_c pe_int (fun _ _ => .int i) k
theorem e_bl {i : Bool} {j : Nat} (k : P (.bl i) μ) : E S (.Constant (.bool i) j pos) env μ P := e_c pe_bl (fun _ _ => .bl i) k
theorem e_non {j : Nat} (k : P .non μ) : E S (.Constant .none j pos) env μ P := e_c pe_non (fun _ _ => .non) k
theorem e_str {i : Str} {j : Nat} (k : P (.str i) μ) : E S (.Constant (.str i) j pos) env μ P := e_c pe_str (fun _ _ => .str i) k
theorem e_gstr {y : Str} {t : Tok} (hm : S.X.mg x = some (.str y t)) (k : P (.str y) μ) (hg : Gl S.X x := by rfl) (hd : (x == ("__debug__" : Str)) = false := by decide) : E S (.Name x pos) env μ P :=
  e_c (pe_glob (v := .str y) hg hm ⟨t, rfl⟩ hd) (fun _ _ => .str y) k
theorem e_gint {y : Int} {t : Tok} (hm : S.X.mg x = some (.int y t)) (k : P (.int y) μ) (hg : Gl S.X x := by rfl) (hd : (x == ("__debug__" : Str)) = false := by decide) : E S (.Name x pos) env μ P :=
  e_c (pe_glob (v := .int y) hg hm ⟨t, rfl⟩ hd) (fun _ _ => .int y) k

/-! ### two operands -/
/-- an operation on two values -/
def Op2 (S : Sc) (f : Value → Value → Sem Value) (d1 d2 : D) (env : En) (μ : Mu) (P : KD) : Prop :=
  ∀ (pins : List (Addr × Obj)) (s : Shared) (σ : L2.St) (H : Hp) (x y : V) (v u : Value) (Q : VK) (F : Hp) (as : List Ad), Inv S.X pins σ H s → RelV x v → RelV y u →
    At S env μ σ H F as → DV S.Γ F as x d1 → DV S.Γ F as y d2 → Kv S F H as P Q → wpAny (model S.X.prog S.X.w) S.X.A (f v u) (EP S.X pins σ Q) S.X.xe s
theorem Op2.of {f : Value → Value → Sem Value} {r : R2} {d1 d2 : D} (ho : OpR S.X f r) (h : ∀ F H as x y Q, Wd S.Γ F H as μ → DV S.Γ F as x d1 → DV S.Γ F as y d2 → Kv S F H as P Q → r x y H Q) : Op2 S f d1 d2 env μ P :=
  fun pins s σ H x y v u Q F as I rx ry a h1 h2 k => ho pins s σ H x y v u Q I rx ry (h F H as x y Q a.w h1 h2 k)
theorem two_run {f : Value → Value → Sem Value} (h : E S a env μ fun d1 μ1 => E S b env μ1 fun d2 μ2 => Op2 S f d1 d2 env μ2 P) {σ : L2.St} {H : Hp} {Q : VK} (q : rdE S env μ P σ H Q) :
    yE S.X a σ H fun x H1 => yE S.X b σ H1 fun y H2 => ∀ (pins : List (Addr × Obj)) (s : Shared) (v u : Value), Inv S.X pins σ H2 s → RelV x v → RelV y u → wpAny (model S.X.prog S.X.w) S.X.A (f v u) (EP S.X pins σ Q) S.X.xe s := by
  obtain ⟨F, as, a1, k⟩ := q
  refine h.go a1 fun d1 μ1 v1 F1 H1 as1 p1 g1 W1 r1 => p1.go (a1.go g1 W1) fun d2 μ2 v2 F2 H2 as2 p2 g2 W2 r2 => fun pins s v u I rx ry => ?_
  exact p2 pins s σ H2 v1 v2 v u Q F2 as2 I rx ry ((a1.go g1 W1).go g2 W2) (r1.mono g2) r2 ((k.go g1).go g2)
theorem e_bin {op : Operator} (h : E S a env μ fun d1 μ1 => E S b env μ1 fun d2 μ2 => Op2 S (binaryOp op) d1 d2 env μ2 P) : E S (.BinOp a op b pos) env μ P :=
  ⟨fun pins s σ H Q I q => wpAny_BinOp (binT pe_y pe_y I (two_run h q) fun v u s2 x y H2 I2 rx ry q2 => q2 pins s2 v u I2 rx ry)⟩
theorem e_cmp {op : CmpOp} (h : E S a env μ fun d1 μ1 => E S b env μ1 fun d2 μ2 => Op2 S (compareOp op) d1 d2 env μ2 P) (hm : behindInMarks op b = false := by with_unfolding_all rfl) : E S (.Compare a [op] [b] pos) env μ P :=
  ⟨fun pins s σ H Q I q => wpAny_Compare1 (binT pe_y pe_y I (two_run h q) fun v u s2 x y H2 I2 rx ry q2 => q2 pins s2 v u I2 rx ry) hm⟩
/-- a value that is a truth, as a test -/
def asT (PB : Bool → Mu → Prop) : KD := fun d m => ∃ q, d = .bl q ∧ PB q m
theorem t_cmp {op : CmpOp} (h : E S a env μ fun d1 μ1 => E S b env μ1 fun d2 μ2 => Op2 S (compareOp op) d1 d2 env μ2 (asT PB)) (hm : behindInMarks op b = false := by with_unfolding_all rfl) : T S (.Compare a [op] [b] pos) env μ PB := by
  refine ⟨fun pins s σ H Q I q => ?_⟩
  obtain ⟨F, as, a1, k⟩ := q
  have q' : rdE S env μ (asT PB) σ H (fun x H' => ∃ k, x = .bl k ∧ Q k H') := ⟨F, as, a1, fun d m v F' H' as' ⟨z, e1, e2⟩ g W r => by
    subst e1
    cases r
    exact ⟨z, rfl, k z m F' H' as' e2 g W⟩⟩
  refine wpAny_isTrue_Compare1 (binT (Q := fun v s3 => wpAny (model S.X.prog S.X.w) S.X.A (truthy v) (TP S.X pins σ Q) S.X.xe s3) pe_y pe_y I (two_run h q') fun v u s2 x y H2 I2 rx ry q2 => thn (q2 pins s2 v u I2 rx ry) fun c s3 ⟨z, H3, I3, r3, kk, e, q3⟩ => ?_) hm
  subst e
  cases r3
  exact wpAny_truthy_bool ⟨H3, I3, q3⟩
def Ix2 (S : Sc) (d1 d2 : D) (env : En) (μ : Mu) (P : KD) : Prop :=
  ∀ (value slice : Expr) (pins : List (Addr × Obj)) (s : Shared) (σ : L2.St) (H : Hp) (x y : V) (v u : Value) (Q : VK) (F : Hp) (as : List Ad), Inv S.X pins σ H s → RelV x v → RelV y u →
    At S env μ σ H F as → DV S.Γ F as x d1 → DV S.Γ F as y d2 → Kv S F H as P Q → subscripted slice false v u = operate [v, u] (getItem v u) → wpAny (model S.X.prog S.X.w) S.X.A (subscriptTail value slice v u) (EP S.X pins σ Q) S.X.xe s
theorem Ix2.of {r : R2} {d1 d2 : D} (ho : IxR S.X r) (h : ∀ F H as x y Q, Wd S.Γ F H as μ → DV S.Γ F as x d1 → DV S.Γ F as y d2 → Kv S F H as P Q → r x y H Q) : Ix2 S d1 d2 env μ P :=
  fun va sl pins s σ H x y v u Q F as I rx ry a h1 h2 k hs => ho va sl pins s σ H x y v u Q I rx ry (h F H as x y Q a.w h1 h2 k) hs
theorem e_ix (h : E S a env μ fun d1 μ1 => E S b env μ1 fun d2 μ2 => Ix2 S d1 d2 env μ2 P) (hp : PlainIx b := by exact fun _ _ => rfl) : E S (.Subscript a b pos) env μ P := by
  refine ⟨fun pins s σ H Q I ⟨F, as, a1, k⟩ => ?_⟩
  refine Subscript_ (binT (R := fun x y H2 => ∃ F2 as2 d1 d2 μ2, At S env μ2 σ H2 F2 as2 ∧ DV S.Γ F2 as2 x d1 ∧ DV S.Γ F2 as2 y d2 ∧ Kv S F2 H2 as2 P Q ∧ Ix2 S d1 d2 env μ2 P) pe_y pe_y I ?_ fun v u s2 x y H2 I2 rx ry q2 => ?_)
  · exact h.go a1 fun d1 μ1 v1 F1 H1 as1 p1 g1 W1 r1 => p1.go (a1.go g1 W1) fun d2 μ2 v2 F2 H2 as2 p2 g2 W2 r2 => ⟨F2, as2, d1, d2, μ2, (a1.go g1 W1).go g2 W2, r1.mono g2, r2, (k.go g1).go g2, p2⟩
  · obtain ⟨F2, as2, d1, d2, μ2, a2, r1, r2, k2, p2⟩ := q2
    exact p2 _ _ pins s2 σ H2 x y v u Q F2 as2 I2 rx ry a2 r1 r2 k2 (hp _ _)
def Op1 (S : Sc) (f : Value → Sem Value) (d1 : D) (env : En) (μ : Mu) (P : KD) : Prop :=
  ∀ (pins : List (Addr × Obj)) (s : Shared) (σ : L2.St) (H : Hp) (x : V) (v : Value) (Q : VK) (F : Hp) (as : List Ad), Inv S.X pins σ H s → RelV x v →
    At S env μ σ H F as → DV S.Γ F as x d1 → Kv S F H as P Q → wpAny (model S.X.prog S.X.w) S.X.A (f v) (EP S.X pins σ Q) S.X.xe s
theorem Op1.of {f : Value → Sem Value} {r : V → Hp → VK → Prop} {d1 : D} (ho : UnR S.X f r) (h : ∀ F H as x Q, Wd S.Γ F H as μ → DV S.Γ F as x d1 → Kv S F H as P Q → r x H Q) : Op1 S f d1 env μ P :=
  fun pins s σ H x v Q F as I rx a h1 k => ho pins s σ H x v Q I rx (h F H as x Q a.w h1 k)
theorem e_un {op : UnaryOp} (h : E S a env μ fun d1 μ1 => Op1 S (unaryOp op) d1 env μ1 P) : E S (.UnaryOp op a pos) env μ P := by
  refine ⟨fun pins s σ H Q I ⟨F, as, a1, k⟩ => UnaryOp_ (thn (h.run pins s σ H (fun x H1 => ∃ F2 as2 d1 μ2, At S env μ2 σ H1 F2 as2 ∧ DV S.Γ F2 as2 x d1 ∧ Kv S F2 H1 as2 P Q ∧ Op1 S (unaryOp op) d1 env μ2 P) I ⟨F, as, a1, ?_⟩) fun v s1 ⟨x, H1, I1, r1, F2, as2, d1, μ2, a2, rr, k2, p2⟩ => ?_)⟩
  · exact fun d1 μ1 v1 F1 H1 as1 p1 g1 W1 r1 => ⟨F1, as1, d1, μ1, a1.go g1 W1, r1, k.go g1, p1⟩
  · exact p2 pins s1 σ H1 x v Q F2 as2 I1 r1 a2 rr k2

/-! ### arguments, calls of built-ins -/
theorem a_nil (k : PA' [] μ) : A S [] env μ PA' := PA.imp pa_nil fun σ H Q ⟨F, as, a, kk⟩ => kk [] μ [] F H as k (Go.refl F H as) a.w .nil
theorem a_cons (h : E S e env μ fun d μ1 => A S es env μ1 fun ds μ2 => PA' (d :: ds) μ2) (hs : starEach (e :: es) S.X.env = (false, eval e S.X.env) :: starEach es S.X.env := by rfl) : A S (e :: es) env μ PA' := by
  refine PA.imp (pa_cons pe_y pa_y hs) fun σ H Q ⟨F, as, a, k⟩ => ?_
  refine h.go a fun d μ1 v F1 H1 as1 p1 g1 W1 r1 => p1.go (a.go g1 W1) fun ds μ2 vs F2 H2 as2 p2 g2 W2 r2 => ?_
  exact k _ μ2 _ F2 H2 as2 p2 (g1.trans g2) W2 (.cons (r1.mono g2) r2)
/-- a call of a value with values -/
def Cl (S : Sc) (f : Value) (ds : List D) (env : En) (μ : Mu) (P : KD) : Prop :=
  ∀ (pins : List (Addr × Obj)) (s : Shared) (σ : L2.St) (H : Hp) (xs : List V) (us : List Value) (Q : VK) (F : Hp) (as : List Ad), Inv S.X pins σ H s → Vals xs us →
    At S env μ σ H F as → DVs S.Γ F as xs ds → Kv S F H as P Q → wpAny (model S.X.prog S.X.w) S.X.A (call f us) (EP S.X pins σ Q) S.X.xe s
theorem Cl.of {f : Value} {r : List V → Hp → VK → Prop} {ds : List D} (ho : CallR S.X f r) (h : ∀ F H as xs Q, Wd S.Γ F H as μ → DVs S.Γ F as xs ds → Kv S F H as P Q → r xs H Q) : Cl S f ds env μ P :=
  fun pins s σ H xs us Q F as I rx a h1 k => ho pins s σ H xs us Q I rx (h F H as xs Q a.w h1 k)
theorem arg_run {f : Value} (h : A S es env μ fun ds μ1 => Cl S f ds env μ1 P) {σ : L2.St} {H : Hp} {Q : VK} (q : rdE S env μ P σ H Q) :
    yA S.X es σ H fun xs H1 => ∀ (pins : List (Addr × Obj)) (s : Shared) (us : List Value), Inv S.X pins σ H1 s → Vals xs us → wpAny (model S.X.prog S.X.w) S.X.A (call f us) (EP S.X pins σ Q) S.X.xe s := by
  obtain ⟨F, as, a1, k⟩ := q
  exact h.go a1 fun ds μ1 vs F1 H1 as1 p1 g1 W1 r1 => fun pins s us I rx => p1 pins s σ H1 vs us Q F1 as1 I rx (a1.go g1 W1) r1 (k.go g1)
theorem e_callB {id : String} (hm : S.X.mg x = none) (hv : bootBuiltins x = some (.builtin id)) (h : A S (e :: es) env μ fun ds μ1 => Cl S (.builtin id) ds env μ1 P)
    (hg : Gl S.X x := by rfl) (hn : x ≠ "__name__" := by decide) (hdb : (x == ("__debug__" : Str)) = false := by decide)
    (he : starEach (e :: es) S.X.env = (false, eval e S.X.env) :: starEach es S.X.env := by rfl) (hpl : (backTo pos (starEach es S.X.env)).any (·.1) = false := by rfl) : E S (.Call (.Name x p0) (e :: es) [] pos) env μ P :=
  ⟨fun pins s σ H Q I q => wpAny_Call_Name_kw (ld_blt I hg hm hv (PyProof.Rows.callWith_builtin1 (thn (pa_y.run pos pins s σ H _ I (arg_run h q)) fun us s1 ⟨vs, H1, I1, r1, q1⟩ => q1 pins s1 us I1 r1) he hpl) hn hdb)⟩

theorem e_callTy {Ty : String} (hm : S.X.mg x = none) (hv : bootBuiltins x = some (.type Ty)) (h : A S (e :: es) env μ fun ds μ1 => Cl S (.type Ty) ds env μ1 P)
    (hg : Gl S.X x := by rfl) (hn : x ≠ "__name__" := by decide) (hdb : (x == ("__debug__" : Str)) = false := by decide)
    (he : starEach (e :: es) S.X.env = (false, eval e S.X.env) :: starEach es S.X.env := by rfl) (hpl : (backTo pos (starEach es S.X.env)).any (·.1) = false := by rfl) : E S (.Call (.Name x p0) (e :: es) [] pos) env μ P :=
  ⟨fun pins s σ H Q I q => wpAny_Call_Name_kw (ld_blt I hg hm hv (PyProof.Rows.callWith_type1 (thn (pa_y.run pos pins s σ H _ I (arg_run h q)) fun us s1 ⟨vs, H1, I1, r1, q1⟩ => q1 pins s1 us I1 r1) he hpl) hn hdb)⟩

/-! ### displays -/
theorem e_lst (h : A S es env μ fun ds μ1 => ds.length ≤ sizeLine ∧ P (.lst ds) μ1) : E S (.List es pos) env μ P := by
  refine PE.imp (pe_lst h) fun σ H Q ⟨F, as, a, k⟩ => ⟨F, as, a, fun ds μ1 vs F1 H1 as1 p1 g1 W1 r1 => ?_⟩
  refine ⟨by rw [r1.length]; exact p1.1, fun p np => ?_⟩
  obtain ⟨W2, g2⟩ := W1.addF (o := .lst vs) np
  exact k _ μ1 _ _ _ _ p1.2 (g1.trans g2) W2 (.lst upd_same (r1.mono g2))
theorem e_lstC (h : A S es env μ fun ds μ1 => ds.length ≤ sizeLine ∧ P (.cell μ1.length) (μ1 ++ [.lst ds])) : E S (.List es pos) env μ P := by
  refine PE.imp (pe_lst h) fun σ H Q ⟨F, as, a, k⟩ => ⟨F, as, a, fun ds μ1 vs F1 H1 as1 p1 g1 W1 r1 => ?_⟩
  refine ⟨by rw [r1.length]; exact p1.1, fun p np => ?_⟩
  obtain ⟨W2, g2⟩ := W1.addO (o := .lst vs) (c := .lst ds) np fun nF => ⟨rfl, nF, vs, upd_same, r1.to (Same.refl F1) (fun j hj ad e => by rw [List.getElem?_append_left (List.getElem?_eq_some_iff.mp e).1]; exact e)⟩
  exact k _ _ _ _ _ _ p1.2 (g1.trans g2) W2 (.cell (ad := ⟨p, none⟩) (W1.last _))
theorem e_tup {j : Nat} (h : A S es env μ fun ds μ1 => ds.length ≤ sizeLine ∧ P (.tup ds) μ1) : E S (.Tuple es j pos) env μ P := by
  refine PE.imp (pe_tup h) fun σ H Q ⟨F, as, a, k⟩ => ⟨F, as, a, fun ds μ1 vs F1 H1 as1 p1 g1 W1 r1 => ?_⟩
  refine ⟨by rw [r1.length]; exact p1.1, fun p np => ?_⟩
  obtain ⟨W2, g2⟩ := W1.addF (o := .tup vs) np
  exact k _ μ1 _ _ _ _ p1.2 (g1.trans g2) W2 (.tup upd_same (r1.mono g2))

/-! ### tests and truths -/
theorem w_and1 (h : T S a env μ PB) : W S (.BoolOp .And [a] pos) env μ PB := pw_and1 h
theorem w_or1 (h : T S a env μ PB) : W S (.BoolOp .Or [a] pos) env μ PB := pw_or1 h
theorem w_and (h : T S a env μ fun q μ1 => (q = true → W S (.BoolOp .And (b :: es) pos) env μ1 PB) ∧ (q = false → PB false μ1)) : W S (.BoolOp .And (a :: b :: es) pos) env μ PB := by
  refine PW.imp (pw_and h pw_y) fun σ H Q ⟨F, as, a1, k⟩ => ⟨F, as, a1, fun q μ1 F1 H1 as1 p1 g1 W1 => ?_⟩
  cases q with
  | true => exact (p1.1 rfl).go (a1.go g1 W1) fun b m F2 H2 as2 p2 g2 W2 => k b m F2 H2 as2 p2 (g1.trans g2) W2
  | false => exact k false μ1 F1 H1 as1 (p1.2 rfl) g1 W1
theorem w_or (h : T S a env μ fun q μ1 => (q = true → PB true μ1) ∧ (q = false → W S (.BoolOp .Or (b :: es) pos) env μ1 PB)) : W S (.BoolOp .Or (a :: b :: es) pos) env μ PB := by
  refine PW.imp (pw_or h pw_y) fun σ H Q ⟨F, as, a1, k⟩ => ⟨F, as, a1, fun q μ1 F1 H1 as1 p1 g1 W1 => ?_⟩
  cases q with
  | false => exact (p1.2 rfl).go (a1.go g1 W1) fun b m F2 H2 as2 p2 g2 W2 => k b m F2 H2 as2 p2 (g1.trans g2) W2
  | true => exact k true μ1 F1 H1 as1 (p1.1 rfl) g1 W1
theorem t_bop {op : BoolOp} (h : W S (.BoolOp op es pos) env μ PB) : T S (.BoolOp op es pos) env μ PB := h.t
theorem t_not (h : T S a env μ fun q m => PB (!q) m) : T S (.UnaryOp .Not a pos) env μ PB :=
  PT.imp (pt_not h) fun σ H Q ⟨F, as, a1, k⟩ => ⟨F, as, a1, fun q m F1 H1 as1 p g1 W1 => k (!q) m F1 H1 as1 p g1 W1⟩
theorem t_val (h : E S e env μ (asT PB)) (hp : ∀ whole, isTrue e S.X.env whole = (do let v ← whole; standAt e.pos; holding [v] (truthy v)) := by intro _; rfl) : T S e env μ PB :=
  PT.imp (pt_val h hp) fun σ H Q ⟨F, as, a, k⟩ => ⟨F, as, a, fun d m v F1 H1 as1 ⟨q, e1, p⟩ g1 W1 r1 => by
    subst e1
    cases r1
    exact ⟨q, rfl, k q m F1 H1 as1 p g1 W1⟩⟩
theorem e_one {op : BoolOp} (h : E S a env μ P) : E S (.BoolOp op [a] pos) env μ P := pe_one h
theorem e_and (h : E S a env μ fun d μ1 => ∃ q, d = .bl q ∧ (q = true → E S (.BoolOp .And (b :: es) pos) env μ1 P) ∧ (q = false → P (.bl false) μ1)) : E S (.BoolOp .And (a :: b :: es) pos) env μ P := by
  refine PE.imp (pe_and h pe_y) fun σ H Q ⟨F, as, a1, k⟩ => ⟨F, as, a1, fun d μ1 v F1 H1 as1 ⟨q, e1, pt, pf⟩ g1 W1 r1 => ?_⟩
  subst e1
  cases r1
  refine ⟨q, rfl, ?_⟩
  cases q with
  | true => exact (pt rfl).go (a1.go g1 W1) fun d m v F2 H2 as2 p2 g2 W2 => k d m v F2 H2 as2 p2 (g1.trans g2) W2
  | false => exact k _ μ1 _ F1 H1 as1 (pf rfl) g1 W1 (.bl false)
theorem e_or (h : E S a env μ fun d μ1 => ∃ q, d = .bl q ∧ (q = true → P (.bl true) μ1) ∧ (q = false → E S (.BoolOp .Or (b :: es) pos) env μ1 P)) : E S (.BoolOp .Or (a :: b :: es) pos) env μ P := by
  refine PE.imp (pe_or h pe_y) fun σ H Q ⟨F, as, a1, k⟩ => ⟨F, as, a1, fun d μ1 v F1 H1 as1 ⟨q, e1, pt, pf⟩ g1 W1 r1 => ?_⟩
  subst e1
  cases r1
  refine ⟨q, rfl, ?_⟩
  cases q with
  | false => exact (pf rfl).go (a1.go g1 W1) fun d m v F2 H2 as2 p2 g2 W2 => k d m v F2 H2 as2 p2 (g1.trans g2) W2
  | true => exact k _ μ1 _ F1 H1 as1 (pt rfl) g1 W1 (.bl true)
theorem e_not (h : E S a env μ fun d m => ∃ q, d = .bl q ∧ P (.bl (!q)) m) : E S (.UnaryOp .Not a pos) env μ P :=
  PE.imp (pe_not h) fun σ H Q ⟨F, as, a1, k⟩ => ⟨F, as, a1, fun d m v F1 H1 as1 ⟨q, e1, p⟩ g1 W1 r1 => by
    subst e1
    cases r1
    exact ⟨q, rfl, k _ m _ F1 H1 as1 p g1 W1 (.bl _)⟩⟩
theorem e_ite (h : T S c env μ fun q μ1 => (q = true → E S a env μ1 P) ∧ (q = false → E S b env μ1 P)) : E S (.IfExp c a b pos) env μ P := by
  refine PE.imp (pe_ifExp h pe_y pe_y) fun σ H Q ⟨F, as, a1, k⟩ => ⟨F, as, a1, fun q μ1 F1 H1 as1 p g1 W1 => ?_⟩
  cases q with
  | true => exact (p.1 rfl).go (a1.go g1 W1) fun d m v F2 H2 as2 p2 g2 W2 => k d m v F2 H2 as2 p2 (g1.trans g2) W2
  | false => exact (p.2 rfl).go (a1.go g1 W1) fun d m v F2 H2 as2 p2 g2 W2 => k d m v F2 H2 as2 p2 (g1.trans g2) W2
/-! ### slices -/
def OI (S : Sc) (e : Option Expr) (env : En) (μ : Mu) (P : Option Int → Mu → Prop) : Prop := PO S.X e fun σ H Q => ∃ F as, At S env μ σ H F as ∧ ∀ o μ' F' H' as', P o μ' → Go F H as F' H' as' → Wd S.Γ F' H' as' μ' → Q o H'
theorem o_none {PP : Option Int → Mu → Prop} (k : PP none μ) : OI S none env μ PP := PO.imp po_none fun σ H Q ⟨F, as, a, kk⟩ => kk none μ F H as k (Go.refl F H as) a.w
theorem o_some {PP : Option Int → Mu → Prop} (h : E S e env μ fun d m => ∃ i, d = .int i ∧ PP (some i) m) : OI S (some e) env μ PP :=
  PO.imp (po_some h) fun σ H Q ⟨F, as, a, kk⟩ => ⟨F, as, a, fun d m v F1 H1 as1 ⟨i, e1, p⟩ g1 W1 r1 => by
    subst e1
    cases r1
    exact ⟨i, rfl, kk _ m F1 H1 as1 p g1 W1⟩⟩
def Sl3 (S : Sc) (d : D) (lo hi : Option Int) (μ : Mu) (P : KD) : Prop := ∃ r, SlR S.X r ∧ ∀ F H as x Q, Wd S.Γ F H as μ → DV S.Γ F as x d → Kv S F H as P Q → r x lo hi H Q
theorem e_sl {lo hi : Option Expr} {p2 : Pos} (h : E S e env μ fun d μ1 => OI S lo env μ1 fun i μ2 => OI S hi env μ2 fun j μ3 => Sl3 S d i j μ3 P) : E S (.Subscript e (.Slice lo hi none p2) pos) env μ P := by
  have sl : SlR S.X (fun x lo hi H Q => ∃ r, SlR S.X r ∧ r x lo hi H Q) := fun pins s σ H x v vl vu lo hi sl Q I rx hs pl pu ⟨r, h, q⟩ => h pins s σ H x v vl vu lo hi sl Q I rx hs pl pu q
  refine PE.imp (pe_slice sl pe_y po_y po_y) fun σ H Q ⟨F, as, a, k⟩ => ?_
  refine h.go a fun d μ1 v F1 H1 as1 p1 g1 W1 r1 => ⟨_, p1, F1, as1, a.go g1 W1, fun i μ2 F2 H2 as2 p2 g2 W2 => ⟨_, p2, F2, as2, (a.go g1 W1).go g2 W2, fun j μ3 F3 H3 as3 p3 g3 W3 => ?_⟩⟩
  obtain ⟨r, hr, hh⟩ := p3
  exact ⟨r, hr, hh F3 H3 as3 v Q W3 ((r1.mono g2).mono g3) (((k.go g1).go g2).go g3)⟩
end
end Me

/-! Me3: statements, loops, comprehensions. -/
namespace Me
open PySem PySem.Spec PyProof.Rows L2

inductive Out where
  | next (env : En) (μ : Mu)
  | ret (d : D) (μ : Mu)
  | brk (env : En) (μ : Mu)
  | cont (env : En) (μ : Mu)
structure Ed (S : Sc) (F H : Hp) (as : List Ad) (R : Out → Prop) (D : Ends) : Prop where
  nx : ∀ env' μ' σ' F' H' as', R (.next env' μ') → Go F H as F' H' as' → EnvOk S.Γ F' as' env' σ' → Wd S.Γ F' H' as' μ' → D.nx σ' H'
  rt : ∀ d μ' v F' H' as', R (.ret d μ') → Go F H as F' H' as' → Wd S.Γ F' H' as' μ' → DV S.Γ F' as' v d → D.rt v H'
  bk : ∀ env' μ' σ' F' H' as', R (.brk env' μ') → Go F H as F' H' as' → EnvOk S.Γ F' as' env' σ' → Wd S.Γ F' H' as' μ' → D.bk σ' H'
  ct : ∀ env' μ' σ' F' H' as', R (.cont env' μ') → Go F H as F' H' as' → EnvOk S.Γ F' as' env' σ' → Wd S.Γ F' H' as' μ' → D.ct σ' H'
theorem Ed.go {S : Sc} {F H F1 H1 : Hp} {as as1 : List Ad} {R : Out → Prop} {D : Ends} (k : Ed S F H as R D) (g : Go F H as F1 H1 as1) : Ed S F1 H1 as1 R D :=
  ⟨fun e m s F' H' as' r g' => k.nx e m s F' H' as' r (g.trans g'), fun e m s F' H' as' r g' => k.rt e m s F' H' as' r (g.trans g'),
   fun e m s F' H' as' r g' => k.bk e m s F' H' as' r (g.trans g'), fun e m s F' H' as' r g' => k.ct e m s F' H' as' r (g.trans g')⟩
theorem Ed.imp {S : Sc} {F H : Hp} {as : List Ad} {R R' : Out → Prop} {D : Ends} (k : Ed S F H as R D) (i : ∀ o, R' o → R o) : Ed S F H as R' D :=
  ⟨fun e m s F' H' as' r => k.nx e m s F' H' as' (i _ r), fun e m s F' H' as' r => k.rt e m s F' H' as' (i _ r), fun e m s F' H' as' r => k.bk e m s F' H' as' (i _ r), fun e m s F' H' as' r => k.ct e m s F' H' as' (i _ r)⟩
def rdS (S : Sc) (env : En) (μ : Mu) (R : Out → Prop) : TS := fun D σ H => ∃ F as, At S env μ σ H F as ∧ Ed S F H as R D
def B (S : Sc) (sts : List Stmt) (env : En) (μ : Mu) (R : Out → Prop) : Prop := PSs S.X sts (rdS S env μ R)
def B1 (S : Sc) (st : Stmt) (env : En) (μ : Mu) (R : Out → Prop) : Prop := PS S.X st (rdS S env μ R)

section
variable {S : Sc} {env : En} {μ : Mu} {a b c e tg iter : Expr} {es : List Expr} {st : Stmt} {rest body A1 B1' : List Stmt} {R R1 : Out → Prop} {pos p0 p1 p2 : Pos} {x y z : Str} {P : KD}
theorem B.imp (h : B S body env μ R1) (i : ∀ o, R1 o → R o) : B S body env μ R := PSs.imp h fun D σ H ⟨F, as, a, k⟩ => ⟨F, as, a, k.imp i⟩
theorem B.go (h : B S body env μ R) {σ : L2.St} {H F : Hp} {as : List Ad} {D : Ends} (a : At S env μ σ H F as) (k : Ed S F H as R D) : yS S.X body D σ H := ⟨_, h, F, as, a, k⟩
/-- a block that the rest follows -/
def Thn (S : Sc) (rest : List Stmt) (R : Out → Prop) : Out → Prop
  | .next env μ => B S rest env μ R
  | o => R o
theorem b_nil (h : R (.next env μ)) : B S [] env μ R := PSs.imp pss_nil fun D σ H ⟨F, as, a, k⟩ => k.nx env μ σ F H as h (Go.refl F H as) a.e a.w
theorem b_cons (h1 : B1 S st env μ (Thn S rest R)) : B S (st :: rest) env μ R := by
  refine PSs.imp (pss_cons h1 pss_y) fun D σ H ⟨F, as, a, k⟩ => ?_
  refine ⟨F, as, a, fun env' μ' σ' F' H' as' h g he' W' => ?_, k.rt, k.bk, k.ct⟩
  exact B.go h ⟨he', W', a.k.go g⟩ (k.go g)
theorem b_set (i : Nat) (h : E S e env μ fun d μ1 => B S rest (env.set i (some d)) μ1 R) (hi : S.X.N[i]? = some x := by rfl)
    (hx : Loc S.X.env.scope x := by first | exact .inl rfl | exact .inr rfl) (hs : swapsWith e (some (.Name x p0)) pos.line S.X.env = pure false := by rfl)
    (hf : S.X.fn x = true ∨ S.X.env.scope.names.lookup x = some .local := by first | exact .inl rfl | exact .inr rfl) : B S (.Assign [.Name x p0] e pos :: rest) env μ R := by
  refine b_cons (PS.imp (ps_set S.hN hi hx h hs hf) fun D σ H ⟨F, as, a, k⟩ => ?_)
  exact ⟨F, as, a, fun d μ1 v F1 H1 as1 p1 g1 W1 r1 => k.nx _ μ1 _ F1 H1 as1 p1 g1 ((a.e.mono g1).set r1 i) W1⟩
theorem b_ret (h : E S e env μ fun d μ1 => R (.ret d μ1)) : B S (.Return (some e) pos :: rest) env μ R :=
  b_cons (PS.imp (ps_ret h) fun D σ H ⟨F, as, a, k⟩ => ⟨F, as, a, fun d μ1 v F1 H1 as1 p1 g1 W1 r1 => k.rt d μ1 v F1 H1 as1 p1 g1 W1 r1⟩)
theorem b_expr (h : E S e env μ fun d μ1 => B S rest env μ1 R) (hs : swapsWith e none pos.line S.X.env = pure false := by rfl) : B S (.Expr e pos :: rest) env μ R :=
  b_cons (PS.imp (ps_expr h hs) fun D σ H ⟨F, as, a, k⟩ => ⟨F, as, a, fun d μ1 v F1 H1 as1 p1 g1 W1 r1 => k.nx env μ1 σ F1 H1 as1 p1 g1 (a.e.mono g1) W1⟩)
theorem b_if (h : T S c env μ fun q μ1 => (q = true → B S A1 env μ1 (Thn S rest R)) ∧ (q = false → B S B1' env μ1 (Thn S rest R))) : B S (.If c A1 B1' pos :: rest) env μ R := by
  refine b_cons (PS.imp (ps_if h pss_y pss_y) fun D σ H ⟨F, as, a, k⟩ => ⟨F, as, a, fun q μ1 F1 H1 as1 p1 g1 W1 => ?_⟩)
  cases q with
  | true => exact (p1.1 rfl).go (a.go g1 W1) (k.go g1)
  | false => exact (p1.2 rfl).go (a.go g1 W1) (k.go g1)
/-- an if whose ways meet -/
def JR (J : En → Mu → Prop) (R : Out → Prop) : Out → Prop
  | .next env μ => J env μ
  | o => R o
theorem JR.thn {J : En → Mu → Prop} (hJ : ∀ env μ, J env μ → B S rest env μ R) : ∀ o, JR J R o → Thn S rest R o
  | .next env μ, h => hJ env μ h
  | .ret _ _, h => h
  | .brk _ _, h => h
  | .cont _ _, h => h
theorem b_ifJ (J : En → Mu → Prop) (h : T S c env μ fun q μ1 => (q = true → B S A1 env μ1 (JR J R)) ∧ (q = false → B S B1' env μ1 (JR J R))) (hJ : ∀ env μ, J env μ → B S rest env μ R) : B S (.If c A1 B1' pos :: rest) env μ R :=
  b_if (h.imp fun q m p => ⟨fun z => (p.1 z).imp (JR.thn hJ), fun z => (p.2 z).imp (JR.thn hJ)⟩)
/-! ### targets, iterables -/
/-- a value goes to a target -/
def rdG (S : Sc) (rel : D → En → En → Prop) (vs : List Nat) : TG := fun v σ H Q =>
  ∃ d env env' F as, rel d env env' ∧ DV S.Γ F as v d ∧ Same F H ∧ EnvOk S.Γ F as env σ ∧ ∀ σ', EnvOk S.Γ F as env' σ' → wipe σ' vs = wipe σ vs → Q σ' H
def Tg (S : Sc) (tg : Expr) (rel : D → En → En → Prop) (vs : List Nat) : Prop := PG S.X tg (rdG S rel vs)
theorem wipe1 (σ : L2.St) (i : Nat) (a : Option V) : wipe (σ.set i a) [i] = wipe σ [i] := List.set_set _
theorem wipe2 (σ : L2.St) (i j : Nat) (a b : Option V) : wipe ((σ.set i a).set j b) [i, j] = wipe σ [i, j] := by
  show (((σ.set i a).set j b).set j none).set i none = (σ.set j none).set i none
  rw [List.set_set]
  by_cases h : i = j
  · subst h; rw [List.set_set, List.set_set, List.set_set]
  · rw [List.set_comm _ _ (Ne.symm h), List.set_set, List.set_comm _ _ h]
def rName (i : Nat) : D → En → En → Prop := fun d env env' => env' = env.set i (some d)
def rPair (i j : Nat) : D → En → En → Prop := fun d env env' => ∃ d1 d2, d = .tup [d1, d2] ∧ env' = (env.set i (some d1)).set j (some d2)
def rTri (i j k : Nat) : D → En → En → Prop := fun d env env' => ∃ d1 d2 d3, d = .tup [d1, d2, d3] ∧ env' = ((env.set i (some d1)).set j (some d2)).set k (some d3)
theorem g_name (i : Nat) (hi : S.X.N[i]? = some x := by rfl) (hx : Loc S.X.env.scope x := by first | exact .inl rfl | exact .inr rfl)
    (hf : S.X.fn x = true ∨ S.X.env.scope.names.lookup x = some .local := by first | exact .inl rfl | exact .inr rfl) : Tg S (.Name x pos) (rName i) [i] :=
  ⟨fun pins s σ H v u Q I r ⟨d, env, env', F, as, h, dv, sm, he, k⟩ => (pg_name (i := i) S.hN hi hx hf).run pins s σ H v u Q I r (k _ (h ▸ he.set dv i) (wipe1 σ i _))⟩
theorem g_tup2 (i j : Nat) {k : Nat} (hc : S.X.calm = true) (hi : S.X.N[i]? = some x := by rfl) (hj : S.X.N[j]? = some y := by rfl) (hx : Loc S.X.env.scope x := by first | exact .inl rfl | exact .inr rfl) (hy : Loc S.X.env.scope y := by first | exact .inl rfl | exact .inr rfl)
    (hf : S.X.fn x = true ∨ S.X.env.scope.names.lookup x = some .local := by first | exact .inl rfl | exact .inr rfl) (hf2 : S.X.fn y = true ∨ S.X.env.scope.names.lookup y = some .local := by first | exact .inl rfl | exact .inr rfl) :
    Tg S (.Tuple [.Name x p0, .Name y p1] k pos) (rPair i j) [i, j] := by
  refine ⟨fun pins s σ H v u Q I r ⟨d, env, env', F, as, ⟨d1, d2, e1, e2⟩, dv, sm, he, kk⟩ => ?_⟩
  subst e1 e2
  cases dv with
  | tup e q =>
    cases q with
    | cons q1 t1 =>
      cases t1 with
      | cons q2 t2 =>
        cases t2
        refine (pg_tup hc (pgs_cons (pg_name (i := i) S.hN hi hx hf) (pgs_cons (pg_name (i := j) S.hN hj hy hf2) pgs_nil))).run pins s σ H _ u Q I r ?_
        exact ⟨_, _, rfl, Or.inl (Or.inl (sm _ _ e)), rfl, _, _, rfl, _, _, rfl, rfl, kk _ ((he.set q1 i).set q2 j) (wipe2 σ i j _ _)⟩
/-- what a walk over the data ds is, while Sx holds of the cells -/
def IsWalk (S : Sc) (ds : List D) (Sx : Mu → Prop) (F1 H1 : Hp) (as1 : List Ad) (J : It) : Prop := ∃ G Y, Walk J ds.length G Y ∧
  (∀ F2 H2 as2 μ2, Go F1 H1 as1 F2 H2 as2 → Wd S.Γ F2 H2 as2 μ2 → Sx μ2 → G H2) ∧
  (∀ (i : Nat) F2 H2 as2 μ2 x H', Go F1 H1 as1 F2 H2 as2 → Wd S.Γ F2 H2 as2 μ2 → Sx μ2 → Y i H2 x H' → i < ds.length → ∃ F3 d, ds[i]? = some d ∧ Go F2 H2 as2 F3 H' as2 ∧ Wd S.Γ F3 H' as2 μ2 ∧ DV S.Γ F3 as2 x d)
abbrev KI := List D → (Mu → Prop) → Mu → Prop
def rdI (S : Sc) (env : En) (μ : Mu) (PI : KI) : TI := fun σ H R => ∃ F as, At S env μ σ H F as ∧ ∀ ds Sx μ1 J F1 H1 as1, PI ds Sx μ1 → Go F H as F1 H1 as1 → Wd S.Γ F1 H1 as1 μ1 → IsWalk S ds Sx F1 H1 as1 J → R J H1
def Iter (S : Sc) (tg iter : Expr) (env : En) (μ : Mu) (PI : KI) : Prop := L2.PI S.X tg iter (rdI S env μ PI)
end
end Me

/-! Me4: iterables, loops, comprehensions. -/
namespace Me
open PySem PySem.Spec PyProof.Rows L2
/-- what a value is, a cell opened -/
def vw (μ : Mu) : D → D
  | .cell j => match μ[j]? with
    | some (.lst ds) => .lst ds
    | some (.dct t _ kvs) => .dct t kvs
    | some (.ins c fs) => .ins c fs
    | _ => .cell j
  | d => d
section
variable {Γ : Gam} {F H : Hp} {as : List Ad} {μ : Mu} {v : V} {d : D} {ds : List D}
theorem Wd.lst (W : Wd Γ F H as μ) (r : DV Γ F as v d) (h : vw μ d = .lst ds) : ∃ a vs, v = .ref a ∧ H a = some (.lst vs) ∧ DVs Γ F as vs ds := by
  cases r with
  | lst h1 h2 =>
    obtain rfl := D.lst.inj h
    exact ⟨_, _, rfl, W.sub _ _ h1, h2⟩
  | @cell j ad h1 =>
    simp only [vw] at h
    cases hc : μ[j]? with
    | none => rw [hc] at h; cases h
    | some c =>
      rw [hc] at h
      cases c with
      | lst es =>
        obtain rfl := D.lst.inj h
        obtain ⟨_, _, vs, h2, h3⟩ := W.ok j ad _ h1 hc
        exact ⟨_, vs, rfl, h2, h3⟩
      | dct _ _ _ => cases h
      | ins _ _ => cases h
      | dead => cases h
      | gd _ _ => cases h
      | ts _ _ _ => cases h
      | gl _ _ _ => cases h
  | non => cases h
  | bl _ => cases h
  | int _ => cases h
  | str _ => cases h
  | tup _ _ => cases h
  | dctK _ _ => cases h
  | dctT _ _ => cases h
  | ins _ _ _ => cases h
  | err0 _ _ => cases h
  | ty _ => cases h
  | tpx _ _ => cases h
  | cls _ => cases h
  | err1 _ _ _ _ => cases h
theorem DV.tupV (r : DV Γ F as v (.tup ds)) : ∃ a vs, v = .ref a ∧ F a = some (.tup vs) ∧ DVs Γ F as vs ds := by
  cases r with
  | tup h1 h2 => exact ⟨_, _, rfl, h1, h2⟩
end
section
variable {S : Sc} {env : En} {μ : Mu} {a b c e tg iter : Expr} {es : List Expr} {st : Stmt} {rest body : List Stmt} {R : Out → Prop} {pos p0 p1 p2 : Pos} {x y z : Str} {P : KD} {PI : KI}
theorem stays_walk {ds : List D} {J : It} {F1 H1 : Hp} {as1 : List Ad} {Sx : Mu → Prop} (G : Hp → Prop) (Y : Nat → Hp → V → Hp → Prop) (w : Walk J ds.length G Y)
    (hG : ∀ F2 H2 as2 μ2, Go F1 H1 as1 F2 H2 as2 → Wd S.Γ F2 H2 as2 μ2 → Sx μ2 → G H2)
    (hY : ∀ (i : Nat) F2 H2 as2 μ2 x H', Go F1 H1 as1 F2 H2 as2 → Wd S.Γ F2 H2 as2 μ2 → Sx μ2 → Y i H2 x H' → i < ds.length → H' = H2 ∧ ∃ d, ds[i]? = some d ∧ DV S.Γ F2 as2 x d) : IsWalk S ds Sx F1 H1 as1 J :=
  ⟨G, Y, w, hG, fun i F2 H2 as2 μ2 x H' g2 W2 s2 y hi => by
    obtain ⟨rfl, d, h1, h2⟩ := hY i F2 H2 as2 μ2 x H' g2 W2 s2 y hi
    exact ⟨F2, d, h1, Go.refl _ _ _, W2, h2⟩⟩
theorem i_lst (h : E S iter env μ fun d m => ∃ ds, vw m d = .lst ds ∧ PI ds (fun m' => vw m' d = .lst ds) m) : Iter S tg iter env μ PI := by
  refine Me.PI.imp (pi_list h) fun σ H R ⟨F, as, a, k⟩ => ⟨F, as, a, fun d m v F1 H1 as1 ⟨ds, hv, p1⟩ g1 W1 r1 => ?_⟩
  obtain ⟨p, vs, rfl, e, q⟩ := W1.lst r1 hv
  have same : ∀ F2 H2 as2 μ2, Go F1 H1 as1 F2 H2 as2 → Wd S.Γ F2 H2 as2 μ2 → vw μ2 d = .lst ds → ∃ ws, H2 p = some (.lst ws) ∧ DVs S.Γ F2 as2 ws ds := by
    intro F2 H2 as2 μ2 g2 W2 h2
    obtain ⟨p', ws, e', q1, q2⟩ := W2.lst (r1.mono g2) h2
    obtain rfl := V.ref.inj e'
    exact ⟨ws, q1, q2⟩
  refine ⟨p, rfl, ⟨vs, .inl (.inl e)⟩, k ds _ m (Itl S.X.K p) F1 H1 as1 p1 g1 W1 ?_⟩
  refine stays_walk (fun H2 => ∃ ws, H2 p = some (.lst ws) ∧ ws.length = ds.length) (fun i H x H' => H' = H ∧ ∃ ws, H p = some (.lst ws) ∧ ws[i]? = some x) ⟨?_, ?_, ?_⟩ ?_ ?_
  · exact fun i H hi ⟨ws, h1, h2⟩ => ⟨ws, ws[i]'(by omega), .inl (.inl h1), by simp [h2, hi]⟩
  · exact fun H ⟨ws, h1, h2⟩ => ⟨ws, .inl (.inl h1), by omega⟩
  · exact fun i H x H' hi ⟨ws, h1, h2⟩ y => ⟨y.1, ws, h1, y.2 ws (.inl (.inl h1))⟩
  · exact fun F2 H2 as2 μ2 g2 W2 h2 => let ⟨ws, q1, q2⟩ := same F2 H2 as2 μ2 g2 W2 h2; ⟨ws, q1, q2.length⟩
  · rintro i F2 H2 as2 μ2 x H' g2 W2 h2 ⟨rfl, ws, q1, q2⟩ hi
    obtain ⟨ws', q1', q2'⟩ := same F2 _ as2 μ2 g2 W2 h2
    rw [q1] at q1'
    obtain rfl := HO.lst.inj (Option.some.inj q1')
    exact ⟨rfl, q2'.getV q2⟩
theorem i_tup (h : E S iter env μ fun d m => ∃ ds, d = .tup ds ∧ PI ds (fun _ => True) m) : Iter S tg iter env μ PI := by
  refine Me.PI.imp (pi_tup h) fun σ H R ⟨F, as, a, k⟩ => ⟨F, as, a, fun d m v F1 H1 as1 ⟨ds, hv, p1⟩ g1 W1 r1 => ?_⟩
  subst hv
  obtain ⟨p, vs, rfl, e, q⟩ := DV.tupV r1
  refine ⟨p, rfl, ⟨vs, .inl (.inl (W1.sub _ _ e))⟩, k ds _ m (Itt S.X.K p) F1 H1 as1 p1 g1 W1 ?_⟩
  refine stays_walk (fun H => SqT S.X.K H p vs) (YAt vs) (by rw [← q.length]; exact walk_tup) ?_ ?_
  · exact fun F2 H2 as2 μ2 g2 W2 _ => .inl (.inl (W2.sub _ _ (g2.sub _ _ e)))
  · rintro i F2 H2 as2 μ2 x H' g2 W2 h2 ⟨rfl, y⟩ hi
    obtain ⟨d, h1, h2⟩ := q.getV y
    exact ⟨rfl, d, h1, h2.mono g2⟩
def rangeD (lo : Int) (n : Nat) : List D := (List.range n).map fun (i : Nat) => D.int (lo + i)
theorem rangeD_len (lo : Int) (n : Nat) : (rangeD lo n).length = n := by unfold rangeD; simp
theorem rangeD_get {lo : Int} {n i : Nat} (h : i < n) : (rangeD lo n)[i]? = some (.int (lo + i)) := by unfold rangeD; simp [h]
theorem range_go {lo : Int} {n : Nat} {F1 H1 : Hp} {as1 : List Ad} : IsWalk S (rangeD lo n) (fun _ => True) F1 H1 as1 (Itr lo n) := by
  refine stays_walk _ _ (by rw [rangeD_len]; exact walk_range) (fun _ _ _ _ _ _ _ => trivial) ?_
  rintro i F2 H2 as2 μ2 x H' g2 W2 h2 ⟨rfl, y⟩ hi
  rw [rangeD_len] at hi
  exact ⟨rfl, _, rangeD_get hi, y ▸ .int _⟩
theorem i_range1 (hm : S.X.mg "range" = none) (h : E S a env μ fun d m => ∃ n, d = .int n ∧ (-(2 ^ 62) ≤ n ∧ n < 2 ^ 62) ∧ PI (rangeD 0 n.toNat) (fun _ => True) m) (hg : Gl S.X "range" := by rfl)
    (hs : starEach [a] S.X.env = [(false, eval a S.X.env)] := by rfl) : Iter S tg (.Call (.Name "range" p0) [a] [] pos) env μ PI := by
  refine Me.PI.imp (pi_range1 hg hm (pa_cons h pa_nil hs) hs) fun σ H R ⟨F, as, a, k⟩ => ⟨F, as, a, fun d m v F1 H1 as1 ⟨n, e1, hz, p1⟩ g1 W1 r1 => ?_⟩
  subst e1
  cases r1
  exact ⟨n, rfl, hz.1, hz.2, k _ _ m _ F1 H1 as1 p1 g1 W1 range_go⟩
def signsD (z : Str) : List D := z.cps.toList.map fun c => D.str ⟨#[c]⟩
theorem i_str (h : E S iter env μ fun d m => ∃ z, d = .str z ∧ PI (signsD z) (fun _ => True) m) : Iter S tg iter env μ PI := by
  refine Me.PI.imp (pi_str h) fun σ H R ⟨F, as, a, k⟩ => ⟨F, as, a, fun d m v F1 H1 as1 ⟨z, e1, p1⟩ g1 W1 r1 => ?_⟩
  subst e1
  cases r1
  have hl : (signsD z).length = z.cps.size := by unfold signsD; simp
  refine ⟨z, rfl, k _ _ m _ F1 H1 as1 p1 g1 W1 (stays_walk _ _ (by rw [hl]; exact walk_str) (fun _ _ _ _ _ _ _ => trivial) ?_)⟩
  rintro i F2 H2 as2 μ2 x H' g2 W2 h2 ⟨rfl, c, y, rfl⟩ hi
  refine ⟨rfl, _, ?_, .str _⟩
  unfold signsD
  rw [List.getElem?_map, Array.getElem?_toList, y]
  rfl

/-- what a turn may lead to -/
def LoopR (S : Sc) (rest : List Stmt) (R : Out → Prop) (I : Nat → En → Mu → Prop) (k : Nat) : Out → Prop
  | .next env μ => I (k + 1) env μ
  | .cont env μ => I (k + 1) env μ
  | .brk env μ => B S rest env μ R
  | .ret sv μ => R (.ret sv μ)
/-- a loop over ds by an invariant -/
structure Loop (S : Sc) (rel : D → En → En → Prop) (body rest : List Stmt) (R : Out → Prop) (env : En) (I : Nat → En → Mu → Prop) (ds : List D) (Sx : Mu → Prop) (μ1 : Mu) : Prop where
  start : I 0 env μ1
  stay : ∀ k env μ, I k env μ → Sx μ
  turn : ∀ k d env μ, ds[k]? = some d → I k env μ → ∃ env', rel d env env' ∧ B S body env' μ (LoopR S rest R I k)
  done : ∀ env μ, I ds.length env μ → B S rest env μ R
theorem b_for {rel : D → En → En → Prop} {vs : List Nat} (hc : S.X.calm = true) (hg : Tg S tg rel vs)
    (h : Iter S tg iter env μ fun ds Sx μ1 => ∃ I, Loop S rel body rest R env I ds Sx μ1) (hf : ∀ x, foldedSetIterable iter S.X.env x = pure x := by intro _; rfl) : B S (.For tg iter body [] pos :: rest) env μ R := by
  refine b_cons (PS.imp (ps_for S.hp hc h hg pss_y hf) fun D σ H ⟨F, as, a, k⟩ => ?_)
  refine ⟨F, as, a, fun ds Sx μ1 J F1 H1 as1 ⟨I, L⟩ g1 W1 ⟨G, Y, w, hG, hY⟩ => ?_⟩
  refine for_it (g := rdG S rel vs) (tb := yS S.X body) (D := D) w (fun k σ H => ∃ env μ F2 as2, I k env μ ∧ EnvOk S.Γ F2 as2 env σ ∧ Wd S.Γ F2 H as2 μ ∧ Go F1 H1 as1 F2 H as2) ⟨env, μ1, F1, as1, L.start, a.e.mono g1, W1, Go.refl _ _ _⟩ ?_ ?_ ?_
  · rintro k σ2 H2 _ ⟨env2, μ2, F2, as2, i2, e2, W2, g2⟩
    exact hG F2 H2 as2 μ2 g2 W2 (L.stay k env2 μ2 i2)
  · rintro k2 v σ2 H2 H' hk ⟨env2, μ2, F2, as2, i2, e2, W2, g2⟩ y
    obtain ⟨F3, d, hd1, g3, W3, dv⟩ := hY k2 F2 H2 as2 μ2 v H' g2 W2 (L.stay k2 env2 μ2 i2) y hk
    obtain ⟨env3, r3, b3⟩ := L.turn k2 d env2 μ2 hd1 i2
    refine ⟨d, env2, env3, F3, as2, r3, dv, W3.sub, e2.mono g3, fun σ3 e3 _ => b3.go ⟨e3, W3, ((a.k.go g1).go g2).go g3⟩ ⟨?_, ?_, ?_, ?_⟩⟩
    · exact fun e4 m4 s4 F4 H4 as4 r4 g4 q4 W4 => ⟨e4, m4, F4, as4, r4, q4, W4, (g2.trans g3).trans g4⟩
    · exact fun e4 m4 s4 F4 H4 as4 r4 g4 W4 q4 => k.rt e4 m4 s4 F4 H4 as4 r4 (((g1.trans g2).trans g3).trans g4) W4 q4
    · exact fun e4 m4 s4 F4 H4 as4 r4 g4 q4 W4 => k.nx e4 m4 s4 F4 H4 as4 r4 (((g1.trans g2).trans g3).trans g4) q4 W4
    · exact fun e4 m4 s4 F4 H4 as4 r4 g4 q4 W4 => ⟨e4, m4, F4, as4, r4, q4, W4, (g2.trans g3).trans g4⟩
  · rintro σ2 H2 ⟨env2, μ2, F2, as2, i2, e2, W2, g2⟩
    exact k.nx env2 μ2 σ2 F2 H2 as2 (L.done env2 μ2 i2) (g1.trans g2) e2 W2
def WhileR (S : Sc) (rest : List Stmt) (R : Out → Prop) (I : Nat → En → Mu → Prop) (n : Nat) : Out → Prop
  | .next env μ => ∃ m, m < n ∧ I m env μ
  | .cont env μ => ∃ m, m < n ∧ I m env μ
  | .brk env μ => B S rest env μ R
  | .ret sv μ => R (.ret sv μ)
end
end Me

/-! Me5: comprehensions. -/
namespace Me
open PySem PySem.Spec PyProof.Rows L2
/-- the scene of a comprehension's block -/
abbrev Blk (S : Sc) (scope : Scope) (s : Shared) (H : Hp) (C : Addr) (cl : List (Str × Addr)) (fp : List Addr) : Sc := ⟨S.Γ, S.X.blk s H scope (compEnvC scope cl C S.X.env) fp, fun _ _ _ => False, S.hK, S.hg, S.hN, PassesOwn.never, S.hb, S.k, S.rm⟩
def AllB (S : Sc) (scope : Scope) (p : Sc → Prop) : Prop := ∀ s H C cl fp, p (Blk S scope s H C cl fp)
def Ts (S : Sc) (ifs : List Expr) (env : En) (μ : Mu) (PB : Bool → Mu → Prop) : Prop := PTs S.X ifs (rdT S env μ PB)
def wipeE (env : En) : List Nat → En
  | [] => env
  | v :: vs => (wipeE env vs).set v none
theorem EnvOk.wipe {Γ : Gam} {F : Hp} {as : List Ad} {env : En} {σ : L2.St} (h : EnvOk Γ F as env σ) : ∀ vs : List Nat, EnvOk Γ F as (wipeE env vs) (L2.wipe σ vs)
  | [] => h
  | v :: vs => (h.wipe vs).set0 v
theorem wipe_in {σ : L2.St} {i : Nat} : ∀ {vs : List Nat}, i ∈ vs → (L2.wipe σ vs)[i]? = (σ[i]?).map fun _ => none
  | v :: vs, h => by
    show ((L2.wipe σ vs).set v none)[i]? = _
    rw [List.getElem?_set]
    by_cases e : v = i
    · subst e
      rw [if_pos rfl, wipe_length]
      by_cases hl : v < σ.length
      · rw [if_pos hl, List.getElem?_eq_getElem hl]; rfl
      · rw [if_neg hl, List.getElem?_eq_none (by omega)]; rfl
    · rw [if_neg e]
      exact wipe_in ((List.mem_cons.mp h).resolve_left (Ne.symm e))
theorem wipe_wipe (σ : L2.St) (vs : List Nat) : L2.wipe (L2.wipe σ vs) vs = L2.wipe σ vs := by
  refine List.ext_getElem? fun i => ?_
  by_cases h : i ∈ vs
  · rw [wipe_in h, wipe_in h]
    cases σ[i]? <;> rfl
  · rw [wipe_out h]
theorem ko_blk {S : Sc} {scope : Scope} {s : Shared} {H : Hp} {C : Addr} {cl : List (Str × Addr)} {fp : List Addr} {F1 H1 : Hp} {as : List Ad} : Ko (Blk S scope s H C cl fp) F1 H1 as := fun _ _ _ _ _ _ _ _ _ z => z.elim
section
variable {S : Sc} {env : En} {μ : Mu} {a b c e elt kx vx tg iter : Expr} {ifs : List Expr} {rest : List Stmt} {R : Out → Prop} {pos p0 p1 spos : Pos} {x y : Str} {scope : Scope} {P : KD} {PB : Bool → Mu → Prop}
theorem ts_nil (k : PB true μ) : Ts S [] env μ PB := ⟨fun pins s σ H Q I ⟨F, as, a, kk⟩ => pts_nil.run pins s σ H Q I (kk true μ F H as k (Go.refl F H as) a.w)⟩
theorem ts_one (h : T S c env μ PB) : Ts S [c] env μ PB := pts_one h
/-- readings that serve every block -/
def rdTT (S : Sc) (scope : Scope) (ifs : List Expr) : TT := fun σ H Q => ∃ env m PB F as, AllB S scope (fun S' => Ts S' ifs env m PB) ∧ EnvOk S.Γ F as env σ ∧ Wd S.Γ F H as m ∧
  ∀ b μ' F' H' as', PB b μ' → Go F H as F' H' as' → Wd S.Γ F' H' as' μ' → Q b H'
def rdEE (S : Sc) (scope : Scope) (elt : Expr) : TE := fun σ H Q => ∃ env m P F as, AllB S scope (fun S' => E S' elt env m P) ∧ EnvOk S.Γ F as env σ ∧ Wd S.Γ F H as m ∧ Kv S F H as P Q
theorem pts_all (s : Shared) (H : Hp) (C : Addr) (cl : List (Str × Addr)) (fp : List Addr) : PTs (S.X.blk s H scope (compEnvC scope cl C S.X.env) fp) ifs (rdTT S scope ifs) :=
  ⟨fun pins s2 σ H2 Q J ⟨env, m, PB, F, as, h, e, w, k⟩ => (h s H C cl fp).run pins s2 σ H2 Q J ⟨F, as, ⟨e, w, ko_blk⟩, k⟩⟩
theorem pe_all (s : Shared) (H : Hp) (C : Addr) (cl : List (Str × Addr)) (fp : List Addr) : PE (S.X.blk s H scope (compEnvC scope cl C S.X.env) fp) elt (rdEE S scope elt) :=
  ⟨fun pins s2 σ H2 Q J ⟨env, m, P, F, as, h, e, w, k⟩ => (h s H C cl fp).run pins s2 σ H2 Q J ⟨F, as, ⟨e, w, ko_blk⟩, k⟩⟩
/-- a comprehension by an invariant -/
structure Comp (S : Sc) (scope : Scope) (rel : D → En → En → Prop) (vs : List Nat) (elt : Expr) (ifs : List Expr) (env : En) (I : Nat → List D → Mu → Prop) (ds : List D) (Sx : Mu → Prop) (μ1 : Mu) (fin : List D → Mu → Prop) : Prop where
  size : ds.length ≤ sizeLine
  start : I 0 [] μ1
  stay : ∀ k acc μ, I k acc μ → Sx μ
  turn : ∀ k d acc m, ds[k]? = some d → I k acc m → ∃ env2 PB, rel d (wipeE env vs) env2 ∧ AllB S scope (fun S' => Ts S' ifs env2 m PB) ∧
    ∀ q m1, PB q m1 → (q = true → AllB S scope fun S' => E S' elt env2 m1 fun d' m2 => I (k + 1) (acc ++ [d']) m2) ∧ (q = false → I (k + 1) acc m1)
  done : ∀ acc m, I ds.length acc m → fin acc m
theorem lc_read {rel : D → En → En → Prop} {vs : List Nat} (fin : List D → Mu → Prop) {H : Hp} {σ : L2.St} {Q : VK} {F : Hp} {as : List Ad}
    (a : At S env μ σ H F as) {ds : List D} {Sx : Mu → Prop} {μ1 : Mu} {J : It} {F1 H1 : Hp} {as1 : List Ad} {I : Nat → List D → Mu → Prop} (L : Comp S scope rel vs elt ifs env I ds Sx μ1 fin) (g1 : Go F H as F1 H1 as1) (W1 : Wd S.Γ F1 H1 as1 μ1) (iw : IsWalk S ds Sx F1 H1 as1 J)
    (k : ∀ acc m D0 vs F2 H2 as2, fin acc m → H2 D0 = none → Wd S.Γ F2 H2 as2 m → Go F H as F2 H2 as2 → DVs S.Γ F2 as2 vs acc → Q (.ref D0) (upd H2 D0 (.lst vs))) :
    ∀ D0, H1 D0 = none → ∃ W : Nat → Nat → Hp → Prop, (∃ m, W 0 m (upd H1 D0 (.lst []))) ∧ ∀ i m H, W i m H → (J.stop i H ∧ Q (.ref D0) H) ∨ (J.go i H ∧ ∃ Nx : Hp → Prop, (∀ H', Nx H' → ∃ m', m' < m ∧ W (i + 1) m' H') ∧ ∀ x H', J.yld i H x H' →
      rdG S rel vs x (wipe σ vs) H' fun σ2 H2 => wipe σ2 vs = wipe σ vs ∧ rdTT S scope ifs σ2 H2 fun b H3 => if b = true then rdEE S scope elt σ2 H3 fun y H4 => ∃ acc, H4 D0 = some (.lst acc) ∧ acc.length < sizeLine ∧ Nx (upd H4 D0 (.lst (acc ++ [y]))) else Nx H3) := by
  intro D0 nD
  obtain ⟨G, Y, w, hG, hY⟩ := iw
  refine lc_it (g := rdG S rel vs) (tt := rdTT S scope ifs) (te := rdEE S scope elt) w (fun k H2 => ∃ acc m F2 as2 ws, I k acc m ∧ acc.length ≤ k ∧ Wd S.Γ F2 H2 as2 m ∧ Go F1 H1 as1 F2 H2 as2 ∧ H2 D0 = some (.lst ws) ∧ F2 D0 = none ∧ D0 ∉ ads as2 ∧ DVs S.Γ F2 as2 ws acc) ?_ ?_ ?_ ?_
  · obtain ⟨f1, f2⟩ := W1.nofree nD
    exact ⟨[], μ1, F1, as1, [], L.start, Nat.le_refl _, W1.off f1 f2, (Go.refl _ _ _).off nD, upd_same, f1, f2, .nil⟩
  · rintro k2 H2 _ ⟨acc, m, F2, as2, ws, i2, l2, W2, g2, hD, nF, na, dv⟩
    exact hG F2 H2 as2 m g2 W2 (L.stay k2 acc m i2)
  · rintro k2 v H2 H' hk ⟨acc, m, F2, as2, ws, i2, l2, W2, g2, hD, nF, na, dv⟩ y
    obtain ⟨F3, d, hd1, g3, W3, dvd⟩ := hY k2 F2 H2 as2 m v H' g2 W2 (L.stay k2 acc m i2) y hk
    obtain ⟨hD3, nF3, na3⟩ := g3.apart hD (fun xs z => nomatch z) nF na
    obtain ⟨env2, PB, r2, ht, hh⟩ := L.turn k2 d acc m hd1 i2
    refine ⟨d, wipeE env vs, env2, F3, as2, r2, dvd, W3.sub, (((a.e.mono g1).mono g2).mono g3).wipe vs, fun σ2 e2 hw => ⟨by rw [hw, wipe_wipe], env2, m, PB, F3, as2, ht, e2, W3, fun q m1 F4 H4 as4 p4 g4 W4 => ?_⟩⟩
    obtain ⟨hD4, nF4, na4⟩ := g4.apart hD3 (fun xs z => nomatch z) nF3 na3
    obtain ⟨hT, hF⟩ := hh q m1 p4
    cases q with
    | true =>
      refine ⟨env2, m1, _, F4, as4, hT rfl, e2.mono g4, W4, fun d' m2 u F5 H5 as5 i3 g5 W5 r5 => ?_⟩
      obtain ⟨hD5, nF5, na5⟩ := g5.apart hD4 (fun xs z => nomatch z) nF4 na4
      refine ⟨ws, hD5, ?_, acc ++ [d'], m2, F5, as5, ws ++ [u], i3, ?_, W5.off nF5 na5, (((g2.trans g3).trans g4).trans g5).off nD, upd_same, nF5, na5, ?_⟩
      · have := L.size; rw [dv.length]; omega
      · rw [List.length_append]
        show acc.length + 1 ≤ k2 + 1
        omega
      · exact (((dv.mono g3).mono g4).mono g5).append (.cons r5 .nil)
    | false => exact ⟨acc, m1, F4, as4, ws, hF rfl, by omega, W4, (g2.trans g3).trans g4, hD4, nF4, na4, (dv.mono g3).mono g4⟩
  · rintro H2 ⟨acc, m, F2, as2, ws, i2, l2, W2, g2, hD, nF, na, dv⟩
    have z := k acc m D0 ws F2 (Me.era H2 D0) as2 (L.done acc m i2) era_same (W2.era nF na) (g1.trans (g2.era nD)) dv
    rw [era_upd hD] at z
    exact z
/-- a new list, stable -/
def FinL (P : KD) : List D → Mu → Prop := fun acc m => P (.lst acc) m
def FinC (P : KD) : List D → Mu → Prop := fun acc m => P (.cell m.length) (m ++ [.lst acc])
theorem fin_l {F H : Hp} {as : List Ad} {Q : VK} (k : Kv S F H as P Q) : ∀ acc m D0 vs F2 H2 as2, FinL P acc m → H2 D0 = none → Wd S.Γ F2 H2 as2 m → Go F H as F2 H2 as2 → DVs S.Γ F2 as2 vs acc → Q (.ref D0) (upd H2 D0 (.lst vs)) := by
  intro acc m D0 vs F2 H2 as2 f n W2 g2 dv
  obtain ⟨W3, g3⟩ := W2.addF (o := .lst vs) n
  exact k _ m _ _ _ _ f (g2.trans g3) W3 (.lst upd_same (dv.mono g3))
theorem e_lcG {rel : D → En → En → Prop} (own : List (Str × Nat)) (fin : List D → Mu → Prop) (hfin : ∀ {F H : Hp} {as : List Ad} {Q : VK}, Kv S F H as P Q → ∀ acc m D0 vs F2 H2 as2, fin acc m → H2 D0 = none → Wd S.Γ F2 H2 as2 m → Go F H as F2 H2 as2 → DVs S.Γ F2 as2 vs acc → Q (.ref D0) (upd H2 D0 (.lst vs)))
    (hc : S.X.calm = true) (ok : BlkOk S.X.N S.X.env.scope scope own) (hg : AllB S scope fun S' => Tg S' tg rel (own.map fun x : Str × Nat => x.2))
    (h : Iter S tg iter env μ fun ds Sx μ1 => ∃ I, Comp S scope rel (own.map fun x : Str × Nat => x.2) elt ifs env I ds Sx μ1 fin) (hf : ∀ x, foldedSetIterable iter S.X.env x = pure x := by intro _; rfl) : E S (.ListComp elt [⟨tg, iter, ifs, 0⟩] scope pos) env μ P := by
  refine PE.imp (pe_lc (own := own) (g := rdG S rel (own.map fun x : Str × Nat => x.2)) (tt := rdTT S scope ifs) (te := rdEE S scope elt) hc S.hN h ok hg pts_all pe_all hf) fun σ H Q ⟨F, as, a, k⟩ => ?_
  exact ⟨F, as, a, fun ds Sx μ1 J F1 H1 as1 ⟨I, L⟩ g1 W1 iw => lc_read fin a L g1 W1 iw (hfin k)⟩
def NameOk (S : Sc) (scope : Scope) (x : Str) : Prop := AllB S scope fun S' => Loc S'.X.env.scope x ∧ (S'.X.fn x = true ∨ S'.X.env.scope.names.lookup x = some .local)
theorem e_lc (i : Nat) (hc : S.X.calm = true) (ok : BlkOk S.X.N S.X.env.scope scope [(x, i)])
    (h : Iter S (.Name x p1) iter env μ fun ds Sx μ1 => ∃ I, Comp S scope (rName i) [i] elt ifs env I ds Sx μ1 (FinL P))
    (hn : S.X.N[i]? = some x := by rfl) (hx : NameOk S scope x := by exact fun _ _ _ _ _ => ⟨by first | exact .inl rfl | exact .inr rfl, by first | exact .inl rfl | exact .inr rfl⟩)
    (hf : ∀ x, foldedSetIterable iter S.X.env x = pure x := by intro _; rfl) : E S (.ListComp elt [⟨.Name x p1, iter, ifs, 0⟩] scope pos) env μ P :=
  e_lcG (rel := rName i) [(x, i)] (FinL P) fin_l hc ok (fun s H C cl fp => g_name (S := Blk S scope s H C cl fp) i hn (hx s H C cl fp).1 (hx s H C cl fp).2) h hf
theorem take_snoc {α : Type} {l : List α} {i : Nat} {x : α} (h : l[i]? = some x) : l.take (i + 1) = l.take i ++ [x] := by rw [List.take_add_one, h]; rfl
/-- a comprehension that changes nothing -/
theorem Comp.pure {rel : D → En → En → Prop} {vs : List Nat} {ds : List D} {Sx : Mu → Prop} {μ1 : Mu} {fin : List D → Mu → Prop} (g : D → Option D) (size : ds.length ≤ sizeLine) (stay : Sx μ1)
    (turn : ∀ (k : Nat) d, ds[k]? = some d → ∃ env2 q, rel d (wipeE env vs) env2 ∧ AllB S scope (fun S' => Ts S' ifs env2 μ1 fun b m => b = q ∧ m = μ1) ∧
      (q = true → ∃ d', g d = some d' ∧ AllB S scope fun S' => E S' elt env2 μ1 fun x m => x = d' ∧ m = μ1) ∧ (q = false → g d = none))
    (done : fin (ds.filterMap g) μ1) : ∃ I, Comp S scope rel vs elt ifs env I ds Sx μ1 fin := by
  refine ⟨fun k acc m => m = μ1 ∧ acc = (ds.take k).filterMap g, size, ⟨rfl, rfl⟩, fun k acc m ⟨e, _⟩ => e ▸ stay, fun k d acc m hd ⟨e1, e2⟩ => ?_, fun acc m ⟨e1, e2⟩ => ?_⟩
  · subst e1 e2
    obtain ⟨env2, q, h1, h2, h3, h4⟩ := turn k d hd
    refine ⟨env2, _, h1, h2, fun b m1 ⟨e1, e2⟩ => ?_⟩
    subst e1 e2
    refine ⟨fun z => ?_, fun z => ⟨rfl, ?_⟩⟩
    · obtain ⟨d', e, he⟩ := h3 z
      refine fun s H C cl fp => (he s H C cl fp).imp fun x m ⟨e1, e2⟩ => ⟨e2, ?_⟩
      rw [take_snoc hd, List.filterMap_append, e1]
      simp [e]
    · rw [take_snoc hd, List.filterMap_append]
      simp [h4 z]
  · rw [e1, e2, List.take_length]
    exact done
/-- .. without a test -/
theorem Comp.map {rel : D → En → En → Prop} {vs : List Nat} {ds : List D} {Sx : Mu → Prop} {μ1 : Mu} {fin : List D → Mu → Prop} (g : D → D) (size : ds.length ≤ sizeLine) (stay : Sx μ1)
    (turn : ∀ (k : Nat) d, ds[k]? = some d → ∃ env2, rel d (wipeE env vs) env2 ∧ AllB S scope fun S' => E S' elt env2 μ1 fun x m => x = g d ∧ m = μ1)
    (done : fin (ds.map g) μ1) : ∃ I, Comp S scope rel vs elt [] env I ds Sx μ1 fin := by
  refine Comp.pure (fun d => some (g d)) size stay (fun k d hd => ?_) (by rw [List.filterMap_eq_map']; exact done)
  obtain ⟨env2, h1, h2⟩ := turn k d hd
  exact ⟨env2, true, h1, fun s H C cl fp => ts_nil ⟨rfl, rfl⟩, fun _ => ⟨_, rfl, h2⟩, fun z => nomatch z⟩
theorem filt_eq (p : D → Bool) : ∀ ds : List D, (ds.filterMap fun d => if p d = true then some d else none) = ds.filter p
  | [] => rfl
  | d :: ds => by
    rw [List.filterMap_cons, List.filter_cons]
    by_cases h : p d = true
    · simp only [if_pos h, filt_eq p ds]
    · simp only [if_neg h, filt_eq p ds]
/-- .. that picks -/
theorem Comp.filt {rel : D → En → En → Prop} {vs : List Nat} {ds : List D} {Sx : Mu → Prop} {μ1 : Mu} {fin : List D → Mu → Prop} (p : D → Bool) (size : ds.length ≤ sizeLine) (stay : Sx μ1)
    (turn : ∀ (k : Nat) d, ds[k]? = some d → ∃ env2, rel d (wipeE env vs) env2 ∧ AllB S scope (fun S' => T S' c env2 μ1 fun b m => b = p d ∧ m = μ1) ∧ (p d = true → AllB S scope fun S' => E S' elt env2 μ1 fun x m => x = d ∧ m = μ1))
    (done : fin (ds.filter p) μ1) : ∃ I, Comp S scope rel vs elt [c] env I ds Sx μ1 fin := by
  refine Comp.pure (fun d => if p d = true then some d else none) size stay (fun k d hd => ?_) (by rw [filt_eq]; exact done)
  obtain ⟨env2, h1, h2, h3⟩ := turn k d hd
  exact ⟨env2, p d, h1, fun s H C cl fp => ts_one (h2 s H C cl fp), fun z => ⟨_, if_pos z, h3 z⟩, fun z => if_neg (by rw [z]; exact Bool.false_ne_true)⟩
end
end Me

/-! Me6: operations on values. -/
namespace Me
open PySem PySem.Spec PyProof.Rows L2
mutual
/-- as the library's data -/
def D.py : D → PyData
  | .non => .none
  | .bl b => .bool b
  | .int i => .int i
  | .str x => .str x
  | .lst ds => .list (D.pys ds)
  | .tup ds => .tuple (D.pys ds)
  | .dct _ _ => .dict []
  | .ins _ _ => .none
  | .err _ _ => .none
  | .ty _ => .none
  | .tpx xs => .tuple (xs.map PyData.str)
  | .cls _ => .none
  | .cell _ => .none
def D.pys : List D → List PyData
  | [] => []
  | d :: ds => d.py :: D.pys ds
end
mutual
def D.isPy : D → Bool
  | .non => true
  | .bl _ => true
  | .int _ => true
  | .str _ => true
  | .lst ds => D.isPys ds
  | .tup ds => D.isPys ds
  | .dct t kvs => !t && kvs.isEmpty
  | .ins _ _ => false
  | .err _ _ => false
  | .ty _ => false
  | .tpx _ => true
  | .cls _ => false
  | .cell _ => false
def D.isPys : List D → Bool
  | [] => true
  | d :: ds => d.isPy && D.isPys ds
end
theorem pys_map : ∀ ds : List D, D.pys ds = ds.map D.py
  | [] => rfl
  | d :: ds => by rw [D.pys, pys_map ds]; rfl
section
variable {Γ : Gam} {F H : Hp} {as : List Ad} {μ : Mu} {v : V} {d : D} {ds : List D} {vs : List V}
theorem dpAll_strs (K : PySem.W.Frag) : ∀ xs : List Str, DpAll K H (xs.map V.str) (xs.map PyData.str)
  | [] => .nil
  | x :: xs => .cons (.str x) (dpAll_strs K xs)
mutual
theorem DV.dp (K : PySem.W.Frag) (s : Same F H) {v : V} {d : D} (h : DV Γ F as v d) (hp : d.isPy = true) (c : d.py.canLay0 = true) : Dp K H v d.py := by
  cases h with
  | non => exact .non
  | bl b => exact .bl b
  | int i => exact .int i
  | str x => exact .str x
  | lst h1 h2 => exact .lst (.inl (.inl (s _ _ h1))) (DVs.dp K s h2 (by simpa [D.isPy] using hp) (by simpa [D.py, PyData.canLay0] using c))
  | tup h1 h2 => exact .tup (.inl (.inl (s _ _ h1))) (DVs.dp K s h2 (by simpa [D.isPy] using hp) (by simpa [D.py, PyData.canLay0] using c))
  | dctK h1 h2 => simp [D.py, PyData.canLay0] at c
  | dctT h1 h2 => simp [D.py, PyData.canLay0] at c
  | ins _ _ _ => simp [D.isPy] at hp
  | err0 _ _ => simp [D.isPy] at hp
  | ty _ => simp [D.isPy] at hp
  | tpx h1 _ => exact .tup (.inl (.inr ⟨_, s _ _ h1⟩)) (dpAll_strs K _)
  | cls _ => simp [D.isPy] at hp
  | err1 _ _ _ _ => simp [D.isPy] at hp
  | cell _ => simp [D.isPy] at hp
theorem DVs.dp (K : PySem.W.Frag) (s : Same F H) {vs : List V} {ds : List D} (h : DVs Γ F as vs ds) (hp : D.isPys ds = true) (c : PyData.canLayAll0 (D.pys ds) = true) : DpAll K H vs (D.pys ds) := by
  cases h with
  | nil => exact .nil
  | cons h1 h2 =>
    simp only [D.isPys, Bool.and_eq_true] at hp
    simp only [D.pys, PyData.canLayAll0, Bool.and_eq_true] at c
    exact .cons (DV.dp K s h1 hp.1 c.1) (DVs.dp K s h2 hp.2 c.2)
end
mutual
theorem DV.dpn (K : PySem.W.Frag) (s : Same F H) {v : V} {d : D} (h : DV Γ F as v d) (hp : d.isPy = true) (c : d.py.hasDict = false) : Dp K H v d.py := by
  cases h with
  | non => exact .non
  | bl b => exact .bl b
  | int i => exact .int i
  | str x => exact .str x
  | lst h1 h2 => exact .lst (.inl (.inl (s _ _ h1))) (DVs.dpn K s h2 (by simpa [D.isPy] using hp) (by simpa [D.py, PyData.hasDict] using c))
  | tup h1 h2 => exact .tup (.inl (.inl (s _ _ h1))) (DVs.dpn K s h2 (by simpa [D.isPy] using hp) (by simpa [D.py, PyData.hasDict] using c))
  | dctK h1 h2 => simp [D.py, PyData.hasDict] at c
  | dctT h1 h2 => simp [D.py, PyData.hasDict] at c
  | ins _ _ _ => simp [D.isPy] at hp
  | err0 _ _ => simp [D.isPy] at hp
  | ty _ => simp [D.isPy] at hp
  | tpx h1 _ => exact .tup (.inl (.inr ⟨_, s _ _ h1⟩)) (dpAll_strs K _)
  | cls _ => simp [D.isPy] at hp
  | err1 _ _ _ _ => simp [D.isPy] at hp
  | cell _ => simp [D.isPy] at hp
theorem DVs.dpn (K : PySem.W.Frag) (s : Same F H) {vs : List V} {ds : List D} (h : DVs Γ F as vs ds) (hp : D.isPys ds = true) (c : PyData.hasDictAll (D.pys ds) = false) : DpAll K H vs (D.pys ds) := by
  cases h with
  | nil => exact .nil
  | cons h1 h2 =>
    simp only [D.isPys, Bool.and_eq_true] at hp
    simp only [D.pys, PyData.hasDictAll, Bool.or_eq_false_iff] at c
    exact .cons (DV.dpn K s h1 hp.1 c.1) (DVs.dpn K s h2 hp.2 c.2)
end
/-- what a value is now: a list that is a cell's is opened -/
theorem Wd.dp (K : PySem.W.Frag) (W : Wd Γ F H as μ) {v : V} {d d' : D} (h : DV Γ F as v d) (e : vw μ d = d') (hp : d'.isPy = true) (c : d'.py.canLay0 = true) : Dp K H v d'.py := by
  by_cases hc : ∃ j, d = .cell j
  · obtain ⟨j, rfl⟩ := hc
    match hm : μ[j]? with
    | none => simp only [vw, hm] at e; subst e; simp [D.isPy] at hp
    | some .dead => simp only [vw, hm] at e; subst e; simp [D.isPy] at hp
    | some (.gd _ _) => simp only [vw, hm] at e; subst e; simp [D.isPy] at hp
    | some (.ts _ _ _) => simp only [vw, hm] at e; subst e; simp [D.isPy] at hp
    | some (.gl _ _ _) => simp only [vw, hm] at e; subst e; simp [D.isPy] at hp
    | some (.ins _ _) => simp only [vw, hm] at e; subst e; simp [D.isPy] at hp
    | some (.dct _ _ _) => simp only [vw, hm] at e; subst e; simp [D.py, PyData.canLay0] at c
    | some (.lst ds) =>
      obtain ⟨a, vs, rfl, h1, h2⟩ := W.lst (ds := ds) h (by simp only [vw, hm])
      simp only [vw, hm] at e
      subst e
      exact .lst (.inl (.inl h1)) (DVs.dp K W.sub h2 (by simpa [D.isPy] using hp) (by simpa [D.py, PyData.canLay0] using c))
  · have : vw μ d = d := by
      cases d <;> first | rfl | exact absurd ⟨_, rfl⟩ hc
    rw [this] at e
    subst e
    exact h.dp K W.sub hp c
theorem Wd.dpn (K : PySem.W.Frag) (W : Wd Γ F H as μ) {v : V} {d d' : D} (h : DV Γ F as v d) (e : vw μ d = d') (hp : d'.isPy = true) (c : d'.py.hasDict = false) : Dp K H v d'.py := by
  by_cases hc : ∃ j, d = .cell j
  · obtain ⟨j, rfl⟩ := hc
    match hm : μ[j]? with
    | none => simp only [vw, hm] at e; subst e; simp [D.isPy] at hp
    | some .dead => simp only [vw, hm] at e; subst e; simp [D.isPy] at hp
    | some (.gd _ _) => simp only [vw, hm] at e; subst e; simp [D.isPy] at hp
    | some (.ts _ _ _) => simp only [vw, hm] at e; subst e; simp [D.isPy] at hp
    | some (.gl _ _ _) => simp only [vw, hm] at e; subst e; simp [D.isPy] at hp
    | some (.ins _ _) => simp only [vw, hm] at e; subst e; simp [D.isPy] at hp
    | some (.dct _ _ _) => simp only [vw, hm] at e; subst e; simp [D.py, PyData.hasDict] at c
    | some (.lst ds) =>
      obtain ⟨a, vs, rfl, h1, h2⟩ := W.lst (ds := ds) h (by simp only [vw, hm])
      simp only [vw, hm] at e
      subst e
      exact .lst (.inl (.inl h1)) (DVs.dpn K W.sub h2 (by simpa [D.isPy] using hp) (by simpa [D.py, PyData.hasDict] using c))
  · have : vw μ d = d := by
      cases d <;> first | rfl | exact absurd ⟨_, rfl⟩ hc
    rw [this] at e
    subst e
    exact h.dpn K W.sub hp c
end

section
variable {S : Sc} {env : En} {μ : Mu} {P : KD} {d d1 d2 : D} {i j : Int} {x y : Str} {ds es : List D}
/-- a new list, a new tuple -/
theorem Kv.newL {F H : Hp} {as : List Ad} {Q : VK} (k : Kv S F H as P Q) (W : Wd S.Γ F H as μ) {p : Addr} {vs : List V} (n : H p = none) (h : P (.lst ds) μ) (dv : DVs S.Γ F as vs ds) : Q (.ref p) (upd H p (.lst vs)) := by
  obtain ⟨W3, g3⟩ := W.addF (o := .lst vs) n
  exact k _ _ _ _ _ _ h g3 W3 (.lst upd_same (dv.mono g3))
theorem Kv.newC {F H : Hp} {as : List Ad} {Q : VK} (k : Kv S F H as P Q) (W : Wd S.Γ F H as μ) {p : Addr} {vs : List V} (n : H p = none) (h : P (.cell μ.length) (μ ++ [.lst ds])) (dv : DVs S.Γ F as vs ds) : Q (.ref p) (upd H p (.lst vs)) := by
  obtain ⟨W3, g3⟩ := W.addO (o := .lst vs) (c := .lst ds) n fun nF => ⟨rfl, nF, vs, upd_same, dv.to (Same.refl F) (fun j hj ad e => by rw [List.getElem?_append_left (List.getElem?_eq_some_iff.mp e).1]; exact e)⟩
  exact k _ _ _ _ _ _ h g3 W3 (.cell (ad := ⟨p, none⟩) (W.last _))
theorem Kv.newT {F H : Hp} {as : List Ad} {Q : VK} (k : Kv S F H as P Q) (W : Wd S.Γ F H as μ) {p : Addr} {vs : List V} (n : H p = none) (h : P (.tup ds) μ) (dv : DVs S.Γ F as vs ds) : Q (.ref p) (upd H p (.tup vs)) := by
  obtain ⟨W3, g3⟩ := W.addF (o := .tup vs) n
  exact k _ _ _ _ _ _ h g3 W3 (.tup upd_same (dv.mono g3))
theorem Kv.now {F H : Hp} {as : List Ad} {Q : VK} {v : V} (k : Kv S F H as P Q) (W : Wd S.Γ F H as μ) (h : P d μ) (r : DV S.Γ F as v d) : Q v H := k d μ v F H as h (Go.refl _ _ _) W r
/-- a list may become a cell or stay -/
inductive Nl (P : KD) (ds : List D) (μ : Mu) : Prop
  | l : P (.lst ds) μ → Nl P ds μ
  | c : P (.cell μ.length) (μ ++ [.lst ds]) → Nl P ds μ
theorem Kv.new {F H : Hp} {as : List Ad} {Q : VK} (k : Kv S F H as P Q) (W : Wd S.Γ F H as μ) {p : Addr} {vs : List V} (n : H p = none) (h : Nl P ds μ) (dv : DVs S.Γ F as vs ds) : Q (.ref p) (upd H p (.lst vs)) := by
  cases h with
  | l h => exact k.newL W n h dv
  | c h => exact k.newC W n h dv

/-! ### ints -/
theorem o_add (k : P (.int (i + j)) μ) : Op2 S (binaryOp .Add) (.int i) (.int j) env μ P :=
  Op2.of op_add fun F H as x y Q W h1 h2 kk => by cases h1; cases h2; exact ⟨_, _, rfl, rfl, kk.now W k (.int _)⟩
theorem o_sub (k : P (.int (i - j)) μ) : Op2 S (binaryOp .Sub) (.int i) (.int j) env μ P :=
  Op2.of op_sub fun F H as x y Q W h1 h2 kk => by cases h1; cases h2; exact ⟨_, _, rfl, rfl, kk.now W k (.int _)⟩
theorem o_mul (hm : CMul i j) (k : P (.int (i * j)) μ) : Op2 S (binaryOp .Mult) (.int i) (.int j) env μ P :=
  Op2.of op_mul fun F H as x y Q W h1 h2 kk => by cases h1; cases h2; exact ⟨_, _, rfl, rfl, hm, kk.now W k (.int _)⟩
theorem o_fdiv (hm : 0 < j ∧ j < 1073741824) (k : P (.int (i / j)) μ) : Op2 S (binaryOp .FloorDiv) (.int i) (.int j) env μ P :=
  Op2.of op_fdiv fun F H as x y Q W h1 h2 kk => by cases h1; cases h2; exact ⟨_, _, rfl, rfl, hm, kk.now W k (.int _)⟩
theorem o_mod (hm : 0 < j) (k : P (.int (i % j)) μ) : Op2 S (binaryOp .Mod) (.int i) (.int j) env μ P :=
  Op2.of op_mod fun F H as x y Q W h1 h2 kk => by cases h1; cases h2; exact ⟨_, _, rfl, rfl, hm, kk.now W k (.int _)⟩
theorem o_pow (hm : 0 ≤ j ∧ j ≤ 1000000 ∧ i.natAbs < 2 ^ 64) (k : P (.int (i ^ j.toNat)) μ) : Op2 S (binaryOp .Pow) (.int i) (.int j) env μ P :=
  Op2.of op_pow fun F H as x y Q W h1 h2 kk => by cases h1; cases h2; exact ⟨_, _, rfl, rfl, hm, kk.now W k (.int _)⟩
theorem o_lt (k : P (.bl (decide (i < j))) μ) : Op2 S (compareOp .Lt) (.int i) (.int j) env μ P :=
  Op2.of op_lt fun F H as x y Q W h1 h2 kk => by cases h1; cases h2; exact ⟨_, _, rfl, rfl, kk.now W k (.bl _)⟩
theorem o_le (k : P (.bl (decide (i ≤ j))) μ) : Op2 S (compareOp .LtE) (.int i) (.int j) env μ P :=
  Op2.of op_le fun F H as x y Q W h1 h2 kk => by cases h1; cases h2; exact ⟨_, _, rfl, rfl, kk.now W k (.bl _)⟩
theorem o_gt (k : P (.bl (decide (j < i))) μ) : Op2 S (compareOp .Gt) (.int i) (.int j) env μ P :=
  Op2.of op_gt fun F H as x y Q W h1 h2 kk => by cases h1; cases h2; exact ⟨_, _, rfl, rfl, kk.now W k (.bl _)⟩
theorem o_ge (k : P (.bl (decide (j ≤ i))) μ) : Op2 S (compareOp .GtE) (.int i) (.int j) env μ P :=
  Op2.of op_ge fun F H as x y Q W h1 h2 kk => by cases h1; cases h2; exact ⟨_, _, rfl, rfl, kk.now W k (.bl _)⟩
theorem o_neg (k : P (.int (-i)) μ) : Op1 S (unaryOp .USub) (.int i) env μ P :=
  Op1.of un_neg fun F H as x Q W h1 kk => by cases h1; exact ⟨_, rfl, kk.now W k (.int _)⟩
/-! ### texts, lists, tuples -/
theorem o_cat (hz : x.length + y.length ≤ sizeLine) (k : P (.str (x ++ y)) μ) : Op2 S (binaryOp .Add) (.str x) (.str y) env μ P :=
  Op2.of op_add_str fun F H as x y Q W h1 h2 kk => by cases h1; cases h2; exact ⟨_, _, rfl, rfl, hz, kk.now W k (.str _)⟩
theorem o_addL (h1 : vw μ d1 = .lst ds) (h2 : vw μ d2 = .lst es) (hz : ds.length + es.length ≤ sizeLine) (k : Nl P (ds ++ es) μ) : Op2 S (binaryOp .Add) d1 d2 env μ P :=
  Op2.of op_cat fun F H as x y Q W r1 r2 kk => by
    obtain ⟨a, vs, rfl, e1, q1⟩ := W.lst r1 h1
    obtain ⟨b, ws, rfl, e2, q2⟩ := W.lst r2 h2
    exact ⟨a, b, vs, ws, rfl, rfl, e1, e2, by rw [q1.length, q2.length]; exact hz, fun p np => kk.new W np k (q1.append q2)⟩
theorem o_addT (hz : ds.length + es.length ≤ sizeLine) (k : P (.tup (ds ++ es)) μ) : Op2 S (binaryOp .Add) (.tup ds) (.tup es) env μ P :=
  Op2.of op_catA fun F H as x y Q W r1 r2 kk => by
    obtain ⟨a, vs, rfl, e1, q1⟩ := r1.tupV
    obtain ⟨b, ws, rfl, e2, q2⟩ := r2.tupV
    refine ⟨_, _, _, _, rfl, rfl, .inl (.inl (W.sub _ _ e1)), .inl (.inl (W.sub _ _ e2)), by rw [q1.length, q2.length]; exact hz, fun z => ?_, fun _ z => ?_, fun _ _ p np => kk.newT W np k (q1.append q2)⟩
    · subst z
      cases q1
      exact kk.now W k (.tup e2 q2)
    · subst z
      cases q2
      rw [List.append_nil] at k
      exact kk.now W k (.tup e1 q1)
def rMulS : R2 := fun x y H Q => ∃ a n, x = .str a ∧ y = .int n ∧ PySem.MulOk a n ∧ Q (.str (PySem.Txt.mul a n)) H
theorem op_mulS {X : Cx} : OpR X (binaryOp .Mult) rMulS := by
  intro pins s σ H x y v u Q I rx ry h
  obtain ⟨a, n, rfl, rfl, hok, q⟩ := h
  obtain ⟨t, rfl⟩ := rx
  obtain ⟨t', rfl⟩ := ry
  exact PySem.SB.mul hok fun t2 k => ⟨.str _, H, I.tok _, ⟨t2, rfl⟩, q⟩
theorem o_mulS (hz : PySem.MulOk x i) (k : P (.str (PySem.Txt.mul x i)) μ) : Op2 S (binaryOp .Mult) (.str x) (.int i) env μ P :=
  Op2.of op_mulS fun F H as x y Q W h1 h2 kk => by cases h1; cases h2; exact ⟨_, _, rfl, rfl, hz, kk.now W k (.str _)⟩
theorem o_mulL (h1 : vw μ d1 = .lst ds) (hz : -(2 ^ 63) ≤ i ∧ i < 2 ^ 63 ∧ ds.length * i.toNat ≤ sizeLine) (k : Nl P (List.replicate i.toNat ds).flatten μ) : Op2 S (binaryOp .Mult) d1 (.int i) env μ P :=
  Op2.of op_rep fun F H as x y Q W r1 r2 kk => by
    obtain ⟨a, vs, rfl, e1, q1⟩ := W.lst r1 h1
    cases r2
    exact ⟨a, _, vs, rfl, rfl, e1, hz.1, hz.2.1, by rw [q1.length]; exact hz.2.2, fun p np => kk.new W np k (q1.rep _)⟩
/-! ### equality of data -/
@[reducible] def EqOk (d e : D) : Prop := d.isPy = true ∧ e.isPy = true ∧ SeqAt.shaped d.py = true ∧ SeqAt.shaped e.py = true
theorem lay_of {d : PyData} (h : SeqAt.shaped d = true) : d.canLay0 = true := by
  unfold SeqAt.shaped at h
  simp only [Bool.and_eq_true] at h
  exact h.1
def eqv (d e : D) : Bool := PyData.eqv d.py e.py
theorem o_eq {e1 e2 : D} (h1 : vw μ d1 = e1) (h2 : vw μ d2 = e2) (hk : EqOk e1 e2) (kk : P (.bl (eqv e1 e2)) μ) : Op2 S (compareOp .Eq) d1 d2 env μ P :=
  Op2.of (op_eqD (by have := S.hu; omega)) fun F H as x y Q W r1 r2 kq => ⟨e1.py, e2.py, W.dp _ r1 h1 hk.1 (lay_of hk.2.2.1), W.dp _ r2 h2 hk.2.1 (lay_of hk.2.2.2), hk.2.2.1, hk.2.2.2, kq.now W kk (.bl _)⟩
theorem o_ne {e1 e2 : D} (h1 : vw μ d1 = e1) (h2 : vw μ d2 = e2) (hk : EqOk e1 e2) (kk : P (.bl (!eqv e1 e2)) μ) : Op2 S (compareOp .NotEq) d1 d2 env μ P :=
  Op2.of (op_neD (by have := S.hu; omega)) fun F H as x y Q W r1 r2 kq => ⟨e1.py, e2.py, W.dp _ r1 h1 hk.1 (lay_of hk.2.2.1), W.dp _ r2 h2 hk.2.1 (lay_of hk.2.2.2), hk.2.2.1, hk.2.2.2, kq.now W kk (.bl _)⟩
theorem o_eqI (k : P (.bl (decide (i = j))) μ) : Op2 S (compareOp .Eq) (.int i) (.int j) env μ P :=
  Op2.of op_eq fun F H as x y Q W h1 h2 kk => by
    cases h1; cases h2
    have e : decide (V.int i = V.int j) = decide (i = j) := by simp
    exact ⟨rfl, by rw [e]; exact kk.now W k (.bl _)⟩
theorem o_neI (k : P (.bl (!decide (i = j))) μ) : Op2 S (compareOp .NotEq) (.int i) (.int j) env μ P :=
  Op2.of op_ne fun F H as x y Q W h1 h2 kk => by
    cases h1; cases h2
    have e : decide (V.int i = V.int j) = decide (i = j) := by simp
    exact ⟨rfl, by rw [e]; exact kk.now W k (.bl _)⟩
theorem o_eqS (k : P (.bl (decide (x = y))) μ) : Op2 S (compareOp .Eq) (.str x) (.str y) env μ P :=
  Op2.of op_eq fun F H as u v Q W h1 h2 kk => by
    cases h1; cases h2
    have e : decide (V.str x = V.str y) = decide (x = y) := by simp
    exact ⟨rfl, by rw [e]; exact kk.now W k (.bl _)⟩
theorem o_neS (k : P (.bl (!decide (x = y))) μ) : Op2 S (compareOp .NotEq) (.str x) (.str y) env μ P :=
  Op2.of op_ne fun F H as u v Q W h1 h2 kk => by
    cases h1; cases h2
    have e : decide (V.str x = V.str y) = decide (x = y) := by simp
    exact ⟨rfl, by rw [e]; exact kk.now W k (.bl _)⟩
/-! ### is None -/
def isNone : D → Bool
  | .non => true
  | _ => false
theorem isNone_v {Γ : Gam} {F : Hp} {as : List Ad} {v : V} (h : DV Γ F as v d) : decide (v = .non) = isNone d := by cases h <;> rfl
theorem o_isN (k : P (.bl (isNone d)) μ) : Op2 S (compareOp .Is) d .non env μ P :=
  Op2.of op_isN fun F H as u v Q W h1 h2 kk => by
    cases h2
    exact ⟨rfl, by rw [isNone_v h1]; exact kk.now W k (.bl _)⟩
theorem o_isntN (k : P (.bl (!isNone d)) μ) : Op2 S (compareOp .IsNot) d .non env μ P :=
  Op2.of op_notN fun F H as u v Q W h1 h2 kk => by
    cases h2
    exact ⟨rfl, by rw [isNone_v h1]; exact kk.now W k (.bl _)⟩
/-! ### in -/
theorem o_notInL {e1 : D} (h1 : vw μ d1 = e1) (h2 : vw μ d2 = .lst ds) (hk : EqOk e1 (.lst ds)) (kk : P (.bl (!ds.any fun z => eqv z e1)) μ) : Op2 S (compareOp .NotIn) d1 d2 env μ P :=
  Op2.of (op_notInD (by have := S.hu; omega)) fun F H as x y Q W r1 r2 kq => ⟨e1.py, D.pys ds, W.dp _ r1 h1 hk.1 (lay_of hk.2.2.1), by have := W.dp S.X.K r2 h2 hk.2.1 (lay_of hk.2.2.2); rwa [D.py] at this, hk.2.2.1, by have := hk.2.2.2; rwa [D.py] at this,
    by have e : ((D.pys ds).any fun z => PyData.eqv z e1.py) = ds.any fun z => eqv z e1 := by rw [pys_map, List.any_map]; rfl
       rw [e]; exact kq.now W kk (.bl _)⟩
theorem o_notInS {c : Nat} (k : P (.bl (!decide (c ∈ y.cps.toList))) μ) : Op2 S (compareOp .NotIn) (.str ⟨#[c]⟩) (.str y) env μ P :=
  Op2.of op_notIn_sign fun F H as u v Q W h1 h2 kk => by cases h1; cases h2; exact ⟨_, _, rfl, rfl, kk.now W k (.bl _)⟩
/-! ### subscripts -/
theorem DVs.atI {Γ : Gam} {F : Hp} {as : List Ad} {vs : List V} (h : DVs Γ F as vs ds) (e : L2.atI ds i = some d) : ∃ v, L2.atI vs i = some v ∧ DV Γ F as v d := by
  unfold L2.atI at e ⊢
  rw [h.length]
  cases hi : ixN ds.length i with
  | none => rw [hi] at e; exact nomatch e
  | some j => rw [hi] at e; exact h.get e
theorem x_lst (h1 : vw μ d1 = .lst ds) (h : L2.atI ds i = some d) (k : P d μ) : Ix2 S d1 (.int i) env μ P :=
  Ix2.of ix_seq fun F H as x y Q W r1 r2 kk => by
    obtain ⟨a, vs, rfl, e1, q1⟩ := W.lst r1 h1
    cases r2
    obtain ⟨v, hv, dv⟩ := q1.atI h
    exact .inl ⟨a, vs, _, v, rfl, rfl, .inl (.inl e1), hv, kk.now W k dv⟩
theorem x_tup (h : L2.atI ds i = some d) (k : P d μ) : Ix2 S (.tup ds) (.int i) env μ P :=
  Ix2.of ix_seq fun F H as x y Q W r1 r2 kk => by
    obtain ⟨a, vs, rfl, e1, q1⟩ := r1.tupV
    cases r2
    obtain ⟨v, hv, dv⟩ := q1.atI h
    exact .inr (.inl ⟨_, _, _, v, rfl, rfl, .inl (.inl (W.sub _ _ e1)), hv, kk.now W k dv⟩)
theorem x_str {c : Nat} (hz : x.length ≤ sizeLine) (h : L2.atI x.cps.toList i = some c) (k : P (.str ⟨#[c]⟩) μ) : Ix2 S (.str x) (.int i) env μ P :=
  Ix2.of ix_seq fun F H as u v Q W r1 r2 kk => by cases r1; cases r2; exact .inr (.inr ⟨_, _, c, rfl, rfl, hz, h, kk.now W k (.str _)⟩)
/-! ### slices -/
def cutD (ds : List D) (lo hi : Option Int) : List D := (ds.drop (HT.sIx ds.length 0 lo)).take (HT.sIx ds.length ds.length hi - HT.sIx ds.length 0 lo)
theorem DVs.cut {Γ : Gam} {F : Hp} {as : List Ad} {vs : List V} (h : DVs Γ F as vs ds) (lo hi : Option Int) : DVs Γ F as (cutV vs lo hi) (cutD ds lo hi) := by
  unfold cutV cutD
  rw [h.length]
  exact (h.drop _).take _
theorem cut_allD (vs : List D) (lo hi : Option Int) (h : HT.sIx vs.length 0 lo = 0 ∧ HT.sIx vs.length vs.length hi = vs.length) : cutD vs lo hi = vs := by
  unfold cutD
  rw [h.1, h.2, List.drop_zero, Nat.sub_zero, List.take_length]
theorem s_lst {lo hi : Option Int} (h1 : vw μ d1 = .lst ds) (k : Nl P (cutD ds lo hi) μ) : Sl3 S d1 lo hi μ P := ⟨_, sl_list, fun F H as x Q W r1 kk => by
  obtain ⟨a, vs, rfl, e1, q1⟩ := W.lst r1 h1
  exact ⟨a, vs, rfl, .inl (.inl e1), fun p np => kk.new W np k (q1.cut lo hi)⟩⟩
theorem s_tup {lo hi : Option Int} (k : P (.tup (cutD ds lo hi)) μ) : Sl3 S (.tup ds) lo hi μ P := ⟨_, sl_tupA, fun F H as x Q W r1 kk => by
  obtain ⟨a, vs, rfl, e1, q1⟩ := r1.tupV
  refine ⟨_, _, rfl, .inl (.inl (W.sub _ _ e1)), fun z => ?_, fun _ p np => kk.newT W np k (q1.cut lo hi)⟩
  rw [q1.length] at z
  rw [cut_allD _ lo hi z] at k
  exact kk.now W k (.tup e1 q1)⟩
/-! ### built-in calls -/
theorem dvs1 {Γ : Gam} {F : Hp} {as : List Ad} {xs : List V} (h : DVs Γ F as xs [d]) : ∃ x, xs = [x] ∧ DV Γ F as x d := by
  cases h with
  | cons h t => cases t; exact ⟨_, rfl, h⟩
theorem dvs2 {Γ : Gam} {F : Hp} {as : List Ad} {xs : List V} (h : DVs Γ F as xs [d, d1]) : ∃ x y, xs = [x, y] ∧ DV Γ F as x d ∧ DV Γ F as y d1 := by
  cases h with
  | cons h t =>
    obtain ⟨y, rfl, h2⟩ := dvs1 t
    exact ⟨_, _, rfl, h, h2⟩
theorem c_lenL (h1 : vw μ d = .lst ds) (k : P (.int ds.length) μ) : Cl S (.builtin "len") [d] env μ P :=
  Cl.of call_len_seq fun F H as xs Q W r kk => by
    obtain ⟨x, rfl, r1⟩ := dvs1 r
    obtain ⟨a, vs, rfl, e, q⟩ := W.lst r1 h1
    exact ⟨a, vs, rfl, .inl (.inl (.inl e)), by rw [q.length]; exact kk.now W k (.int _)⟩
theorem c_lenT (k : P (.int ds.length) μ) : Cl S (.builtin "len") [.tup ds] env μ P :=
  Cl.of call_len_seq fun F H as xs Q W r kk => by
    obtain ⟨x, rfl, r1⟩ := dvs1 r
    obtain ⟨a, vs, rfl, e, q⟩ := r1.tupV
    exact ⟨a, vs, rfl, .inr (.inl (.inl (W.sub _ _ e))), by rw [q.length]; exact kk.now W k (.int _)⟩
theorem c_lenS (hz : x.length ≤ sizeLine) (k : P (.int x.length) μ) : Cl S (.builtin "len") [.str x] env μ P :=
  Cl.of call_len_str fun F H as xs Q W r kk => by
    obtain ⟨_, rfl, r1⟩ := dvs1 r
    cases r1
    exact ⟨_, rfl, hz, kk.now W k (.int _)⟩
theorem c_tupL (h1 : vw μ d = .lst ds) (k : P (.tup ds) μ) : Cl S (.type "tuple") [d] env μ P :=
  Cl.of call_tuple_of fun F H as xs Q W r kk => by
    obtain ⟨x, rfl, r1⟩ := dvs1 r
    obtain ⟨a, vs, rfl, e, q⟩ := W.lst r1 h1
    exact ⟨a, vs, rfl, .inl ⟨.inl (.inl e), fun l hl => kk.newT W hl k q⟩⟩
theorem c_int (k : P (.int i) μ) : Cl S (.type "int") [.int i] env μ P :=
  Cl.of call_int1 fun F H as xs Q W r kk => by
    obtain ⟨x, rfl, r1⟩ := dvs1 r
    cases r1
    exact .inl ⟨i, rfl, kk.now W k (.int _)⟩
end
end Me

/-! Me7: contracts of defs, calls. -/
namespace Me
open PySem PySem.Spec PyProof.Rows L2
/-- the cells speak of cells among them -/
def Low (μ : Mu) : Prop := ∀ (j : Nat) (c : Cell), μ[j]? = some c → ∀ i ∈ c.refs, i < μ.length
theorem Wd.lows {Γ : Gam} {F H : Hp} {as : List Ad} {μ : Mu} (W : Wd Γ F H as μ) : Low μ := fun _ _ h => W.low h
theorem take_at {α : Type} {l : List α} {n j : Nat} {x : α} (h : (l.take n)[j]? = some x) : l[j]? = some x ∧ j < n := by
  rw [List.getElem?_take] at h
  split at h
  · exact ⟨h, by assumption⟩
  · exact nomatch h
/-- a state seen otherwise: cells from n on are dropped, or become stable -/
structure ShR (Γ : Gam) (n : Nat) (F : Hp) (as : List Ad) (F' : Hp) (as' : List Ad) : Prop where
  sub : Same F F'
  new : ∀ a, F a = none → F' a ≠ none → a ∈ ads (as.drop n)
  pre : ∃ more, as' = as.take n ++ more ∧ ∀ ad ∈ more, ad ∈ as.drop n
def Sh (Γ : Gam) (n : Nat) (d : D) (μ : Mu) (d' : D) (μ' : Mu) : Prop := ∀ F H as v, Wd Γ F H as μ → DV Γ F as v d → n ≤ as.length → ∃ F' as', Wd Γ F' H as' μ' ∧ DV Γ F' as' v d' ∧ ShR Γ n F as F' as'
theorem ShR.refl {Γ : Gam} {n : Nat} {F : Hp} {as : List Ad} (h : n ≤ as.length) : ShR Γ n F as F as :=
  ⟨Same.refl F, fun a h h' => absurd h h', as.drop n, (List.take_append_drop n as).symm, fun _ h => h⟩
theorem ShR.trans {Γ : Gam} {n : Nat} {F F1 F2 : Hp} {as as1 as2 : List Ad} (hn : n ≤ as.length) (h : ShR Γ n F as F1 as1) (h' : ShR Γ n F1 as1 F2 as2) : ShR Γ n F as F2 as2 := by
  obtain ⟨m1, e1, k1⟩ := h.pre
  obtain ⟨m2, e2, k2⟩ := h'.pre
  have t : as1.take n = as.take n := by
    rw [e1, List.take_append, List.take_take, Nat.min_self, List.length_take, Nat.min_eq_left hn, Nat.sub_self, List.take_zero, List.append_nil]
  have dr : as1.drop n = m1 := by
    rw [e1, List.drop_append, List.drop_eq_nil_of_le (by rw [List.length_take]; omega), List.length_take, Nat.min_eq_left hn, Nat.sub_self, List.drop_zero, List.nil_append]
  refine ⟨h.sub.trans h'.sub, fun a q q' => ?_, m2, by rw [e2, t], fun ad z => k1 ad (dr ▸ k2 ad z)⟩
  by_cases z : F1 a = none
  · have := h'.new a z q'
    rw [dr] at this
    obtain ⟨ad, z1, z2⟩ := List.mem_map.mp this
    exact List.mem_map.mpr ⟨ad, k1 ad z1, z2⟩
  · exact h.new a q z
theorem Go.sh {Γ : Gam} {F H F2 H2 F3 : Hp} {as as2 as3 : List Ad} (g : Go F H as F2 H2 as2) (h : ShR Γ as.length F2 as2 F3 as3) : Go F H as F3 H2 as3 := by
  obtain ⟨more, e, n⟩ := g.pre
  obtain ⟨m1, e1, k1⟩ := h.pre
  have t : as2.take as.length = as := by rw [e, List.take_left]
  have dr : as2.drop as.length = more := by rw [e, List.drop_left]
  refine ⟨g.keep, g.dom, g.sub.trans h.sub, fun a q q' => ?_, m1, by rw [e1, t], fun ad z => n ad (dr ▸ k1 ad z)⟩
  by_cases z : F2 a = none
  · have := h.new a z q'
    rw [dr] at this
    obtain ⟨ad, z1, rfl⟩ := List.mem_map.mp this
    exact .inl (n ad z1)
  · exact g.new a q z
section
variable {Γ : Gam} {F H : Hp} {as : List Ad} {μ ext : Mu} {n : Nat} {d : D}
theorem Wd.cut (W : Wd Γ F H as (μ ++ ext)) (lo : Low μ) : Wd Γ F H (as.take μ.length) μ := by
  refine ⟨W.sub, ?_, ?_, fun j a c ha hc => ?_, fun a ha => W.seen a (List.mem_of_mem_take ha)⟩
  · show ((as.take μ.length).map Ad.a).Nodup
    rw [List.map_take]
    exact List.Sublist.nodup (List.take_sublist _ _) W.nd
  · have := W.len
    rw [List.length_append] at this
    rw [List.length_take]
    omega
  · obtain ⟨h1, h2⟩ := take_at ha
    refine (W.ok j a c h1 (by rw [List.getElem?_append_left h2]; exact hc)).go (Same.refl F) (fun z => z) (fun o z => z) (fun i hi b z => ?_)
    rw [List.getElem?_take, if_pos (lo j c hc i hi)]
    exact z
theorem Sh.refl {μ : Mu} : Sh Γ n d μ d μ := fun F H as v W r hn => ⟨F, as, W, r, ShR.refl hn⟩
theorem Sh.trans {d1 d2 : D} {μ μ1 μ2 : Mu} (h : Sh Γ n d μ d1 μ1) (h' : Sh Γ n d1 μ1 d2 μ2) (hn : n ≤ μ1.length) : Sh Γ n d μ d2 μ2 := fun F H as v W r hl => by
  obtain ⟨F1, as1, W1, r1, s1⟩ := h F H as v W r hl
  obtain ⟨F2, as2, W2, r2, s2⟩ := h' F1 H as1 v W1 r1 (by rw [W1.len]; exact hn)
  exact ⟨F2, as2, W2, r2, s1.trans hl s2⟩
theorem Sh.drop (hr : ∀ i ∈ d.refs, i < μ.length) (lo : Low μ) (hn : n ≤ μ.length) : Sh Γ n d (μ ++ ext) d μ := fun F H as v W r hl => by
  have hlen := W.len
  rw [List.length_append] at hlen
  refine ⟨F, as.take μ.length, W.cut lo, r.to (Same.refl F) fun i hi ad z => ?_, Same.refl F, fun a h h' => absurd h h', (as.take μ.length).drop n, ?_, fun ad z => ?_⟩
  · rw [List.getElem?_take, if_pos (hr i hi)]
    exact z
  · have e0 : as.take n = (as.take μ.length).take n := by rw [List.take_take, Nat.min_eq_left hn]
    rw [e0, List.take_append_drop]
  · rw [List.drop_take] at z
    exact List.mem_of_mem_take z
/-- a cell becomes stable; its place is empty -/
theorem Wd.freeze {j : Nat} {ad : Ad} {o : HO} {μ : Mu} (W : Wd Γ F H as μ) (ha : as[j]? = some ad) (hv : H ad.a = some o) (nF : F ad.a = none) : Wd Γ (upd F ad.a o) H as (μ.set j .dead) ∧ Same F (upd F ad.a o) := by
  have sF : Same F (upd F ad.a o) := fun b u e => by rw [upd_ne (ne_of_none e nF)]; exact e
  refine ⟨⟨fun b u e => ?_, W.nd, by rw [List.length_set]; exact W.len, fun k b c hb hc => ?_, W.seen⟩, sF⟩
  · by_cases hb : b = ad.a
    · subst hb; rw [upd_same] at e; rw [hv]; exact e
    · rw [upd_ne hb] at e; exact W.sub b u e
  · by_cases hk : j = k
    · subst hk
      rw [List.getElem?_set, if_pos rfl] at hc
      split at hc
      · obtain rfl := Option.some.inj hc; trivial
      · exact nomatch hc
    · rw [List.getElem?_set, if_neg hk] at hc
      have hba : b.a ≠ ad.a := fun z => hk (W.inj ha hb z.symm)
      exact (W.ok k b c hb hc).go sF (fun z => by rw [upd_ne hba]; exact z) (fun o z => z) (fun _ _ _ z => z)
theorem freeze_sh {j : Nat} {ad : Ad} {o : HO} (ha : as[j]? = some ad) (hn : n ≤ j) (hl : n ≤ as.length) (sF : Same F (upd F ad.a o)) : ShR Γ n F as (upd F ad.a o) as := by
  refine ⟨sF, fun a q q' => ?_, as.drop n, (List.take_append_drop n as).symm, fun _ h => h⟩
  by_cases z : a = ad.a
  · subst z
    refine List.mem_map.mpr ⟨ad, ?_, rfl⟩
    refine List.mem_of_getElem? (i := j - n) ?_
    rw [List.getElem?_drop, show n + (j - n) = j by omega]
    exact ha
  · rw [upd_ne z] at q'
    exact absurd q q'
theorem Sh.frz {j : Nat} {ds : List D} {μ : Mu} (hj : μ[j]? = some (.lst ds)) (hn : n ≤ j) : Sh Γ n (.cell j) μ (.lst ds) (μ.set j .dead) := fun F H as v W r hl => by
  cases r with
  | cell ha =>
    obtain ⟨_, nF, vs, hv, dv⟩ := W.ok j _ _ ha hj
    obtain ⟨W', sF⟩ := W.freeze ha hv nF
    exact ⟨_, as, W', .lst upd_same (dv.to sF fun _ _ _ z => z), freeze_sh ha hn hl sF⟩
end

/-! ### promises -/
abbrev KX := Ex → Mu → Prop
abbrev Ct := List D → Mu → KD → KX → Prop
def spM (Γ : Gam) (C : Ct) : Sp := fun vs H Q E => ∃ F as args μ P Z, C args μ P Z ∧ DVs Γ F as vs args ∧ Wd Γ F H as μ ∧
  (∀ d μ' v F' H' as', P d μ' → Go F H as F' H' as' → Wd Γ F' H' as' μ' → DV Γ F' as' v d → Q v H') ∧
  (∀ x μ' cls dx F' H' as', Z x μ' → Go F H as F' H' as' → Wd Γ F' H' as' μ' → XOk Γ F' H' as' cls dx x → E cls dx H')
/-- what is returned, seen as is wanted -/
def Rt (Γ : Gam) (μ0 : Mu) (P : KD) (d : D) (μ : Mu) : Prop := Low μ0 → ∃ d' μ', Sh Γ μ0.length d μ d' μ' ∧ P d' μ'
def RetR (Γ : Gam) (μ0 : Mu) (P : KD) : Out → Prop
  | .ret d m => Rt Γ μ0 P d m
  | .next _ m => Rt Γ μ0 P .non m
  | _ => False
/-- what is raised, local cells dropped -/
def ZR (μ0 : Mu) (Z : KX) : Ex → En → Mu → Prop := fun x _ m => Low μ0 → ∃ m' ext, m = m' ++ ext ∧ μ0.length ≤ m'.length ∧ Low m' ∧ (∀ i ∈ D.refsF x.fs, i < m'.length) ∧ Z x m'
section
variable {Γ : Gam} {μ0 μ ext : Mu} {P : KD} {Z : KX} {d : D} {j : Nat} {ds : List D} {x : Ex} {env : En}
theorem rt (h : P d μ) : Rt Γ μ0 P d μ := fun _ => ⟨d, μ, Sh.refl, h⟩
theorem rt_drop (h : P d μ) (hr : ∀ i ∈ d.refs, i < μ.length) (hn : μ0.length ≤ μ.length) (lo : Low μ0 → Low μ) : Rt Γ μ0 P d (μ ++ ext) := fun l => ⟨d, μ, Sh.drop hr (lo l) hn, h⟩
theorem rt_drop0 (h : P d μ0) (hr : ∀ i ∈ d.refs, i < μ0.length) : Rt Γ μ0 P d (μ0 ++ ext) := rt_drop h hr (Nat.le_refl _) id
theorem rt_frz (hj : μ[j]? = some (.lst ds)) (hn : μ0.length ≤ j) (h : Rt Γ μ0 P (.lst ds) (μ.set j .dead)) : Rt Γ μ0 P (.cell j) μ := fun l => by
  obtain ⟨d', μ', s, p⟩ := h l
  refine ⟨d', μ', (Sh.frz hj hn).trans s ?_, p⟩
  rw [List.length_set]
  have := (List.getElem?_eq_some_iff.mp hj).1
  omega
theorem zr0 (h : Z x μ0) (hr : ∀ i ∈ D.refsF x.fs, i < μ0.length) : ZR μ0 Z x env μ0 := fun l => ⟨μ0, [], (List.append_nil _).symm, Nat.le_refl _, l, hr, h⟩
end
theorem env_start {Γ : Gam} {F : Hp} {as : List Ad} {args : List D} {vs : List V} (r : DVs Γ F as vs args) (n : Nat) : EnvOk Γ F as (args.map some ++ List.replicate (n - args.length) none) (vs.map some ++ List.replicate (n - vs.length) none) := by
  have hl := r.length
  refine ⟨by simp [hl], fun i d e => ?_⟩
  by_cases hi : i < args.length
  · rw [List.getElem?_append_left (by simpa using hi), List.getElem?_map] at e
    obtain ⟨d', h1, h2⟩ := Option.map_eq_some_iff.mp e
    obtain rfl := Option.some.inj h2
    obtain ⟨v, q1, q2⟩ := r.get h1
    exact ⟨v, by rw [List.getElem?_append_left (by simpa [hl] using hi), List.getElem?_map, q1]; rfl, q2⟩
  · rw [List.getElem?_append_right (by simpa using hi), List.getElem?_replicate] at e
    split at e <;> exact nomatch e
section
variable {w : World} {P : Program} {base : Heap} {mg : Str → Option Value} {K : PySem.W.Frag}
abbrev bodyX (P : Program) (w : World) (K : PySem.W.Frag) (mg : Str → Option Value) (base : Heap) (N : List Str) (qual : Str) (st : Stmt) (f : Addr) (cdv : Value) (A : Around) (outer : List Env) (s : Shared) (H : Hp) (E : XK) : Cx :=
  cxOf (L2.CX P w) P w K mg base N qual (defScope st) f cdv A outer s H E
/-- the scene of a body -/
abbrev bodyS (P : Program) (w : World) (K : PySem.W.Frag) (mg : Str → Option Value) (base : Heap) (Γ : Gam) (hK : Γ.K = K) (N : List Str) (qual : Str) (st : Stmt) (f : Addr) (cdv : Value) (A : Around) (outer : List Env) (s : Shared) (H : Hp) (E : XK)
    (Z : Ex → En → Mu → Prop) (hg : A.guards = some []) (hN : N.Nodup) (hb : Bi mg) (k : Nat) (rm : L2H.RoomH k (A.deeper (envOfC qual (defScope st) s.heap.objs.size f cdv))) : Sc := ⟨Γ, bodyX P w K mg base N qual st f cdv A outer s H E, Z, hK, hg, hN, passes_of rfl, hb, k, rm⟩
theorem okM {Γ : Gam} (hK : Γ.K = K) (hb' : Bi mg) {x qual : Str} {st : Stmt} {f : Addr} {fd : FuncData} {N ps : List Str} {k : Nat} {C : Ct} (F : Fun K x qual st f fd) (S : FnScope N ps (defScope st)) (ct : ∀ args μ P Z, C args μ P Z → args.length = ps.length)
    (hb : ∀ (cdv : Value) (A : Around) (outer : List Env) (s : Shared) (H : Hp) (E : XK) (hg : A.guards = some []) (rm : L2H.RoomH k (A.deeper (envOfC qual (defScope st) s.heap.objs.size f cdv))),
      ∀ args μ Q Z, C args μ Q Z → B (bodyS P w K mg base Γ hK N qual st f cdv A outer s H E (ZR μ Z) hg S.nd hb' k rm) (defBody st) (args.map some ++ List.replicate (N.length - args.length) none) μ (RetR Γ μ Q)) :
    Gd.FnG P w K mg base (L2.CX P w) (k + 1) f fd ps (spM Γ C) := by
  obtain ⟨oc, od, kV, doc, pm, an, cdv, ct', osl, rfl, lk, hcd⟩ := F.ex
  refine Gd.fn_ofG lk hcd S (fun vs H Q E ⟨F, as, args, μ, P, Z, hC, r, _⟩ => by rw [r.length]; exact ct _ _ _ _ hC) fun A outer s H vs Q E gA hr hsp => ?_
  obtain ⟨F, as, args, μ, Pd, Z, hC, r, W, kp, kz⟩ := hsp
  have hbb := hb cdv A outer s H E gA ⟨hr.dp, hr.un⟩ args μ Pd Z hC
  have hln : as.length = μ.length := W.len
  refine ⟨_, hbb, F, as, ⟨env_start r N.length, W, ?_⟩, ?_, ?_, ?_, ?_⟩
  · intro x env μ' σ cls dx F' H' as' z g e W' xo
    obtain ⟨m', ext, rfl, hn, lo, hrf, hz⟩ := z W.lows
    have W2 := W'.cut lo
    refine Wk.of (takes_of (X := bodyX P w K mg base N qual st f cdv A outer s H E) rfl rfl rfl rfl) (kz x m' cls dx F' H' (as'.take m'.length) hz ?_ W2 ?_)
    · obtain ⟨more, e1, n1⟩ := g.pre
      refine ⟨g.keep, g.dom, g.sub, g.new, more.take (m'.length - as.length), ?_, fun a ha => n1 a (List.mem_of_mem_take ha)⟩
      rw [e1, List.take_append, List.take_of_length_le (by omega)]
    · obtain ⟨C0, h1, h2, h3⟩ := xo
      refine ⟨C0, h1, h2, ?_⟩
      rcases h3 with h3 | ⟨dx', vs', e1, e2, e3⟩
      · exact .inl h3
      · refine .inr ⟨dx', vs', e1, e2, e3.to (Same.refl F') fun i hi ad z => ?_⟩
        rw [List.getElem?_take, if_pos (hrf i hi)]
        exact z
  · intro env2 m2 σ2 F2 H2 as2 h2 g2 e2 W2
    obtain ⟨d', μ', sh, p⟩ := h2 W.lows
    have l2 : as.length ≤ as2.length := by obtain ⟨more, e1, _⟩ := g2.pre; rw [e1, List.length_append]; omega
    obtain ⟨F3, as3, W3, r3, s3⟩ := sh F2 H2 as2 .non W2 .non (by omega)
    exact kp _ μ' _ F3 H2 as3 p (g2.sh (by rw [hln]; exact s3)) W3 r3
  · intro d2 m2 v F2 H2 as2 h2 g2 W2 r2
    obtain ⟨d', μ', sh, p⟩ := h2 W.lows
    have l2 : as.length ≤ as2.length := by obtain ⟨more, e1, _⟩ := g2.pre; rw [e1, List.length_append]; omega
    obtain ⟨F3, as3, W3, r3, s3⟩ := sh F2 H2 as2 v W2 r2 (by omega)
    exact kp _ μ' _ F3 H2 as3 p (g2.sh (by rw [hln]; exact s3)) W3 r3
  · exact fun _ _ _ _ _ _ h => h.elim
  · exact fun _ _ _ _ _ _ h => h.elim
/-- a def of the module by its name -/
structure Fn (P : Program) (w : World) (K : PySem.W.Frag) (mg : Str → Option Value) (base : Heap) (Γ : Gam) (k : Nat) (x : Str) (C : Ct) : Prop where
  ex : ∃ f fd ps, Gd.FnG P w K mg base (L2.CX P w) k f fd ps (spM Γ C) ∧ mg x = some (.ref f) ∧ PySem.W.keepIn K (.ref f) = true ∧ Binds K fd ps []
end
section
variable {S : Sc} {env : En} {μ : Mu} {e : Expr} {es : List Expr} {pos p0 : Pos} {x : Str} {k j : Nat} {C : Ct} {P : KD}
theorem run_fnM {X : Cx} {f : Addr} {fd : FuncData} {ps : List Str} {sp : Sp} {pins : List (Addr × Obj)} {σ : L2.St} {H : Hp} {s : Shared} {Q : VK} {us ds : List Value} {vs dvs : List V}
    (F : Gd.FnG X.prog X.w X.K X.mg X.base (L2.CX X.prog X.w) k f fd ps sp) (gX : X.A.guards = some []) (hr : Room k X.A) (hb : Binds X.K fd ps ds)
    (hd : Vals dvs ds) (I : Inv X pins σ H s) (r : Vals vs us) (h : sp (vs ++ dvs) H Q (fun cls d H' => Wk X cls d σ H')) :
    wpAny (model X.prog X.w) X.A (call (.ref f) us) (EP X pins σ Q) X.xe s := by
  have rr : Vals (vs ++ dvs) (us ++ ds) := r.append hd
  have len : (us ++ ds).length = ps.length := rr.length ▸ F.lenG _ _ _ _ h
  refine wpAny_call (codeAny_mono (F.runG X.A X.stack s H ⟨us, []⟩ (us ++ ds) (vs ++ dvs) Q _ gX hr I.env0 (hb s us I.kIn len) rr h) fun res s' hq => ?_)
  match res, hq with
  | .error e, hq => exact takes_wk _ _ (XE.of_call (W := Wk X) I (fun _ _ _ z => z) hq)
  | .ok (.ret u), hq => exact I.after hq
  | .ok .next, hq => exact False.elim hq
  | .ok .brk, hq => exact False.elim hq
  | .ok .cont, hq => exact False.elim hq
theorem spM_of {ds : List D} {F H : Hp} {as : List Ad} {σ : L2.St} {Q : VK} {vs : List V} (hC : C ds μ P (fun x m => S.Z x env m)) (a : At S env μ σ H F as) (r : DVs S.Γ F as vs ds) (k : Kv S F H as P Q) :
    spM S.Γ C (vs ++ []) H Q (fun cls d H' => Wk S.X cls d σ H') := by
  rw [List.append_nil]
  exact ⟨F, as, ds, μ, P, _, hC, r, a.w, k, fun x μ' cls dx F' H' as' z g W' xo => a.k x env μ' σ cls dx F' H' as' z g (a.e.mono g) W' xo⟩
theorem e_call (F : Fn S.X.prog S.X.w S.X.K S.X.mg S.X.base S.Γ k x C) (h : A S (e :: es) env μ fun ds μ1 => C ds μ1 P (fun x m => S.Z x env m)) (hkj : k ≤ S.k := by first | decide | assumption | omega) (hc : S.X.calm = true := by rfl) (hg : Gl S.X x := by rfl) (hdb : (x == ("__debug__" : Str)) = false := by decide)
    (he : starEach (e :: es) S.X.env = (false, eval e S.X.env) :: starEach es S.X.env := by rfl) (hpl : (backTo pos (starEach es S.X.env)).any (·.1) = false := by rfl) : E S (.Call (.Name x p0) (e :: es) [] pos) env μ P := by
  obtain ⟨f, fd, ps, F1, hm, hk, hb⟩ := F.ex
  refine ⟨fun pins s σ H Q I ⟨F0, as, a, k0⟩ => wpAny_Call_Name_kw (ld_glob I hg hm ?_ hdb)⟩
  refine PySem.W.callWith_K (h₀ := S.X.base) I.ok.mod.kin hk (thn (h.run pos pins s σ H (fun vs H1 => spM S.Γ C (vs ++ []) H1 Q (fun cls d H' => Wk S.X cls d σ H')) I ⟨F0, as, a, ?_⟩) ?_) he hpl
  · exact fun ds μ1 vs F1 H1 as1 p1 g1 W1 r1 => spM_of p1 (a.go g1 W1) r1 (k0.go g1)
  · intro us s1 ⟨vs, H1, I1, r1, q1⟩
    exact ⟨I1.kIn, run_fnM F1 S.hg ⟨I1.ok.hd hc, (S.rm.mono hkj).dp, (S.rm.mono hkj).un⟩ hb .nil I1 r1 q1⟩
end
end Me

/-! Me8: methods of built-in types, stores to places. -/
namespace Me
open PySem PySem.Spec PyProof.Rows L2
section
variable {S : Sc} {env : En} {μ : Mu} {a b c e o : Expr} {es : List Expr} {rest : List Stmt} {R : Out → Prop} {pos p0 apos cpos tpos : Pos} {x y : Str} {P : KD} {d d1 d2 : D} {ds : List D} {i j : Int} {n : Nat}
/-- what type a receiver has -/
def Ty (S : Sc) (Tn : String) (d : D) (μ : Mu) : Prop := ∀ F H as v, Wd S.Γ F H as μ → DV S.Γ F as v d → tyV S.X.K Tn v H
theorem ty_lst (h : vw μ d = .lst ds) : Ty S "list" d μ := fun F H as v W r => by
  obtain ⟨a, vs, rfl, h1, _⟩ := W.lst r h
  exact .inl ⟨rfl, vs, .inl (.inl h1)⟩
theorem ty_str : Ty S "str" (.str x) μ := fun F H as v W r => by cases r; rfl
/-- a method of a built-in type, by values -/
def Mt (S : Sc) (id : String) (d : D) (ds : List D) (μ : Mu) (P : KD) : Prop := ∃ r, MtR S.X id r ∧ ∀ F H as x xs Q, Wd S.Γ F H as μ → DV S.Γ F as x d → DVs S.Γ F as xs ds → Kv S F H as P Q → r x xs H Q
def yMt (X : Cx) (id : String) : V → List V → Hp → VK → Prop := fun x xs H Q => ∃ r, MtR X id r ∧ r x xs H Q
theorem mt_y {X : Cx} {id : String} : MtR X id (yMt X id) := fun pins s σ H x xs v us Q I rx rs ⟨r, h, q⟩ => h pins s σ H x xs v us Q I rx rs q
theorem e_bm {Tn id : String} {name : Str} (pa : PlainAttrs Tn) (slot : Slot Tn name id) (hty : typeOf (.builtin id) = pure (.type "method_descriptor"))
    (h : E S o env μ fun d μ1 => Ty S Tn d μ1 ∧ A S (e :: es) env μ1 fun ds μ2 => Mt S id d ds μ2 P)
    (hbase : attributeBase o name S.X.env (eval o S.X.env) = eval o S.X.env := by rfl)
    (hfew : ((backTo cpos (starEach (e :: es) S.X.env)).all (fun x => !x.1) && (backToKw cpos (keywordEach [] S.X.env)).all (fun x => x.1.isSome) && decide ((e :: es).length + ([] : List Keyword).length + (if ([] : List Keyword).isEmpty then 0 else 1) < 30)) = true := by rfl)
    (hline : (apos.endLine == cpos.line) = true := by rfl) (hs : starEach (e :: es) S.X.env = (false, eval e S.X.env) :: starEach es S.X.env := by rfl) (hpl : (backTo cpos (starEach es S.X.env)).any (·.1) = false := by rfl) :
    E S (.Call (.Attribute o name apos) (e :: es) [] cpos) env μ P := by
  refine PE.imp (pe_bm pa slot hty mt_y h pa_y hbase hfew hline hs hpl) fun σ H Q ⟨F, as, a, k⟩ => ⟨F, as, a, fun d μ1 v F1 H1 as1 ⟨t1, p1⟩ g1 W1 r1 => ⟨t1 F1 H1 as1 v W1 r1, ?_⟩⟩
  refine p1.go (a.go g1 W1) fun ds μ2 vs F2 H2 as2 ⟨r, hr, hh⟩ g2 W2 r2 => ⟨r, hr, ?_⟩
  exact hh F2 H2 as2 v vs Q W2 (r1.mono g2) r2 ((k.go g1).go g2)
/-- a list cell is changed -/
theorem Wd.setL {Γ : Gam} {F H : Hp} {as : List Ad} {m : Nat} {ad : Ad} {vs : List V} {es : List D} (W : Wd Γ F H as μ) (ha : as[m]? = some ad) (hc : μ[m]? = some (.lst es)) (hv : DVs Γ F as vs ds) :
    Wd Γ F (upd H ad.a (.lst vs)) as (μ.set m (.lst ds)) ∧ Go F H as F (upd H ad.a (.lst vs)) as := by
  obtain ⟨k0, nF, _⟩ := W.ok m ad _ ha hc
  exact W.setO ha nF ⟨k0, nF, vs, upd_same, hv⟩
theorem cellL {Γ : Gam} {F H : Hp} {as : List Ad} {m : Nat} {v : V} (W : Wd Γ F H as μ) (r : DV Γ F as v (.cell m)) (hc : μ[m]? = some (.lst ds)) : ∃ ad vs, v = .ref ad.a ∧ as[m]? = some ad ∧ H ad.a = some (.lst vs) ∧ DVs Γ F as vs ds := by
  cases r with
  | cell ha =>
    obtain ⟨_, _, vs, h1, h2⟩ := W.ok m _ _ ha hc
    exact ⟨_, vs, rfl, ha, h1, h2⟩
theorem m_append {m : Nat} (hc : μ[m]? = some (.lst ds)) (hz : ds.length < sizeLine) (k : P .non (μ.set m (.lst (ds ++ [d])))) : Mt S "list.append" (.cell m) [d] μ P := ⟨_, mt_append, fun F H as x xs Q W r rs kk => by
  obtain ⟨ad, vs, rfl, ha, h1, dv⟩ := cellL W r hc
  obtain ⟨u, rfl, ru⟩ := dvs1 rs
  obtain ⟨W2, g2⟩ := W.setL ha hc (dv.append (.cons ru .nil))
  exact ⟨_, vs, u, rfl, rfl, h1, by rw [dv.length]; exact hz, kk _ _ _ _ _ _ k g2 W2 .non⟩⟩
theorem m_insert {m : Nat} (hc : μ[m]? = some (.lst ds)) (hz : ds.length < sizeLine) (hi : 0 ≤ i ∧ i < 2 ^ 63) (k : P .non (μ.set m (.lst (ds.take i.toNat ++ [d] ++ ds.drop i.toNat)))) : Mt S "list.insert" (.cell m) [.int i, d] μ P := ⟨_, mt_insert, fun F H as x xs Q W r rs kk => by
  obtain ⟨ad, vs, rfl, ha, h1, dv⟩ := cellL W r hc
  obtain ⟨u, u2, rfl, ru, ru2⟩ := dvs2 rs
  cases ru
  obtain ⟨W2, g2⟩ := W.setL ha hc (((dv.take i.toNat).append (.cons ru2 .nil)).append (dv.drop i.toNat))
  exact ⟨_, vs, i, _, rfl, rfl, h1, by rw [dv.length]; exact hz, hi.1, hi.2, kk _ _ _ _ _ _ k g2 W2 .non⟩⟩
theorem e_append (h : E S o env μ fun d μ1 => ∃ m, d = .cell m ∧ (∃ ds, vw μ1 d = .lst ds) ∧ E S e env μ1 fun d2 μ2 => ∃ ds, μ2[m]? = some (.lst ds) ∧ ds.length < sizeLine ∧ P .non (μ2.set m (.lst (ds ++ [d2]))))
    (hbase : attributeBase o "append" S.X.env (eval o S.X.env) = eval o S.X.env := by rfl) (hline : (apos.endLine == cpos.line) = true := by rfl) (hs : starEach [e] S.X.env = (false, eval e S.X.env) :: starEach [] S.X.env := by rfl) :
    E S (.Call (.Attribute o "append" apos) [e] [] cpos) env μ P := by
  refine e_bm PySem.F.plainAttrs_list PySem.F.slot_list_append PySem.F.type_list_append (h.imp fun d μ1 ⟨m, e1, ⟨ds, h1⟩, h2⟩ => ⟨ty_lst h1, ?_⟩) hbase (by rw [hs]; rfl) hline hs (by rfl)
  subst e1
  exact a_cons (h2.imp fun d2 μ2 ⟨ds, q1, q2, q3⟩ => a_nil (m_append q1 q2 q3)) hs

/-! ### stores to places -/
/-- o[i] = v by values -/
def St3 (S : Sc) (o i v : D) (env : En) (μ : Mu) (P : Mu → Prop) : Prop :=
  ∀ (pins : List (Addr × Obj)) (s : Shared) (σ : L2.St) (H : Hp) (x y z : V) (ov iv u : Value) (Q : Hp → Prop) (F : Hp) (as : List Ad), Inv S.X pins σ H s → RelV x ov → RelV y iv → RelV z u →
    At S env μ σ H F as → DV S.Γ F as x o → DV S.Γ F as y i → DV S.Γ F as z v → (∀ μ' F' H' as', P μ' → Go F H as F' H' as' → Wd S.Γ F' H' as' μ' → Q H') →
    wpAny (model S.X.prog S.X.w) S.X.A (setItem ov iv u) (fun _ s' => ∃ H', Inv S.X pins σ H' s' ∧ Q H') S.X.xe s
theorem St3.of {t : TSet} {P : Mu → Prop} {o i v : D} (hs : PSet S.X t) (h : ∀ F H as x y z Q, Wd S.Γ F H as μ → DV S.Γ F as x o → DV S.Γ F as y i → DV S.Γ F as z v → (∀ μ' F' H' as', P μ' → Go F H as F' H' as' → Wd S.Γ F' H' as' μ' → Q H') → t x y z H Q) : St3 S o i v env μ P :=
  fun pins s σ H x y z ov iv u Q F as I r1 r2 r3 a h1 h2 h3 k => hs pins s σ H x y z ov iv u Q I r1 r2 r3 (h F H as x y z Q a.w h1 h2 h3 k)
theorem t_setL {m : Nat} {P : Mu → Prop} (hc : μ[m]? = some (.lst ds)) (hn : n < ds.length) (k : P (μ.set m (.lst (ds.set n d)))) : St3 S (.cell m) (.int (n : Nat)) d env μ P :=
  St3.of set_list fun F H as x y z Q W r1 r2 r3 kk => by
    obtain ⟨ad, vs, rfl, ha, h1, dv⟩ := cellL W r1 hc
    cases r2
    obtain ⟨W2, g2⟩ := W.setL ha hc (dv.set r3 n)
    refine ⟨ad.a, vs, n, n, rfl, rfl, h1, ?_, kk _ _ _ _ k g2 W2⟩
    unfold ixN
    rw [if_pos (Int.natCast_nonneg n), if_pos (by rw [dv.length]; omega)]
    rfl
theorem b_setIx (h : E S e env μ fun d μ1 => E S a env μ1 fun o μ2 => E S b env μ2 fun i μ3 => St3 S o i d env μ3 fun μ4 => B S rest env μ4 R)
    (hs : swapsWithSole [.Subscript a b p0] e pos.line S.X.env = pure false := by rfl) (hw : swappedStores [.Subscript a b p0] e S.X.env = pure none := by rfl)
    (h1 : (assignEach [.Subscript a b p0] S.X.env).map (·.2) = [assign (.Subscript a b p0) S.X.env] := by rfl)
    (ha : ∀ v, assign (.Subscript a b p0) S.X.env v = (do
      let ov ← holding [v] (eval a S.X.env)
      let iv ← holding [v, ov] (eval b S.X.env)
      standAt p0
      holding [v, ov, iv] (setItem ov iv v)
      release [v, ov, iv] []) := by intro _; rfl) : B S (.Assign [.Subscript a b p0] e pos :: rest) env μ R := by
  have pg : PG S.X (.Subscript a b p0) (fun v σ H Q => yE S.X a σ H fun x H1 => yE S.X b σ H1 fun y H2 => ∀ (pins : List (Addr × Obj)) (s : Shared) (ov iv u : Value), Inv S.X pins σ H2 s → RelV x ov → RelV y iv → RelV v u →
      wpAny (model S.X.prog S.X.w) S.X.A (setItem ov iv u) (fun _ s' => ∃ H', Inv S.X pins σ H' s' ∧ Q σ H') S.X.xe s) := by
    refine ⟨fun pins s σ H v u Q I r h => ?_⟩
    rw [ha]
    refine wpAny_bind (wpAny_holding (thn (pe_y.run pins s σ H _ I h) fun ov s1 ⟨x1, H1, I1, r1, q1⟩ => ?_))
    refine wpAny_bind (wpAny_holding (thn (pe_y.run pins s1 σ H1 _ I1 q1) fun iv s2 ⟨x2, H2, I2, r2, q2⟩ => ?_))
    refine wpAny_bind (wpAny_standAt (wpAny_bind (wpAny_holding (thn (q2 pins s2 ov iv u I2 r1 r2 r) fun _ s3 ⟨H3, I3, q3⟩ => ?_))))
    exact wpAny_release ⟨σ, H3, I3, q3⟩
  refine b_cons (PS.imp (ps_asg h pg hs hw h1) fun D σ H ⟨F, as, a, k⟩ => ?_)
  refine ⟨F, as, a, fun d μ1 v F1 H1 as1 p1 g1 W1 r1 => p1.go (a.go g1 W1) fun o μ2 vo F2 H2 as2 p2 g2 W2 r2 => p2.go ((a.go g1 W1).go g2 W2) fun i μ3 vi F3 H3 as3 p3 g3 W3 r3 => ?_⟩
  intro pins s ov iv u I q1 q2 q3
  have a3 := ((a.go g1 W1).go g2 W2).go g3 W3
  refine p3 pins s σ H3 vo vi v ov iv u _ F3 as3 I q1 q2 q3 a3 (r2.mono g3) r3 ((r1.mono g2).mono g3) fun μ4 F4 H4 as4 p4 g4 W4 => ?_
  exact k.nx env μ4 σ F4 H4 as4 p4 (((g1.trans g2).trans g3).trans g4) ((a3.go g4 W4).e) W4
def rGetL (K : PySem.W.Frag) : R2 := fun o i H Q => ∃ p xs k v, o = .ref p ∧ i = .int (k : Nat) ∧ SqL K H p xs ∧ xs[k]? = some v ∧ Q v H
theorem get_list {X : Cx} : PGet X (rGetL X.K) := by
  intro pins s σ H o i ov iv Q I ro ri h
  obtain ⟨p, xs, k, v, rfl, rfl, hq, hk, q⟩ := h
  cases ro
  obtain ⟨t, rfl⟩ := ri
  obtain ⟨its, r, hl, hz⟩ := I.list hq
  obtain ⟨u, hu, ru⟩ := r.get hk
  have hlt := (List.getElem?_eq_some_iff.mp hu).1
  have hn := line63
  have hrl := r.length
  refine wpAny_getItem_list hl.isList (by omega) (by omega) (x := u) (by simpa using hu) ⟨v, H, I, ru, q⟩
/-- x[n] += e, x a list, ints -/
theorem b_augIx (h : E S a env μ fun o μ1 => E S b env μ1 fun ix μ2 => ∃ (m n : Nat) (i : Int) (ds : List D), o = .cell m ∧ ix = .int (n : Nat) ∧ μ2[m]? = some (.lst ds) ∧ ds[n]? = some (.int i) ∧
      E S e env μ2 fun y μ3 => ∃ (k : Int) (es : List D), y = .int k ∧ μ3[m]? = some (.lst es) ∧ n < es.length ∧ B S rest env (μ3.set m (.lst (es.set n (.int (i + k))))) R)
    (ha : ∀ ov iv new, augStore b ov iv new = (do holding [new, ov, iv] (setItem ov iv new); release [new, ov, iv] []; pure .next) := by intros; rfl) : B S (.AugAssign (.Subscript a b tpos) .Add e pos :: rest) env μ R := by
  refine b_cons (PS.imp (ps_augS pe_y pe_y get_list pe_y ip_add set_list ha) fun D σ H ⟨F, as, a, k⟩ => ?_)
  refine h.go a fun o μ1 v F1 H1 as1 p1 g1 W1 r1 => p1.go (a.go g1 W1) fun ix μ2 v2 F2 H2 as2 ⟨m, n, i, ds, e1, e2, hc, hd, p2⟩ g2 W2 r2 => ?_
  subst e1 e2
  cases r2
  obtain ⟨ad, vs, rfl, hp, q, dv⟩ := cellL W2 (r1.mono g2) hc
  obtain ⟨u, hu, du⟩ := dv.get hd
  cases du
  have a2 := (a.go g1 W1).go g2 W2
  refine ⟨ad.a, vs, n, _, rfl, rfl, .inl (.inl q), hu, p2.go a2 fun y μ3 v3 F3 H3 as3 ⟨k3, es, e3, hc3, hn, p3⟩ g3 W3 r3 => ?_⟩
  subst e3
  cases r3
  obtain ⟨ad3, vs3, e4, hp3, q3, dv3⟩ := cellL W3 (DV.cell (g3.at hp)) hc3
  obtain ⟨W4, g4⟩ := W3.setL hp3 hc3 (dv3.set (.int (i + k3)) n)
  refine ⟨i, k3, rfl, rfl, ad3.a, vs3, n, n, e4, rfl, q3, ?_, k.nx env _ σ _ _ as3 p3 (((g1.trans g2).trans g3).trans g4) ((a2.go g3 W3).go g4 W4).e W4⟩
  unfold ixN
  rw [if_pos (Int.natCast_nonneg n), if_pos (by rw [dv3.length]; omega)]
  rfl
end
end Me

/-! Me9: instances: fields, methods, making; isinstance. -/
namespace Me
open PySem PySem.Spec PyProof.Rows L2
def putF' (f : Str) (d : D) : List (Str × D) → List (Str × D)
  | [] => [(f, d)]
  | (g, x) :: r => if g = f then (g, d) :: r else (g, x) :: putF' f d r
section
variable {Γ : Gam} {F H : Hp} {as : List Ad} {μ : Mu} {v : V} {d : D} {c : String} {f : Str} {fs : List (Str × D)} {vs : List (Str × V)}
theorem DFs.put (r : DV Γ F as v d) : ∀ {vs : List (Str × V)} {fs : List (Str × D)}, DFs Γ F as vs fs → DFs Γ F as (putF f v vs) (putF' f d fs)
  | _, _, .nil => .cons r .nil
  | (g, x) :: vs, (_, y) :: fs, .cons h t => by
    unfold putF putF'
    by_cases e : g = f
    · subst e
      rw [if_pos rfl]
      simp only [if_true]
      exact .cons r t
    · rw [if_neg e, if_neg e]
      exact .cons h (t.put r)
theorem DFs.look : ∀ {vs : List (Str × V)} {fs : List (Str × D)}, DFs Γ F as vs fs → fs.lookup f = some d → ∃ v, vs.lookup f = some v ∧ DV Γ F as v d
  | _, _, .nil, e => nomatch e
  | (g, x) :: vs, (_, y) :: fs, .cons h t, e => by
    rw [List.lookup_cons] at e ⊢
    cases hg : (f == g) with
    | true => rw [hg] at e; obtain rfl := Option.some.inj e; exact ⟨x, rfl, h⟩
    | false => rw [hg] at e; exact t.look e
theorem DFs.lookN : ∀ {vs : List (Str × V)} {fs : List (Str × D)}, DFs Γ F as vs fs → fs.lookup f = none → vs.lookup f = none
  | _, _, .nil, _ => rfl
  | (g, x) :: vs, (_, y) :: fs, .cons h t, e => by
    rw [List.lookup_cons] at e ⊢
    cases hg : (f == g) with
    | true => rw [hg] at e; exact nomatch e
    | false => rw [hg] at e; exact t.lookN e
theorem DFs.length : ∀ {vs : List (Str × V)} {fs : List (Str × D)}, DFs Γ F as vs fs → vs.length = fs.length
  | _, _, .nil => rfl
  | _, _, .cons _ t => congrArg (· + 1) t.length
/-- an instance, a cell's or a stable one -/
theorem Wd.ins (W : Wd Γ F H as μ) (r : DV Γ F as v d) (h : vw μ d = .ins c fs) : ∃ a C dx vs, v = .ref a ∧ Γ.cls c = some C ∧ H a = some (.ins C dx vs) ∧ DFs Γ F as vs fs := by
  cases r with
  | ins h1 hc h2 =>
    obtain ⟨rfl, rfl⟩ := D.ins.inj h
    exact ⟨_, _, _, _, rfl, hc, W.sub _ _ h1, h2⟩
  | @cell j ad h1 =>
    simp only [vw] at h
    match hm : μ[j]?, h with
    | none, h => cases h
    | some (.lst _), h => cases h
    | some (.dct _ _ _), h => cases h
    | some .dead, h => cases h
    | some (.gd _ _), h => cases h
    | some (.ts _ _ _), h => cases h
    | some (.gl _ _ _), h => cases h
    | some (.ins c' fs'), h =>
      obtain ⟨rfl, rfl⟩ := D.ins.inj h
      obtain ⟨_, _, C, dx, vs, hc, h2, h3⟩ := W.ok j ad _ h1 hm
      exact ⟨_, C, dx, vs, rfl, hc, h2, h3⟩
  | lst _ _ => cases h
  | non => cases h
  | bl _ => cases h
  | int _ => cases h
  | str _ => cases h
  | tup _ _ => cases h
  | dctK _ _ => cases h
  | dctT _ _ => cases h
  | err0 _ _ => cases h
  | ty _ => cases h
  | tpx _ _ => cases h
  | cls _ => cases h
  | err1 _ _ _ _ => cases h
end
/-- the class c has no attribute f of its own -/
structure Fld (Γ : Gam) (c : String) (f : Str) : Prop where
  ex : ∃ C, Γ.cls c = some C ∧ Cls Γ.K C ∧ NoAttr Γ.K C f
section
variable {S : Sc} {env : En} {μ : Mu} {a b e o : Expr} {es : List Expr} {rest : List Stmt} {R : Out → Prop} {pos p0 p1 pos' apos : Pos} {x f m : Str} {c : String} {P : KD} {d : D} {k : Nat} {C : Ct}
theorem e_fld (c : String) (hf : Fld S.Γ c f) (h : E S e env μ fun d μ1 => ∃ fs d', vw μ1 d = .ins c fs ∧ fs.lookup f = some d' ∧ P d' μ1) (hb : attributeBase e f S.X.env (eval e S.X.env) = eval e S.X.env := by rfl) : E S (.Attribute e f pos) env μ P := by
  obtain ⟨C, hc, cl, hn⟩ := hf.ex
  rw [S.hK] at cl hn
  refine PE.imp (pe_fld h hb) fun σ H Q ⟨F, as, a, k⟩ => ⟨F, as, a, fun d μ1 v F1 H1 as1 ⟨fs, d', hv, hl, p1⟩ g1 W1 r1 => ?_⟩
  obtain ⟨p, C', dx, vs, rfl, hc', h1, h2⟩ := W1.ins r1 hv
  rw [hc] at hc'
  obtain rfl := Option.some.inj hc'
  obtain ⟨u, h3, h4⟩ := h2.look hl
  exact ⟨p, C, dx, vs, u, rfl, h1, cl, hn, h3, k d' μ1 u F1 H1 as1 p1 g1 W1 h4⟩
theorem b_fld (c : String) (hf : Fld S.Γ c f) (h : E S e env μ fun d μ1 => E S o env μ1 fun q μ2 => ∃ (j : Nat) (fs : List (Str × D)), q = .cell j ∧ μ2[j]? = some (.ins c fs) ∧ fs.length < 1000 ∧ B S rest env (μ2.set j (.ins c (putF' f d fs))) R)
    (hs : swapsWith e (some (.Attribute o f pos')) pos.line S.X.env = pure false := by rfl) : B S (.Assign [.Attribute o f pos'] e pos :: rest) env μ R := by
  obtain ⟨C, hc, cl, hn⟩ := hf.ex
  rw [S.hK] at cl hn
  refine b_cons (PS.imp (ps_fld pe_y h hs) fun D σ H ⟨F, as, a, k⟩ => ⟨F, as, a, fun d μ1 v F1 H1 as1 p1 g1 W1 r1 => p1.go (a.go g1 W1) fun q μ2 u F2 H2 as2 ⟨j, fs, e1, hj, hl, p2⟩ g2 W2 r2 => ?_⟩)
  subst e1
  cases r2 with
  | @cell _ ad ha =>
    obtain ⟨k0, nF, C', dx, vs, hc', h1, h2⟩ := W2.ok j ad _ ha hj
    have e2 := hc'
    rw [hc] at e2
    obtain rfl := Option.some.inj e2
    refine ⟨ad.a, C, dx, vs, rfl, h1, cl, hn, by rw [h2.length]; exact hl, ?_⟩
    obtain ⟨W3, g3⟩ := W2.setO (o := .ins C dx (putF f v vs)) (c := .ins c (putF' f d fs)) ha nF ⟨k0, nF, C, dx, _, hc, upd_same, h2.put (r1.mono g2)⟩
    exact k.nx _ _ _ F2 _ as2 p2 ((g1.trans g2).trans g3) ((((a.e.mono g1).mono g2)).mono g3) W3
/-- a method by its name -/
structure Mth (P : Program) (w : World) (K : PySem.W.Frag) (mg : Str → Option Value) (base : Heap) (Γ : Gam) (k : Nat) (c : String) (m : Str) (C : Ct) : Prop where
  ex : ∃ Ca f fd ps, Γ.cls c = some Ca ∧ Cls K Ca ∧ Meth K Ca m f ∧ Gd.FnG P w K mg base (L2.CX P w) k f fd ps (spM Γ C) ∧ Binds K fd ps []
theorem e_meth0 {pl : Sem Bool} (M : Mth S.X.prog S.X.w S.X.K S.X.mg S.X.base S.Γ k c m C)
    (h : E S o env μ fun d μ1 => (∃ fs, vw μ1 d = .ins c fs ∧ fs.lookup m = none) ∧ C [d] μ1 P (fun x m => S.Z x env m)) (hkj : k ≤ S.k := by first | decide | assumption | omega) (hc : S.X.calm = true := by rfl)
    (ht : eval (.Call (.Attribute o m apos) [] [] pos) S.X.env = (do
      let ov ← eval o S.X.env
      standAt apos.atName
      let (f, first) ← holding [ov] (getMethod ov m pl)
      callWith pos f first (backTo pos (starEach [] S.X.env)) (backToKw pos (keywordEach [] S.X.env))) := by rfl) : E S (.Call (.Attribute o m apos) [] [] pos) env μ P := by
  obtain ⟨Ca, f, fd, ps, hcl, cl, hm, F1, hb⟩ := M.ex
  refine ⟨fun pins s σ H Q I ⟨F, as, a, k0⟩ => PySem.W.methodCall_KW (pl := pl) (thn (h.run pins s σ H (fun x H1 => ∃ p dx vs, x = .ref p ∧ H1 p = some (.ins Ca dx vs) ∧ vs.lookup m = none ∧ spM S.Γ C ([x] ++ []) H1 Q (fun cls d H' => Wk S.X cls d σ H')) I ⟨F, as, a, ?_⟩) ?_) ht⟩
  · intro d μ1 v F2 H2 as2 ⟨⟨fs, hv, hl⟩, p1⟩ g1 W1 r1
    obtain ⟨p, C', dx, vs, rfl, hc', h1, h2⟩ := W1.ins r1 hv
    rw [hcl] at hc'
    obtain rfl := Option.some.inj hc'
    exact ⟨p, dx, vs, rfl, h1, h2.lookN hl, spM_of (ds := [d]) p1 (a.go g1 W1) (.cons r1 .nil) (k0.go g1)⟩
  · intro u s1 ⟨xx, H1, I1, rx, p, dx, vs, ex, ea, l, q⟩
    subst ex
    obtain rfl : u = Value.ref p := rx
    exact getmeth_ok I1 ea cl hm l (PySem.W.callWith_K0 (first := [.ref p]) I1.kIn hm.kp (run_fnM (us := [.ref p]) (vs := [.ref p]) F1 S.hg ⟨I1.ok.hd hc, (S.rm.mono hkj).dp, (S.rm.mono hkj).un⟩ hb .nil I1 (.cons rfl .nil) q))
/-! ### making -/
/-- a new instance beside its dict -/
theorem Wd.born {Γ : Gam} {F H : Hp} {as : List Ad} {Ca : Addr} (W : Wd Γ F H as μ) (hc : Γ.cls c = some Ca) {x dx : Addr} (nx : H x = none) (nd : H dx = none) (ne : dx ≠ x) :
    Wd Γ F (upd (upd H dx (.own x)) x (.ins Ca dx [])) (as ++ [⟨x, none⟩]) (μ ++ [.ins c []]) ∧ Go F H as F (upd (upd H dx (.own x)) x (.ins Ca dx [])) (as ++ [⟨x, none⟩]) := by
  obtain ⟨f1, f2⟩ := W.nofree nd
  have W1 := W.off (o := .own x) f1 f2
  have nx1 : upd H dx (.own x) x = none := by rw [upd_ne (fun z => ne z.symm)]; exact nx
  have z := W1.addO (c := .ins c []) (o := .ins Ca dx []) nx1 fun nF => ⟨rfl, nF, Ca, dx, [], hc, upd_same, .nil⟩
  exact ⟨z.1, ((Go.refl F H as).off nd).trans z.2⟩
/-- a class by its name, and what its __init__ promises -/
structure Mak (P : Program) (w : World) (K : PySem.W.Frag) (mg : Str → Option Value) (base : Heap) (Γ : Gam) (k : Nat) (c : String) (x : Str) (C : Ct) : Prop where
  ex : ∃ Ca f fd ps, Γ.cls c = some Ca ∧ Mk K Ca f ∧ mg x = some (.ref Ca) ∧ Gd.FnG P w K mg base (L2.CX P w) k f fd ps (spM Γ C) ∧ Binds K fd ps []
theorem run_makeM {X : Cx} {f Ca : Addr} {fd : FuncData} {ps : List Str} {sp : Sp} {pins : List (Addr × Obj)} {σ : L2.St} {H : Hp} {s : Shared} {Q : VK} {us : List Value} {vs : List V} (M : Mk X.K Ca f)
    (G : Gd.FnG X.prog X.w X.K X.mg X.base (L2.CX X.prog X.w) k f fd ps sp) (gX : X.A.guards = some []) (hr : Room (k + 1) X.A) (hb : Binds X.K fd ps []) (I : Inv X pins σ H s) (r : Vals vs us)
    (h : ∀ x dx, H x = none → H dx = none → dx ≠ x → sp (.ref x :: vs) (upd (upd H dx (.own x)) x (.ins Ca dx [])) (fun v H2 => v = .non ∧ Q (.ref x) H2) (fun cls d H' => Wk X cls d σ H')) :
    wpAny (model X.prog X.w) X.A (call (.ref Ca) us) (EP X pins σ Q) X.xe s := by
  have hq := h (s.heap.objs.size + 1) s.heap.objs.size (I.hok.fresh (Nat.le_succ _)) (I.hok.fresh (Nat.le_refl _)) (Nat.ne_of_lt (Nat.lt_succ_self _))
  have J := Inv.made (C := Ca) I
  have rr : Vals (V.ref (s.heap.objs.size + 1) :: vs) (Value.ref (s.heap.objs.size + 1) :: us) := .cons rfl r
  have hl : ((Value.ref (s.heap.objs.size + 1) :: us) ++ []).length = ps.length := by
    rw [List.append_nil]
    exact rr.length.symm.trans (G.lenG _ _ _ _ hq)
  have bd := hb _ (Value.ref (s.heap.objs.size + 1) :: us) J.kIn hl
  rw [List.append_nil] at bd
  refine wpAny_call (make_map (f := f) I.kIn M.makes M.init (beq_iff_eq.mp M.fn) (codeAny_mono (G.runG _ X.stack _ _ ⟨Value.ref (s.heap.objs.size + 1) :: us, []⟩ _ _ _ _ gX (hr.make Ca us []) (J.env0.make Ca us []) bd rr hq) fun res s' hq' => ?_))
  match res, hq' with
  | .error e, hq' => exact takes_wk _ _ (XE.of_call (W := Wk X) J (fun _ _ _ z => z) hq')
  | .ok (.ret u), hq' =>
    obtain ⟨v, H', J3, rv, ev, q3⟩ := J.after hq'
    subst ev
    exact ⟨rv, ⟨V.ref (s.heap.objs.size + 1), H', J3, rfl, q3⟩⟩
  | .ok .next, hq' => exact False.elim hq'
  | .ok .brk, hq' => exact False.elim hq'
  | .ok .cont, hq' => exact False.elim hq'
theorem e_make (M : Mak S.X.prog S.X.w S.X.K S.X.mg S.X.base S.Γ k c x C)
    (h : A S (e :: es) env μ fun ds μ1 => C (.cell μ1.length :: ds) (μ1 ++ [.ins c []]) (fun d m => d = .non ∧ P (.cell μ1.length) m) (fun x m => S.Z x env m)) (hkj : k + 1 ≤ S.k := by first | decide | assumption | omega) (hc : S.X.calm = true := by rfl)
    (hg : Gl S.X x := by rfl) (hdb : (x == ("__debug__" : Str)) = false := by decide)
    (he : starEach (e :: es) S.X.env = (false, eval e S.X.env) :: starEach es S.X.env := by rfl) (hpl : (backTo pos (starEach es S.X.env)).any (·.1) = false := by rfl) : E S (.Call (.Name x p0) (e :: es) [] pos) env μ P := by
  obtain ⟨Ca, f, fd, ps, hcl, M1, hm, F1, hb⟩ := M.ex
  refine ⟨fun pins s σ H Q I ⟨F0, as, a, k0⟩ => wpAny_Call_Name_kw (ld_glob I hg hm ?_ hdb)⟩
  refine PySem.W.callWith_K (h₀ := S.X.base) I.ok.mod.kin M1.kp (thn (h.run pos pins s σ H (fun vs H1 => ∀ x dx, H1 x = none → H1 dx = none → dx ≠ x → spM S.Γ C (.ref x :: vs) (upd (upd H1 dx (.own x)) x (.ins Ca dx [])) (fun v H2 => v = .non ∧ Q (.ref x) H2) (fun cls d H' => Wk S.X cls d σ H')) I ⟨F0, as, a, ?_⟩) ?_) he hpl
  · intro ds μ1 vs F1 H1 as1 p1 g1 W1 r1 y dx ny nd ne
    obtain ⟨W2, g2⟩ := W1.born hcl ny nd ne
    have hat : DV S.Γ F1 (as1 ++ [⟨y, none⟩]) (.ref y) (.cell μ1.length) := .cell (ad := ⟨y, none⟩) (W1.last _)
    refine ⟨F1, _, _, _, _, _, p1, .cons hat (r1.mono g2), W2, ?_, ?_⟩
    · intro d m v F3 H3 as3 ⟨e1, p3⟩ g3 W3 r3
      subst e1
      cases r3
      exact ⟨rfl, k0 _ m _ F3 H3 as3 p3 ((g1.trans g2).trans g3) W3 (hat.mono g3)⟩
    · exact fun x μ' cls dx F' H' as' z g W' xo => a.k x env μ' σ cls dx F' H' as' z ((g1.trans g2).trans g) (a.e.mono ((g1.trans g2).trans g)) W' xo
  · intro us s1 ⟨vs, H1, I1, r1, q1⟩
    exact ⟨I1.kIn, run_makeM M1 F1 S.hg ⟨I1.ok.hd hc, (S.rm.mono hkj).dp, (S.rm.mono hkj).un⟩ hb I1 r1 q1⟩
end
end Me

/-! Me10: special methods of own classes; isinstance; chains. -/
namespace Me
open PySem PySem.Spec PyProof.Rows L2
section
variable {S : Sc} {env : En} {μ : Mu} {a b e o : Expr} {es : List Expr} {rest : List Stmt} {R : Out → Prop} {pos p0 p1 pos' apos : Pos} {x f m : Str} {c : String} {P : KD} {d d1 d2 d3 : D} {k : Nat} {C : Ct}
/-- as run_fnM, somewhere beneath -/
theorem run_fnA {X : Cx} {A' : Around} {f : Addr} {fd : FuncData} {ps : List Str} {sp : Sp} {pins : List (Addr × Obj)} {σ : L2.St} {H : Hp} {s : Shared} {Q : VK} {us : List Value} {vs : List V}
    (F : Gd.FnG X.prog X.w X.K X.mg X.base (L2.CX X.prog X.w) k f fd ps sp) (gX : A'.guards = some []) (hr : Room k A') (e0 : Env0 X.prog X.w X.K X.mg X.base A' X.stack s H) (hb : Binds X.K fd ps [])
    (I : Inv X pins σ H s) (r : Vals vs us) (h : sp vs H Q (fun cls d H' => Wk X cls d σ H')) :
    wpAny (model X.prog X.w) A' (call (.ref f) us) (EP X pins σ Q) X.xe s := by
  have len : (us ++ []).length = ps.length := by rw [List.append_nil, ← r.length]; exact F.lenG _ _ _ _ h
  have bd := hb s us I.kIn len
  rw [List.append_nil] at bd
  refine wpAny_call (codeAny_mono (F.runG A' X.stack s H ⟨us, []⟩ us vs Q _ gX hr e0 bd r h) fun res s' hq => ?_)
  match res, hq with
  | .error e, hq => exact takes_wk _ _ (XE.of_call (W := Wk X) I (fun _ _ _ z => z) hq)
  | .ok (.ret u), hq => exact I.after hq
  | .ok .next, hq => exact False.elim hq
  | .ok .brk, hq => exact False.elim hq
  | .ok .cont, hq => exact False.elim hq
/-- a special method -/
structure Dn (P : Program) (w : World) (K : PySem.W.Frag) (mg : Str → Option Value) (base : Heap) (Γ : Gam) (k : Nat) (c : String) (m : Str) (C : Ct) : Prop where
  ex : ∃ Ca f fd ps, Γ.cls c = some Ca ∧ PySem.W.findIn K (.ref Ca) m = some (some (.ref f)) ∧ PySem.W.isFn K (.ref f) = true ∧ PySem.W.fnIn K f = true ∧ PySem.W.noSeq K Ca = true ∧ PySem.W.selfFirst K Ca = true ∧ Gd.FnG P w K mg base (L2.CX P w) k f fd ps (spM Γ C) ∧ Binds K fd ps []
theorem instAt {X : Cx} {pins : List (Addr × Obj)} {σ : L2.St} {H : Hp} {s : Shared} {p Ca dx : Addr} {vs : List (Str × V)} (I : Inv X pins σ H s) (h : H p = some (.ins Ca dx vs)) : ∃ od, PySem.W.InstAt s.heap p (PySem.W.instObj Ca dx) Ca (some od) := by
  obtain ⟨mA, J, _⟩ := ins_get I.hok h
  obtain ⟨od, J, _⟩ := J.look
  exact ⟨od, J⟩
/-- calls at the place itself -/
theorem Sc.room (S : Sc) {pins : List (Addr × Obj)} {σ : L2.St} {H : Hp} {s : Shared} (I : Inv S.X pins σ H s) (hc : S.X.calm = true) (h : k ≤ S.k) : Room k S.X.A := ⟨I.ok.hd hc, (S.rm.mono h).dp, (S.rm.mono h).un⟩
/-- a subscript whose receiver may have its own method -/
def Ix2' (S : Sc) (d1 d2 : D) (env : En) (μ : Mu) (P : KD) : Prop :=
  ∀ (value slice : Expr) (pins : List (Addr × Obj)) (s : Shared) (σ : L2.St) (H : Hp) (x y : V) (v u : Value) (Q : VK) (F : Hp) (as : List Ad), Inv S.X pins σ H s → RelV x v → RelV y u →
    At S env μ σ H F as → DV S.Γ F as x d1 → DV S.Γ F as y d2 → Kv S F H as P Q → subscripted slice true v u = runValue (.builtin "lifetime.subscript" ⟨[v, u], []⟩) → wpAny (model S.X.prog S.X.w) S.X.A (subscriptTail value slice v u) (EP S.X pins σ Q) S.X.xe s
theorem e_ix' (h : E S a env μ fun d1 μ1 => E S b env μ1 fun d2 μ2 => Ix2' S d1 d2 env μ2 P) (hp : ∀ v u, subscripted b true v u = runValue (.builtin "lifetime.subscript" ⟨[v, u], []⟩) := by intro _ _; with_unfolding_all rfl) : E S (.Subscript a b pos) env μ P := by
  refine ⟨fun pins s σ H Q I ⟨F, as, a1, k⟩ => ?_⟩
  refine Subscript_ (binT (R := fun x y H2 => ∃ F2 as2 d1 d2 μ2, At S env μ2 σ H2 F2 as2 ∧ DV S.Γ F2 as2 x d1 ∧ DV S.Γ F2 as2 y d2 ∧ Kv S F2 H2 as2 P Q ∧ Ix2' S d1 d2 env μ2 P) pe_y pe_y I ?_ fun v u s2 x y H2 I2 rx ry q2 => ?_)
  · exact h.go a1 fun d1 μ1 v1 F1 H1 as1 p1 g1 W1 r1 => p1.go (a1.go g1 W1) fun d2 μ2 v2 F2 H2 as2 p2 g2 W2 r2 => ⟨F2, as2, d1, d2, μ2, (a1.go g1 W1).go g2 W2, r1.mono g2, r2, (k.go g1).go g2, p2⟩
  · obtain ⟨F2, as2, d1, d2, μ2, a2, r1, r2, k2, p2⟩ := q2
    exact p2 _ _ pins s2 σ H2 x y v u Q F2 as2 I2 rx ry a2 r1 r2 k2 (hp _ _)
theorem x_ins (M : Dn S.X.prog S.X.w S.X.K S.X.mg S.X.base S.Γ k c "__getitem__" C) {fs : List (Str × D)} (hv : vw μ d1 = .ins c fs) (h : C [d1, d2] μ P (fun x m => S.Z x env m)) (hkj : k + 1 ≤ S.k := by first | decide | assumption | omega) (hc : S.X.calm = true := by rfl) :
    Ix2' S d1 d2 env μ P := by
  obtain ⟨Ca, f, fd, ps, hcl, hs, hf, hfn, _, _, F1, hb⟩ := M.ex
  intro value slice pins s σ H x y v u Q F as I rx ry a r1 r2 kk hsl
  obtain ⟨p, C', dx, vs, rfl, hc', h1, _⟩ := a.w.ins r1 hv
  rw [hcl] at hc'
  obtain rfl := Option.some.inj hc'
  cases rx
  obtain ⟨od, J⟩ := instAt I h1
  obtain ⟨m0, hF⟩ := I.fr
  refine PySem.W.sub_K hF I.ok.mod.kin J hs hfn hf (run_fnA (us := [.ref p, u]) (vs := [.ref p, y]) F1 S.hg (S.room I hc hkj).in1 I.env0.in1 hb I (.cons rfl (.cons ry .nil)) ?_) hsl
  have := spM_of (ds := [d1, d2]) (C := C) h a (.cons r1 (.cons r2 .nil)) kk
  rwa [List.append_nil] at this
end
end Me

/-! Me11: isinstance, chains of comparisons. -/
namespace Me
open PySem PySem.Spec PyProof.Rows L2
section
variable {S : Sc} {env : En} {μ : Mu} {a b c e : Expr} {pos p0 : Pos} {x : Str} {P : KD} {PB : Bool → Mu → Prop} {d : D} {i j k : Int}
/-- a class as a value -/
theorem e_ty {Tn : String} (hm : S.X.mg x = none) (hv : bootBuiltins x = some (.type Tn)) (k : P (.ty Tn) μ) (hg : Gl S.X x := by rfl) (hn : x ≠ "__name__" := by decide) (hd : (x == ("__debug__" : Str)) = false := by decide) : E S (.Name x pos) env μ P :=
  e_c (pe_bltn (v := .ty Tn) hg hm hv rfl hn hd) (fun _ _ => .ty Tn) k
theorem e_cls {cn : String} {C : Addr} (hC : S.Γ.cls cn = some C) (hm : S.X.mg x = some (.ref C)) (k : P (.cls cn) μ) (hg : Gl S.X x := by rfl) (hd : (x == ("__debug__" : Str)) = false := by decide) : E S (.Name x pos) env μ P :=
  e_c (pe_glob (v := .ref C) hg hm rfl hd) (fun _ _ => .cls hC) k
/-- a value's type -/
def TyI (S : Sc) (μ : Mu) (d : D) (t : Value) : Prop := ∀ F H as v, Wd S.Γ F H as μ → DV S.Γ F as v d → TyX S.X.K H v t
def tyN : D → Option String
  | .non => some "NoneType" | .bl _ => some "bool" | .int _ => some "int" | .str _ => some "str" | .lst _ => some "list" | .tup _ => some "tuple" | _ => none
theorem ty_dat {Tn : String} (h : tyN (vw μ d) = some Tn) : TyI S μ d (.type Tn) := fun F H as v W r => by
  by_cases hl : ∃ ds, vw μ d = .lst ds
  · obtain ⟨ds, e⟩ := hl
    obtain ⟨a, vs, rfl, h1, _⟩ := W.lst r e
    rw [e] at h
    obtain rfl := Option.some.inj h
    exact .base (.lst h1)
  · cases r with
    | non => obtain rfl := Option.some.inj h; exact .base .non
    | bl b => obtain rfl := Option.some.inj h; exact .base (.bl b)
    | int i => obtain rfl := Option.some.inj h; exact .base (.int i)
    | str x => obtain rfl := Option.some.inj h; exact .base (.str x)
    | tup h1 h2 => obtain rfl := Option.some.inj h; exact .base (.tup (W.sub _ _ h1))
    | lst h1 h2 => exact absurd ⟨_, rfl⟩ hl
    | dctK _ _ => exact nomatch h
    | dctT _ _ => exact nomatch h
    | ins _ _ _ => exact nomatch h
    | err0 _ _ => exact nomatch h
    | err1 _ _ _ _ => exact nomatch h
    | ty _ => exact nomatch h
    | tpx _ _ => exact nomatch h
    | cls _ => exact nomatch h
    | @cell m ad ha =>
      simp only [vw] at h hl
      match hm : μ[m]?, h, hl with
      | none, h, _ => exact nomatch h
      | some (.lst es), _, hl => exact absurd ⟨_, rfl⟩ hl
      | some (.dct _ _ _), h, _ => exact nomatch h
      | some (.ins _ _), h, _ => exact nomatch h
      | some .dead, h, _ => exact nomatch h
      | some (.gd _ _), h, _ => exact nomatch h
      | some (.ts _ _ _), h, _ => exact nomatch h
      | some (.gl _ _ _), h, _ => exact nomatch h
theorem ty_dct {m : Nat} {t : Bool} {kvs : List (DK × D)} (h : μ[m]? = some (.dct t none kvs)) : TyI S μ (.cell m) (.type "dict") := fun F H as v W r => by
  cases r with
  | cell ha =>
    cases t with
    | false =>
      obtain ⟨_, vs, h1, _⟩ := W.ok m _ _ ha h
      exact .base (.dK h1)
    | true =>
      obtain ⟨_, vs, h1, _⟩ := W.ok m _ _ ha h
      exact .base (.dT h1)
/-- what isinstance asks of an own class -/
structure OwnC (Γ : Gam) (c : String) (C : Addr) : Prop where
  at_ : Γ.cls c = some C
  cl : Cls Γ.K C
  ha : PySem.W.findIn Γ.K (.ref C) "__class__" = some (some (.builtin "object.__class__"))
  hn : PySem.W.specialIn Γ.K (.builtin "object.__class__") "__get__" = some (some (.builtin "getset_descriptor.__get__"))
  htk : PySem.W.takesIn Γ.K (.builtin "object.__class__") = some true
  hm : PySem.W.mroIn Γ.K C (.type "object") = some true
theorem ty_ins {cn : String} {C : Addr} {fs : List (Str × D)} (O : OwnC S.Γ cn C) (h : vw μ d = .ins cn fs) : TyI S μ d (.ref C) := fun F H as v W r => by
  obtain ⟨a, C', dx, vs, rfl, hc, h1, _⟩ := W.ins r h
  rw [O.at_] at hc
  obtain rfl := Option.some.inj hc
  have := S.hK
  exact .base (.ins h1 (this ▸ O.cl) (this ▸ O.ha) (this ▸ O.hn) (this ▸ O.htk) (this ▸ O.hm))
/-- what a class is in the model -/
def clsV (Γ : Gam) : D → Option Value
  | .ty n => some (.type n)
  | .cls c => (Γ.cls c).map .ref
  | _ => none
def clsVs (Γ : Gam) : List D → Option (List Value)
  | [] => some []
  | d :: ds => (clsV Γ d).bind fun u => (clsVs Γ ds).bind fun us => some (u :: us)
theorem clsV_of {Γ : Gam} {F : Hp} {as : List Ad} {v : V} {u : Value} (r : DV Γ F as v d) (h : clsV Γ d = some u) : ClsV v u := by
  cases r with
  | ty n => obtain rfl := Option.some.inj h; exact .ty n
  | cls hc =>
    simp only [clsV, hc, Option.map_some] at h
    obtain rfl := Option.some.inj h
    exact .own _
  | _ => exact nomatch h
theorem clsVs_of {Γ : Gam} {F : Hp} {as : List Ad} : ∀ {ds : List D} {vs : List V} {us : List Value}, DVs Γ F as vs ds → clsVs Γ ds = some us → Paired ClsV vs us
  | [], _, us, .nil, h => by obtain rfl := Option.some.inj h; exact .nil
  | d :: ds, _, us, .cons r t, h => by
    unfold clsVs at h
    cases e1 : clsV Γ d with
    | none => rw [e1] at h; exact nomatch h
    | some u =>
      cases e2 : clsVs Γ ds with
      | none => rw [e1, e2] at h; exact nomatch h
      | some ws =>
        rw [e1, e2] at h
        obtain rfl := Option.some.inj h
        exact .cons (clsV_of r e1) (clsVs_of t e2)
theorem c_isi {t u : Value} {q : Bool} {dc : D} (ht : TyI S μ d t) (hu : clsV S.Γ dc = some u) (hk : PySem.W.kitOne S.X.K t u = some q) (k : P (.bl q) μ) : Cl S (.builtin "isinstance") [d, dc] env μ P :=
  Cl.of call_isi fun F H as xs Q W r kk => by
    obtain ⟨x, y, rfl, r1, r2⟩ := dvs2 r
    exact ⟨x, y, t, u, q, rfl, clsV_of r2 hu, ht F H as x W r1, hk, kk.now W k (.bl q)⟩
/-! ### a <= b < c -/
theorem e_chLt (h : E S a env μ fun d1 μ1 => E S b env μ1 fun d2 μ2 => ∃ i j, d1 = .int i ∧ d2 = .int j ∧ (i ≤ j → E S c env μ2 fun d3 μ3 => ∃ k, d3 = .int k ∧ P (.bl (decide (j < k))) μ3) ∧ (¬ i ≤ j → P (.bl false) μ2)) (hm : lastMarks [.LtE, .Lt] [b, c] = false := by with_unfolding_all rfl) :
    E S (.Compare a [.LtE, .Lt] [b, c] pos) env μ P := by
  refine PE.imp (pe_chain op_le op_lt pe_y pe_y pe_y hm) fun σ H Q ⟨F, as, a1, kk⟩ => h.go a1 fun d1 μ1 v1 F1 H1 as1 p1 g1 W1 r1 => p1.go (a1.go g1 W1) fun d2 μ2 v2 F2 H2 as2 ⟨i, j, e1, e2, pt, pf⟩ g2 W2 r2 => ?_
  subst e1 e2
  cases r1
  cases r2
  refine ⟨i, j, rfl, rfl, _, rfl, ?_⟩
  by_cases hij : i ≤ j
  · rw [decide_eq_true hij, if_pos rfl]
    refine (pt hij).go ((a1.go g1 W1).go g2 W2) fun d3 μ3 v3 F3 H3 as3 ⟨k, e3, p3⟩ g3 W3 r3 => ?_
    subst e3
    cases r3
    exact ⟨j, k, rfl, rfl, kk _ μ3 _ F3 H3 as3 p3 ((g1.trans g2).trans g3) W3 (.bl _)⟩
  · rw [decide_eq_false hij, if_neg (by decide)]
    exact kk _ μ2 _ F2 H2 as2 (pf hij) (g1.trans g2) W2 (.bl false)
theorem t_chLe (h : E S a env μ fun d1 μ1 => E S b env μ1 fun d2 μ2 => ∃ i j, d1 = .int i ∧ d2 = .int j ∧ (i ≤ j → E S c env μ2 fun d3 μ3 => ∃ k, d3 = .int k ∧ PB (decide (j ≤ k)) μ3) ∧ (¬ i ≤ j → PB false μ2)) (hm : lastMarks [.LtE, .LtE] [b, c] = false := by with_unfolding_all rfl) :
    T S (.Compare a [.LtE, .LtE] [b, c] pos) env μ PB := by
  refine PT.imp (pt_chain op_le op_le pe_y pe_y pe_y hm) fun σ H Q ⟨F, as, a1, kk⟩ => h.go a1 fun d1 μ1 v1 F1 H1 as1 p1 g1 W1 r1 => p1.go (a1.go g1 W1) fun d2 μ2 v2 F2 H2 as2 ⟨i, j, e1, e2, pt, pf⟩ g2 W2 r2 => ?_
  subst e1 e2
  cases r1
  cases r2
  refine ⟨i, j, rfl, rfl, _, rfl, ?_⟩
  by_cases hij : i ≤ j
  · rw [decide_eq_true hij, if_pos rfl]
    refine (pt hij).go ((a1.go g1 W1).go g2 W2) fun d3 μ3 v3 F3 H3 as3 ⟨k, e3, p3⟩ g3 W3 r3 => ?_
    subst e3
    cases r3
    exact ⟨j, k, rfl, rfl, _, rfl, kk _ μ3 F3 H3 as3 p3 ((g1.trans g2).trans g3) W3⟩
  · rw [decide_eq_false hij, if_neg (by decide)]
    exact ⟨false, rfl, kk _ μ2 F2 H2 as2 (pf hij) (g1.trans g2) W2⟩
end
end Me

/-! Me12: dicts. -/
namespace Me
open PySem PySem.Spec PyProof.Rows L2
def asKey : D → Option Key
  | .int i => some (.inl i)
  | .str x => some (.inr x)
  | _ => none
def asKeys : List D → Option (List Key)
  | [] => some []
  | d :: ds => match asKey d, asKeys ds with
    | some k, some ks => some (k :: ks)
    | _, _ => none
/-- a value as a key of a dict by keys (false), by tuples (true) -/
def asDK : Bool → D → Option DK
  | false, d => (asKey d).map .k
  | true, .tup ds => (asKeys ds).map .t
  | true, _ => none
theorem asKeys_strs : ∀ n : List Str, asKeys (n.map D.str) = some (n.map Sum.inr)
  | [] => rfl
  | x :: n => by rw [List.map_cons, asKeys, asKeys_strs n]; rfl
abbrev nmK (n : List Str) : DK := .t (n.map Sum.inr)
theorem asDK_name (n : List Str) : asDK true (.tup (n.map D.str)) = some (nmK n) := by
  show (asKeys (n.map D.str)).map DK.t = _
  rw [asKeys_strs]; rfl
/-- what a dict holds at a key; a dict with a key put, dropped -/
def valD (kvs : List (DK × D)) (k : DK) : Option D := (kvs.find? fun kv => decide (kv.1 = k)).map (·.2)
def putD (kvs : List (DK × D)) (k : DK) (d : D) : List (DK × D) := if (kvs.any fun kv => decide (kv.1 = k)) = true then kvs.map (fun kv => if kv.1 = k then (kv.1, d) else kv) else kvs ++ [(k, d)]
def delD (kvs : List (DK × D)) (k : DK) : List (DK × D) := kvs.filter fun kv => decide (kv.1 ≠ k)
section
variable {Γ : Gam} {F H : Hp} {as : List Ad} {μ : Mu} {v : V} {d : D} {t : Bool} {kvs : List (DK × D)}
theorem DV.key {k : Key} (r : DV Γ F as v d) (h : asKey d = some k) : v = kV k := by
  cases r with
  | int i => obtain rfl := Option.some.inj h; rfl
  | str x => obtain rfl := Option.some.inj h; rfl
  | _ => exact nomatch h
theorem DVs.keys : ∀ {ds : List D} {vs : List V} {ks : List Key}, DVs Γ F as vs ds → asKeys ds = some ks → vs = ks.map kV
  | [], _, _, .nil, h => by obtain rfl := Option.some.inj h; rfl
  | d :: ds, _, _, .cons r t, h => by
    unfold asKeys at h
    cases e1 : asKey d with
    | none => rw [e1] at h; exact nomatch h
    | some k =>
      cases e2 : asKeys ds with
      | none => rw [e1, e2] at h; exact nomatch h
      | some ks =>
        rw [e1, e2] at h
        obtain rfl := Option.some.inj h
        rw [r.key e1, t.keys e2]; rfl
theorem DV.keyT {ks : List Key} (r : DV Γ F as v d) (h : asDK true d = some (.t ks)) : ∃ b, v = .ref b ∧ F b = some (.tup (ks.map kV)) := by
  cases r with
  | tup h1 h2 =>
    obtain ⟨ks', e1, e2⟩ := Option.map_eq_some_iff.mp h
    obtain rfl := DK.t.inj e2
    rw [h2.keys e1] at h1
    exact ⟨_, rfl, h1⟩
  | _ => exact nomatch h
theorem asDK_k {k : DK} (h : asDK false d = some k) : ∃ x, k = .k x ∧ asKey d = some x := by
  obtain ⟨x, e1, e2⟩ := Option.map_eq_some_iff.mp h
  exact ⟨x, e2.symm, e1⟩
theorem asDK_t {k : DK} (h : asDK true d = some k) : ∃ x, k = .t x := by
  cases d with
  | tup ds => obtain ⟨x, e1, e2⟩ := Option.map_eq_some_iff.mp h; exact ⟨x, e2.symm⟩
  | _ => exact nomatch h
/-- how what a dict holds is told -/
def RO (Γ : Gam) (F : Hp) (as : List Ad) : Option V → Option D → Prop
  | some v, some d => DV Γ F as v d
  | none, none => True
  | _, _ => False
theorem valD_cons (p : DK × D) (kvs : List (DK × D)) (k : DK) : valD (p :: kvs) k = if p.1 = k then some p.2 else valD kvs k := by
  unfold valD
  rw [List.find?_cons]
  by_cases h : p.1 = k
  · rw [decide_eq_true h, if_pos h]; rfl
  · rw [decide_eq_false h, if_neg h]
theorem DKs.val : ∀ {vs : List (Key × V)} {kvs : List (DK × D)} (k : Key), DKs Γ F as vs kvs → RO Γ F as (valV vs k) (valD kvs (.k k))
  | _, _, _, .nil => trivial
  | _, _, k, @DKs.cons _ _ _ k' v vs d ds h t => by
    rw [valD_cons]
    by_cases e : k' = k
    · rw [valV_pos e, if_pos (by rw [e])]; exact h
    · rw [valV_neg e, if_neg (fun z => e (DK.k.inj z))]; exact t.val k
theorem DTs.val : ∀ {vs : List (List Key × V)} {kvs : List (DK × D)} (k : List Key), DTs Γ F as vs kvs → RO Γ F as (valV vs k) (valD kvs (.t k))
  | _, _, _, .nil => trivial
  | _, _, k, @DTs.cons _ _ _ k' v vs d ds h t => by
    rw [valD_cons]
    by_cases e : k' = k
    · rw [valV_pos e, if_pos (by rw [e])]; exact h
    · rw [valV_neg e, if_neg (fun z => e (DK.t.inj z))]; exact t.val k
theorem RO.isSome : ∀ {o : Option V} {p : Option D}, RO Γ F as o p → o.isSome = p.isSome
  | some _, some _, _ => rfl
  | none, none, _ => rfl
theorem DKs.length : ∀ {vs : List (Key × V)} {kvs : List (DK × D)}, DKs Γ F as vs kvs → vs.length = kvs.length
  | _, _, .nil => rfl
  | _, _, .cons _ t => congrArg (· + 1) t.length
theorem DTs.length : ∀ {vs : List (List Key × V)} {kvs : List (DK × D)}, DTs Γ F as vs kvs → vs.length = kvs.length
  | _, _, .nil => rfl
  | _, _, .cons _ t => congrArg (· + 1) t.length
theorem valD_any (k : DK) : ∀ kvs : List (DK × D), (kvs.any fun kv => decide (kv.1 = k)) = (valD kvs k).isSome
  | [] => rfl
  | p :: r => by
    rw [List.any_cons, valD_cons, valD_any k r]
    by_cases e : p.1 = k
    · rw [if_pos e, decide_eq_true e]; rfl
    · rw [if_neg e, decide_eq_false e, Bool.false_or]
theorem DKs.map (k : Key) (r : DV Γ F as v d) : ∀ {vs : List (Key × V)} {kvs : List (DK × D)}, DKs Γ F as vs kvs → DKs Γ F as (vs.map fun kv => if kv.1 = k then (kv.1, v) else kv) (kvs.map fun kv => if kv.1 = .k k then (kv.1, d) else kv)
  | _, _, .nil => .nil
  | _, _, @DKs.cons _ _ _ k' v' vs d' ds h t => by
    rw [List.map_cons, List.map_cons]
    by_cases e : k' = k
    · rw [if_pos e, if_pos (by rw [e])]; exact .cons r (t.map k r)
    · rw [if_neg e, if_neg (fun z => e (DK.k.inj z))]; exact .cons h (t.map k r)
theorem DTs.map (k : List Key) (r : DV Γ F as v d) : ∀ {vs : List (List Key × V)} {kvs : List (DK × D)}, DTs Γ F as vs kvs → DTs Γ F as (vs.map fun kv => if kv.1 = k then (kv.1, v) else kv) (kvs.map fun kv => if kv.1 = .t k then (kv.1, d) else kv)
  | _, _, .nil => .nil
  | _, _, @DTs.cons _ _ _ k' v' vs d' ds h t => by
    rw [List.map_cons, List.map_cons]
    by_cases e : k' = k
    · rw [if_pos e, if_pos (by rw [e])]; exact .cons r (t.map k r)
    · rw [if_neg e, if_neg (fun z => e (DK.t.inj z))]; exact .cons h (t.map k r)
theorem DKs.snoc (k : Key) (r : DV Γ F as v d) : ∀ {vs : List (Key × V)} {kvs : List (DK × D)}, DKs Γ F as vs kvs → DKs Γ F as (vs ++ [(k, v)]) (kvs ++ [(.k k, d)])
  | _, _, .nil => .cons r .nil
  | _, _, .cons h t => .cons h (t.snoc k r)
theorem DTs.snoc (k : List Key) (r : DV Γ F as v d) : ∀ {vs : List (List Key × V)} {kvs : List (DK × D)}, DTs Γ F as vs kvs → DTs Γ F as (vs ++ [(k, v)]) (kvs ++ [(.t k, d)])
  | _, _, .nil => .cons r .nil
  | _, _, .cons h t => .cons h (t.snoc k r)
theorem DKs.put {vs : List (Key × V)} (k : Key) (r : DV Γ F as v d) (h : DKs Γ F as vs kvs) : DKs Γ F as (putK vs k v) (putD kvs (.k k) d) := by
  unfold putK putD
  rw [valV_any, valD_any, (h.val k).isSome]
  split
  · exact h.map k r
  · exact h.snoc k r
theorem DTs.put {vs : List (List Key × V)} (k : List Key) (r : DV Γ F as v d) (h : DTs Γ F as vs kvs) : DTs Γ F as (putK vs k v) (putD kvs (.t k) d) := by
  unfold putK putD
  rw [valV_any, valD_any, (h.val k).isSome]
  split
  · exact h.map k r
  · exact h.snoc k r
/-- a dict, a cell's or a stable one -/
def DctAt (Γ : Gam) (F H : Hp) (as : List Ad) (a : Addr) : Bool → List (DK × D) → Prop
  | false, kvs => ∃ vs, Rd H a (.dK vs) ∧ DKs Γ F as vs kvs
  | true, kvs => ∃ vs, Rd H a (.dT vs) ∧ DTs Γ F as vs kvs
theorem Wd.dct (W : Wd Γ F H as μ) (r : DV Γ F as v d) (h : vw μ d = .dct t kvs) : ∃ a, v = .ref a ∧ DctAt Γ F H as a t kvs := by
  cases r with
  | dctK h1 h2 =>
    obtain ⟨rfl, rfl⟩ := D.dct.inj h
    exact ⟨_, rfl, _, .inr ⟨_, W.sub _ _ h1⟩, h2⟩
  | dctT h1 h2 =>
    obtain ⟨rfl, rfl⟩ := D.dct.inj h
    exact ⟨_, rfl, _, .inr ⟨_, W.sub _ _ h1⟩, h2⟩
  | @cell j ad h1 =>
    simp only [vw] at h
    match hm : μ[j]?, h with
    | none, h => cases h
    | some (.lst _), h => cases h
    | some (.ins _ _), h => cases h
    | some .dead, h => cases h
    | some (.gd _ _), h => cases h
    | some (.ts _ _ _), h => cases h
    | some (.gl _ _ _), h => cases h
    | some (.dct false lk ks), h =>
      obtain ⟨rfl, rfl⟩ := D.dct.inj h
      obtain ⟨_, vs, h2, h3⟩ := W.ok j ad _ h1 hm
      exact ⟨_, rfl, vs, h2.rd, h3⟩
    | some (.dct true lk ks), h =>
      obtain ⟨rfl, rfl⟩ := D.dct.inj h
      obtain ⟨_, vs, h2, h3⟩ := W.ok j ad _ h1 hm
      exact ⟨_, rfl, vs, h2.rd, h3⟩
  | _ => cases h
theorem DctAt.get {a : Addr} {y : V} {dk : D} {k : DK} (h : DctAt Γ F H as a t kvs) (s : Same F H) (r : DV Γ F as y dk) (hk : asDK t dk = some k) : ∃ o, DGet H a y o ∧ RO Γ F as o (valD kvs k) := by
  cases t with
  | false =>
    obtain ⟨vs, h1, h2⟩ := h
    obtain ⟨x, rfl, e⟩ := asDK_k hk
    rw [r.key e]
    exact ⟨_, .inl ⟨vs, x, h1, rfl, rfl⟩, h2.val x⟩
  | true =>
    obtain ⟨vs, h1, h2⟩ := h
    obtain ⟨x, rfl⟩ := asDK_t hk
    obtain ⟨b, rfl, e⟩ := r.keyT hk
    exact ⟨_, .inr ⟨vs, x, b, h1, rfl, s _ _ e, rfl⟩, h2.val x⟩
end
section
variable {S : Sc} {env : En} {μ : Mu} {P : KD} {d d1 d2 d3 : D} {t : Bool} {kvs : List (DK × D)} {k : DK} {pos : Pos}
theorem o_notInD (hv : vw μ d2 = .dct t kvs) (hk : asDK t d1 = some k) (h : P (.bl (!(valD kvs k).isSome)) μ) : Op2 S (compareOp .NotIn) d1 d2 env μ P := by
  intro pins s σ H x y v u Q F as I rx ry a r1 r2 kk
  obtain ⟨p, rfl, dc⟩ := a.w.dct r2 hv
  obtain ⟨o, g, ro⟩ := dc.get a.w.sub r1 hk
  cases ry
  refine d_notIn (by have := S.hu; omega) I g rx fun s3 I3 => ⟨.bl (!o.isSome), H, I3, rfl, ?_⟩
  rw [ro.isSome]
  exact kk.now a.w h (.bl _)
theorem x_dct (hv : vw μ d1 = .dct t kvs) (hk : asDK t d2 = some k) (hd : valD kvs k = some d) (h : P d μ) : Ix2 S d1 d2 env μ P := by
  intro value slice pins s σ H x y v u Q F as I rx ry a r1 r2 kk hs
  obtain ⟨p, rfl, dc⟩ := a.w.dct r1 hv
  obtain ⟨o, g, ro⟩ := dc.get a.w.sub r2 hk
  cases rx
  rw [hd] at ro
  cases o with
  | none => exact ro.elim
  | some w0 =>
    have hT := dict_typeIs I g
    have get : wpAny (model S.X.prog S.X.w) S.X.A (getItem (.ref p) u) (EP S.X pins σ Q) S.X.xe s := d_getItem (by have := S.hu; omega) I g ry fun w' s3 I3 rw' => ⟨w0, H, I3, rw', kk.now a.w h ro⟩
    unfold subscriptTail; refine wpAny_bind ?_; rw [getitemInPython_of_ne hT.not_modules]
    refine wpAny_bind (wpAny_specialOf hT PySem.F.slot_dict_getitem.lookup ?_)
    have fin : wpAny (model S.X.prog S.X.w) S.X.A (subscripted slice false (.ref p) u) (fun r s₃ => wpAny (model S.X.prog S.X.w) S.X.A (letTemporaryGo value (.ref p) r >>= fun _ => pure r) (EP S.X pins σ Q) S.X.xe s₃) S.X.xe s := by
      rw [hs]; exact wpAny_operating (thn get fun r s₃ h₃ => wpAny_bind (wpAny_letTemporaryGo (wpAny_pure h₃)))
    first
      | exact wpAny_pure (wpAny_bind fin) | exact wpAny_bind (wpAny_pure (wpAny_bind fin)) | exact wpAny_bind fin
/-- a dict cell is changed -/
theorem Wd.setD {Γ : Gam} {F H : Hp} {as : List Ad} {m : Nat} {ad : Ad} {o : HO} {es : List (DK × D)} (W : Wd Γ F H as μ) (ha : as[m]? = some ad) (hc : μ[m]? = some (.dct t none es))
    (h : F ad.a = none → CellOk Γ F (upd H ad.a o) as ad (.dct t none kvs)) : Wd Γ F (upd H ad.a o) as (μ.set m (.dct t none kvs)) ∧ Go F H as F (upd H ad.a o) as := by
  cases t with
  | false =>
    obtain ⟨nF, vs, _, _⟩ := W.ok m ad _ ha hc
    exact W.setO ha nF (h nF)
  | true =>
    obtain ⟨nF, vs, _, _⟩ := W.ok m ad _ ha hc
    exact W.setO ha nF (h nF)
theorem t_setD {m : Nat} {P : Mu → Prop} (hc : μ[m]? = some (.dct t none kvs)) (hk : asDK t d2 = some k) (hz : kvs.length < sizeLine) (h : P (μ.set m (.dct t none (putD kvs k d3)))) : St3 S (.cell m) d2 d3 env μ P := by
  intro pins s σ H x y z ov iv u Q F as I rx ry rz a r1 r2 r3 kk
  cases r1 with
  | @cell _ ad ha =>
    cases rx
    cases t with
    | false =>
      obtain ⟨nF, vs, h1, h2⟩ := a.w.ok m ad _ ha hc
      obtain ⟨x, rfl, e⟩ := asDK_k hk
      obtain rfl := r2.key e
      obtain ⟨W2, g2⟩ := a.w.setD (o := .dK (putK vs x z)) (kvs := putD kvs (.k x) d3) ha hc fun nF => ⟨nF, _, upd_same, h2.put x r3⟩
      exact d_setItem (by have := S.hu; omega) I (DPut.k h1 (by rw [h2.length]; exact hz)) ry rz fun s3 I3 => ⟨_, I3, kk _ _ _ _ h g2 W2⟩
    | true =>
      obtain ⟨nF, vs, h1, h2⟩ := a.w.ok m ad _ ha hc
      obtain ⟨x, rfl⟩ := asDK_t hk
      obtain ⟨b, rfl, e⟩ := r2.keyT hk
      obtain ⟨W2, g2⟩ := a.w.setD (o := .dT (putK vs x z)) (kvs := putD kvs (.t x) d3) ha hc fun nF => ⟨nF, _, upd_same, h2.put x r3⟩
      exact d_setItem (by have := S.hu; omega) I (DPut.t h1 (a.w.sub _ _ e) (by rw [h2.length]; exact hz)) ry rz fun s3 I3 => ⟨_, I3, kk _ _ _ _ h g2 W2⟩
/-- {} -/
theorem e_dict0 (t : Bool) (h : P (.cell μ.length) (μ ++ [.dct t none []])) : E S (.Dict [] [] pos) env μ P := by
  cases t with
  | false =>
    refine PE.imp pe_dnewK fun σ H Q ⟨F, as, a, k⟩ p np => ?_
    obtain ⟨W3, g3⟩ := a.w.addO (o := .dK []) (c := .dct false none []) np fun nF => ⟨nF, [], upd_same, .nil⟩
    exact k _ _ _ _ _ _ h g3 W3 (.cell (ad := ⟨p, none⟩) (a.w.last _))
  | true =>
    refine PE.imp pe_dnewT fun σ H Q ⟨F, as, a, k⟩ p np => ?_
    obtain ⟨W3, g3⟩ := a.w.addO (o := .dT []) (c := .dct true none []) np fun nF => ⟨nF, [], upd_same, .nil⟩
    exact k _ _ _ _ _ _ h g3 W3 (.cell (ad := ⟨p, none⟩) (a.w.last _))
end
end Me

/-! Me13: dicts: len, locks, walks, comprehensions. -/
namespace Me
open PySem PySem.Spec PyProof.Rows L2
/-- a key as a value -/
def dkD : DK → D
  | .k x => keyD x
  | .t xs => .tup (xs.map keyD)
section
variable {Γ : Gam} {F H : Hp} {as : List Ad} {μ : Mu}
theorem DV.ofKey (k : Key) : DV Γ F as (kV k) (keyD k) := by cases k with
  | inl i => exact .int i
  | inr x => exact .str x
theorem DVs.ofKeys : ∀ ks : List Key, DVs Γ F as (ks.map kV) (ks.map keyD)
  | [] => .nil
  | k :: ks => .cons (DV.ofKey k) (DVs.ofKeys ks)
theorem DKs.at : ∀ {vs : List (Key × V)} {kvs : List (DK × D)} {i : Nat} {k : Key} {v : V}, DKs Γ F as vs kvs → vs[i]? = some (k, v) → ∃ d, kvs[i]? = some (.k k, d) ∧ DV Γ F as v d
  | _, _, _, _, _, .nil, e => by simp at e
  | _, _, 0, _, _, .cons h _, e => by simp at e; obtain ⟨rfl, rfl⟩ := e; exact ⟨_, rfl, h⟩
  | _, _, i + 1, k, v, .cons _ t, e => by
    obtain ⟨d, h1, h2⟩ := DKs.at (i := i) t (by simpa using e)
    exact ⟨d, by simpa using h1, h2⟩
theorem DTs.at : ∀ {vs : List (List Key × V)} {kvs : List (DK × D)} {i : Nat} {k : List Key} {v : V}, DTs Γ F as vs kvs → vs[i]? = some (k, v) → ∃ d, kvs[i]? = some (.t k, d) ∧ DV Γ F as v d
  | _, _, _, _, _, .nil, e => by simp at e
  | _, _, 0, _, _, .cons h _, e => by simp at e; obtain ⟨rfl, rfl⟩ := e; exact ⟨_, rfl, h⟩
  | _, _, i + 1, k, v, .cons _ t, e => by
    obtain ⟨d, h1, h2⟩ := DTs.at (i := i) t (by simpa using e)
    exact ⟨d, by simpa using h1, h2⟩
end
section
variable {S : Sc} {env : En} {μ : Mu} {P : KD} {d : D} {t : Bool} {kvs : List (DK × D)} {pos p0 p1 : Pos} {e iter tg : Expr} {PI : KI} {j : Nat}
theorem c_lenD (hc : μ[j]? = some (.dct t none kvs)) (h : P (.int kvs.length) μ) : Cl S (.builtin "len") [.cell j] env μ P := by
  intro pins s σ H xs us Q F as I rx a r0 kk
  obtain ⟨x, rfl, r1⟩ := dvs1 r0
  cases r1 with
  | @cell _ ad ha =>
    cases t with
    | false =>
      obtain ⟨_, vs, h1, h2⟩ := a.w.ok j ad _ ha hc
      cases rx with
      | cons rx rt =>
        cases rt
        cases rx
        exact d_len I (.inl h1) fun tk s' I' => ⟨.int vs.length, H, I', ⟨tk, rfl⟩, by rw [h2.length]; exact kk.now a.w h (.int _)⟩
    | true =>
      obtain ⟨_, vs, h1, h2⟩ := a.w.ok j ad _ ha hc
      exact call_len_dT pins s σ H _ us Q I rx ⟨_, vs, rfl, h1, by rw [h2.length]; exact kk.now a.w h (.int _)⟩
/-- the scene where nothing is raised -/
abbrev Sc.cold (S : Sc) : Sc := { S with Z := fun _ _ _ => False }
theorem ko_cold {F H : Hp} {as : List Ad} : Ko S.cold F H as := fun _ _ _ _ _ _ _ _ _ z => z.elim
/-- while a dict is locked -/
theorem e_lock (j : Nat) (hj : μ[j]? = some (.dct t none kvs)) (h : ∀ q, E S.cold e env (μ.set j (.dct t (some q) kvs)) fun d m => m[j]? = some (.dct t (some q) kvs) ∧ P d (m.set j (.dct t none kvs))) : E S e env μ P := by
  have h2 : PE S.X e (fun σ H Q => ∃ q, rdE S.cold env (μ.set j (.dct t (some q) kvs)) (fun d m => m[j]? = some (.dct t (some q) kvs) ∧ P d (m.set j (.dct t none kvs))) σ H Q) := ⟨fun pins s σ H Q I ⟨q, z⟩ => (h q).run pins s σ H Q I z⟩
  refine PE.imp (pe_lock h2) fun σ H Q ⟨F, as, a, kk⟩ => ?_
  obtain ⟨ad, hat, ck⟩ := a.w.adAt hj
  cases t with
  | false =>
    obtain ⟨nF, vs, hv, hk⟩ := ck
    refine ⟨ad.a, .dK vs, hv, trivial, fun od => ⟨.frz od (.dK vs), F, as, ?_⟩⟩
    obtain ⟨W1, g1⟩ := a.w.setO (o := .frz od (.dK vs)) (c := .dct false (some (.frz od (.dK vs))) kvs) hat nF ⟨nF, vs, ⟨upd_same, od, rfl⟩, hk⟩
    refine ⟨⟨a.e.mono g1, W1, ko_cold⟩, fun d m v F2 H2 as2 ⟨hm, p2⟩ g2 W2 r2 => ?_⟩
    obtain ⟨nF2, vs2, ⟨hv2, od2, hq⟩, hk2⟩ := W2.ok j ad _ (g2.at hat) hm
    obtain rfl : vs = vs2 := HO.dK.inj (HO.frz.inj hq).2
    refine ⟨hv2, ?_⟩
    obtain ⟨W3, g3⟩ := W2.setO (o := .dK vs) (c := .dct false none kvs) (g2.at hat) nF2 ⟨nF2, vs, upd_same, hk2⟩
    exact kk d _ v _ _ _ p2 ((g1.trans g2).trans g3) W3 (r2.mono g3)
  | true =>
    obtain ⟨nF, vs, hv, hk⟩ := ck
    refine ⟨ad.a, .dT vs, hv, trivial, fun od => ⟨.frz od (.dT vs), F, as, ?_⟩⟩
    obtain ⟨W1, g1⟩ := a.w.setO (o := .frz od (.dT vs)) (c := .dct true (some (.frz od (.dT vs))) kvs) hat nF ⟨nF, vs, ⟨upd_same, od, rfl⟩, hk⟩
    refine ⟨⟨a.e.mono g1, W1, ko_cold⟩, fun d m v F2 H2 as2 ⟨hm, p2⟩ g2 W2 r2 => ?_⟩
    obtain ⟨nF2, vs2, ⟨hv2, od2, hq⟩, hk2⟩ := W2.ok j ad _ (g2.at hat) hm
    obtain rfl : vs = vs2 := HO.dT.inj (HO.frz.inj hq).2
    refine ⟨hv2, ?_⟩
    obtain ⟨W3, g3⟩ := W2.setO (o := .dT vs) (c := .dct true none kvs) (g2.at hat) nF2 ⟨nF2, vs, upd_same, hk2⟩
    exact kk d _ v _ _ _ p2 ((g1.trans g2).trans g3) W3 (r2.mono g3)
/-- for key in a locked dict -/
theorem i_keys (h : E S iter env μ fun d m => ∃ (j : Nat) (t : Bool) (q : HO) (kvs : List (DK × D)), d = .cell j ∧ m[j]? = some (.dct t (some q) kvs) ∧ PI (kvs.map fun p => dkD p.1) (fun m' => m'[j]? = some (.dct t (some q) kvs)) m) : Iter S tg iter env μ PI := by
  refine Me.PI.imp (pi_keys h) fun σ H R ⟨F, as, a, k⟩ => ⟨F, as, a, fun d m v F1 H1 as1 ⟨j, t, q, kvs, e1, hj, p1⟩ g1 W1 r1 => ?_⟩
  subst e1
  cases r1 with
  | @cell _ ad hp =>
    cases t with
    | false =>
      obtain ⟨_, vs, ⟨hv, od, rfl⟩, hk⟩ := W1.ok j ad _ hp hj
      refine ⟨ad.a, od, rfl, .inl ⟨vs, hv, k _ _ m (Itk ad.a od vs) F1 H1 as1 p1 g1 W1 (stays_walk _ _ (by rw [List.length_map, ← hk.length]; exact walk_keys) ?_ ?_)⟩⟩
      · intro F2 H2 as2 μ2 g2 W2 h2
        exact (W2.ok j ad _ (g2.at hp) h2).2.choose_spec.1.1
      · rintro i F2 H2 as2 μ2 x H' g2 W2 h2 ⟨rfl, kk, u, h3, rfl⟩ hi
        obtain ⟨d, h4, _⟩ := hk.at h3
        exact ⟨rfl, keyD kk, by rw [List.getElem?_map, h4]; rfl, DV.ofKey kk⟩
    | true =>
      obtain ⟨_, vs, ⟨hv, od, rfl⟩, hk⟩ := W1.ok j ad _ hp hj
      refine ⟨ad.a, od, rfl, .inr ⟨vs, hv, k _ _ m (Itkt ad.a od vs) F1 H1 as1 p1 g1 W1 ⟨_, _, by rw [List.length_map, ← hk.length]; exact walk_keysT, ?_, ?_⟩⟩⟩
      · intro F2 H2 as2 μ2 g2 W2 h2
        exact (W2.ok j ad _ (g2.at hp) h2).2.choose_spec.1.1
      · rintro i F2 H2 as2 μ2 x H' g2 W2 h2 ⟨rfl, kk, u, q, h3, rfl, hq⟩ hi
        obtain ⟨d, h4, _⟩ := hk.at h3
        obtain ⟨F3, e3, W3, g3⟩ := W2.adopt hq
        exact ⟨F3, _, by rw [List.getElem?_map, h4]; rfl, g3, W3, .tup e3 (DVs.ofKeys kk)⟩
/-! ### dict comprehensions -/
theorem d_setG {X : Cx} {pins : List (Addr × Obj)} {σ : L2.St} {H H' : Hp} {s : Shared} {E : Value → Shared → Prop} {D0 : Addr} {y v : V} {u r : Value} {Q : Unit → Shared → Prop} (hu : X.A.units + 1 < cLine) (I : Inv X pins σ H s) (g : DPut H D0 y v H') (ry : RelV y u) (rv : RelV v r)
    (h : ∀ s', Inv X pins σ H' s' → Q () s') : wpAny (model X.prog X.w) X.A (dictSet D0 u r) Q E s := by
  rcases g with ⟨kvs, k, e, ey, l, eH⟩ | ⟨kvs, k, b, e, ey, eb, l, eH⟩
  · subst ey eH
    exact d_dictSet I e l ry rv h
  · subst ey eH
    cases (show u = Value.ref b from ry)
    obtain ⟨z, hd, xs, rel, dd⟩ := dt_of I.hok e
    have hl : (putK kvs k v).length ≤ sizeLine := Nat.le_trans (length_putK kvs k v) (by omega)
    refine wpAny_dictSet_heap (hsz := by rw [← Paired.length rel]; exact z) (show X.A.units < cLine by omega) (key_of I.hok eb) dd fun h' dd' hs => h _ ?_
    obtain ⟨q, es, ep, hq, h2, h3, h4, _, h5⟩ := dd'
    exact d_write I (by rw [e]; exact True.intro) hs ⟨q, hq⟩ ⟨hl, hd, _, (rel.put k eb rv).keeps fun c ys ec => by rw [upd_ne (ne_of ec e (fun z => nomatch z))]; exact ec, q, es, ep, hq, h2, h3, h4, h5⟩
/-- what a comprehension of a dict wishes: D0 the new dict, o0 what it is at first -/
def tDcG (o0 : HO) (wi : TI) (g : TG) (tt : TT) (tk tv : TE) (vs : List Nat) : TE := fun σ H Q => wi σ H fun J H1 => ∀ D0, H1 D0 = none → ∃ Y : Nat → Nat → Hp → Prop, (∃ m, Y 0 m (upd H1 D0 o0)) ∧ ∀ i m H, Y i m H →
  (J.stop i H ∧ Q (.ref D0) H) ∨ (J.go i H ∧ ∃ Nx : Hp → Prop, (∀ H', Nx H' → ∃ m', m' < m ∧ Y (i + 1) m' H') ∧ ∀ x H', J.yld i H x H' → g x (wipe σ vs) H' fun σ2 H2 => wipe σ2 vs = wipe σ vs ∧ tt σ2 H2 fun b H3 =>
    if b = true then tk σ2 H3 fun y H4 => tv σ2 H4 fun z H5 => ∃ H6, DPut H5 D0 y z H6 ∧ Nx H6 else Nx H3)
end
end Me

/-! Me14: the comprehension of a dict, by keys or by tuples. -/
namespace Me
open PySem PySem.Spec PyProof.Rows L2
section
variable {X : Cx}
abbrev newD : Obj := { cls := .type "dict", data := .dict #[] }
/-- in every block -/
abbrev InB (X : Cx) (scope : Scope) (p : Cx → Prop) : Prop := ∀ (s : Shared) (H : Hp) (C : Addr) (cl : List (Str × Addr)) (fp : List Addr), p (X.blk s H scope (compEnvC scope cl C X.env) fp)
theorem dcG_run {o0 : HO} {pins : List (Addr × Obj)} {s : Shared} {σ : L2.St} {H : Hp} {Q : VK} {kx vx tg iter : Expr} {ifs : List Expr} {scope : Scope} {own : List (Str × Nat)} {pos pos' : Pos} {wi : TI} {g : TG} {tt : TT} {tk tv : TE} {use : Option (Value → Sem Unit)} {Qf : Value → Shared → Prop}
    (new : ∀ (H : Hp) (h : Heap), sysModules < h.objs.size → ObjOk X.prog X.w H (h.push newD) h.objs.size o0) (hu : X.A.units + 1 < cLine)
    (hc : X.calm = true) (hN : X.N.Nodup) (I : Inv X pins σ H s) (hi : L2.PI X tg iter wi) (ok : BlkOk X.N X.env.scope scope own) (hg : InB X scope fun B => PG B tg g) (ht : InB X scope fun B => PTs B ifs tt)
    (hk : InB X scope fun B => PE B kx tk) (he : InB X scope fun B => PE B vx tv) (hs : ∀ x, foldedSetIterable iter X.env x = pure x) (h : tDcG o0 wi g tt tk tv (own.map (·.2)) σ H Q)
    (fin : ∀ D0 C s' m H', Inv X pins σ H' s' → Q (.ref D0) H' → s'.heap.Ns C m → FpOk X pins H' C → compPost (model X.prog X.w) X.A X.xe use Qf (.ref D0) C (.ok .next) s') :
    wpAny (model X.prog X.w) X.A (comprehension (.DictComp kx vx [⟨tg, iter, ifs, 0⟩] scope pos) scope X.env pos' newDict false (eval iter X.env) use) Qf X.xe s := by
  have clos : ∀ y ∈ scope.names, y.2 = .free → ∃ c, X.env.cells.lookup y.1 = some c := fun y hy e => (ok.free y hy e).elim (fun z => I.ok.has _ (.inl z)) fun z => I.ok.has _ (.inr z)
  refine wpAny_comprehension_free (use := use) rfl hs (closure_ok clos) ok.kind (fun y hy e => by rw [ok.uniq y hy, e]) (thn (hi.run pins s σ H _ I h) fun xv sa hx => thn hx fun itv sb hb => ?_)
  obtain ⟨it, fp, tn, J, Hb, rfl, Ib, T, stb, fb, q⟩ := hb
  refine wpAny_newObj_type (newEnv_comp ?_) -- the dict, the block's frame
  generalize eD : sb.heap.objs.size = D0
  have nD : Hb D0 = none := Ib.hok.fresh (Nat.le_of_eq eD)
  obtain ⟨Y, ⟨m0, y0⟩, turn⟩ := q D0 nD
  generalize ec : ({ sb with heap := sb.heap.push newD } : Shared) = sc
  have hpc : sc.heap = sb.heap.push newD := by rw [← ec]
  have Ic : Inv X pins σ (upd Hb D0 o0) sc := by
    rw [← ec]; refine Ib.laid (t' := sb.toks) (fun b o e => Heap.get?_push_of_some _ e) (Nat.le_of_eq eD) ?_
    rw [← eD]; exact new _ _ Ib.big
  have lt : ∀ b ∈ fp, b < sb.heap.objs.size := fun b hb => let ⟨o, e, _⟩ := T.obj _ _ stb b hb; Heap.lt_size e
  have fc : ∀ b ∈ fp, FpOk X pins (upd Hb D0 o0) b ∧ b < sc.heap.objs.size := fun b hb =>
    ⟨⟨by rw [upd_ne (by rw [← eD]; exact Nat.ne_of_lt (lt b hb))]; exact (fb b hb).1, (fb b hb).2⟩, by rw [hpc, Heap.size_push]; exact Nat.lt_succ_of_lt (lt b hb)⟩
  have stc : tn 0 sc.heap := T.keep _ _ _ stb fun b _ o e => by rw [hpc]; exact Heap.get?_push_of_some _ e
  have Id := block_start Ic ok hN fc
  generalize eC : sc.heap.objs.size = C0 at Id ⊢
  generalize eL : cellsFrom (C0 + 1) scope.names (cloFrom X.env.cells scope.names []) = cl at Id
  have pg := hg sc (upd Hb D0 o0) C0 cl fp
  have pt := ht sc (upd Hb D0 o0) C0 cl fp
  have pk := hk sc (upd Hb D0 o0) C0 cl fp
  have pv := he sc (upd Hb D0 o0) C0 cl fp
  have nfp : ∀ b ∈ fp, (upd Hb D0 o0) b = none := fun b hb => (fc b hb).1.1
  show codeAny _ _ (.compStart (.DictComp kx vx [⟨tg, iter, ifs, 0⟩] scope pos) 0 (.ref it) (.ref D0) (compEnvC scope cl C0 X.env)) (compPost (model X.prog X.w) X.A X.xe use Qf (.ref D0) C0) { sc with heap := pushCells (sc.heap.push newD) scope.names }
  generalize ee : compEnvC scope cl C0 X.env = ce at Id pg pt pk pv ⊢
  have cL : ce.locals = C0 := by subst ee; rfl
  generalize eH : upd Hb D0 o0 = Hc at Ic Id pg pt pk pv y0 nfp fc
  generalize ed : ({ sc with heap := pushCells (sc.heap.push newD) scope.names } : Shared) = sd at Id ⊢
  have std : tn 0 sd.heap := T.keep _ _ _ stc fun b _ o e => by rw [← ed]; exact pushCells_keeps _ _ _ _ (Heap.get?_push_of_some _ e)
  have hold : ∀ {σ' : L2.St} {H' : Hp} {s' : Shared}, Inv (X.blk sc Hc scope ce fp) [] σ' H' s' → (∀ b ∈ fp, H' b = none) → ∀ b ∈ fp, FpOk (X.blk sc Hc scope ce fp) [] H' b := fun {σ' H' s'} I' hn b hb =>
    ⟨hn b hb, (I'.ok.exf b hb).1, I'.ok.exfs b hb, .inl hb, fun x c e => (I'.ok.exf b hb).2 x c e, fun p hp => absurd (show p ∈ ([] : List (Addr × Obj)) ++ [] from hp) (by simp)⟩
  have loop : codeAny (model X.prog X.w) X.A (.compLoop (.DictComp kx vx [⟨tg, iter, ifs, 0⟩] scope pos) 0 (.ref it) (.ref D0) ce) (compPost (model X.prog X.w) X.A X.xe use Qf (.ref D0) C0) sd := by
    refine compLoop_anyD (fun n s' => ∃ i H', Inv (X.blk sc Hc scope ce fp) [] (wipe σ (own.map (·.2))) H' s' ∧ tn i s'.heap ∧ (∀ b ∈ fp, H' b = none) ∧ Y i n H') ?_ m0 ⟨0, Hc, Id, std, nfp, y0⟩
    rintro n s5 ⟨i, H5, I5, st5, n5, y5⟩
    rcases turn i n H5 y5 with ⟨stop, done⟩ | ⟨go, Nx, hNx, step⟩
    · refine thnF (T.done (X.blk sc Hc scope ce fp) rfl rfl rfl hc i [] s5 _ H5 (fun _ _ => False) I5 (hold I5 n5) st5 stop) fun r s6 ⟨hr, I6⟩ => ?_
      subst hr
      have I7 : Inv X pins σ H5 s6 := Ic.call' (ch := fp) I6.os I6.base I6.hok I6.bare fun b hb => let z := (fc b hb).1.2; ⟨z.2.2.1, z.1, z.2.2.2.1, z.2.2.2.2⟩
      have nC : H5 C0 = none := by rw [← cL]; exact I6.free
      obtain ⟨m, hn, _⟩ := I6.loc
      have hn : s6.heap.Ns ce.locals m := hn
      rw [cL] at hn
      exact fin D0 C0 s6 m H5 I7 done hn (Ic.fpOk (Nat.le_of_eq eC) nC)
    · refine thnF (T.item (X.blk sc Hc scope ce fp) rfl rfl rfl hc i [] s5 _ H5 (fun _ _ => False) I5 (hold I5 n5) st5 go) fun r s6 ⟨u, hr, h6⟩ => ?_
      subst hr
      refine thnF h6 fun _ s7 ⟨x, H7, I7, r7, yl, st7, n7⟩ => thnF (pg.run _ s7 _ H7 x u _ (I7.pinned (hold I7 n7) (T.obj _ _ st7)) r7 (step x H7 yl)) fun _ s8 ⟨σ8, H8, I8, hw, q8⟩ => thnF (pt.run _ s8 σ8 H8 _ I8 q8) fun b s9 ⟨H9, I9, q9⟩ => ?_
      have next : ∀ {s' : Shared} {H' : Hp}, Inv (X.blk sc Hc scope ce fp) ([] ++ pinsAt fp s7.heap) σ8 H' s' → Nx H' → ∃ m, m < n ∧ ∃ i H', Inv (X.blk sc Hc scope ce fp) [] (wipe σ (own.map (·.2))) H' s' ∧ tn i s'.heap ∧ (∀ b ∈ fp, H' b = none) ∧ Y i m H' := fun {s' H'} I' nx => by
        obtain ⟨m', hm, w'⟩ := hNx H' nx
        have pin : ∀ b ∈ fp, ∀ o, s7.heap.get? b = some o → s'.heap.get? b = some o ∧ H' b = none := fun b hb o e => let z := I'.pin (b, o) (List.mem_append_right _ (List.mem_append_right _ (mem_pinsAt hb e))); ⟨z.1, z.2.1⟩
        refine ⟨m', hm, i + 1, H', (I'.unpinned (pins := [])).weak (by rw [← hw, wipe_length]) (fun j v e => by rw [← hw] at e; exact (wipe_some e).1), T.keep _ _ _ st7 fun b hb o e => (pin b hb o e).1, fun b hb => ?_, w'⟩
        obtain ⟨o, e, _⟩ := T.obj _ _ st7 b hb
        exact (pin b hb o e).2
      cases b with
      | false =>
        rw [if_neg Bool.false_ne_true] at q9 ⊢
        exact next I9 q9
      | true =>
        simp only [if_true] at q9 ⊢
        refine thnF (pk.run _ s9 σ8 H9 _ I9 q9) fun z s10 ⟨yk, H10, I10, r10, q10⟩ => thnF (pv.run _ s10 σ8 H10 _ I10 q10) fun z2 s11 ⟨yv, H11, I11, r11, H12, dp, nx⟩ => ?_
        exact d_setG (X := X.blk sc Hc scope ce fp) hu I11 dp r10 r11 fun s12 I12 => next I12 nx
  exact codeAny_compStart_dict loop (T.self X.A 0 _ _ _ std loop)
theorem pe_dcG {o0 : HO} {kx vx tg iter : Expr} {ifs : List Expr} {scope : Scope} {own : List (Str × Nat)} {pos : Pos} {wi : TI} {g : TG} {tt : TT} {tk tv : TE}
    (new : ∀ (H : Hp) (h : Heap), sysModules < h.objs.size → ObjOk X.prog X.w H (h.push newD) h.objs.size o0) (hu : X.A.units + 1 < cLine)
    (hc : X.calm = true) (hN : X.N.Nodup) (hi : L2.PI X tg iter wi) (ok : BlkOk X.N X.env.scope scope own) (hg : InB X scope fun B => PG B tg g) (ht : InB X scope fun B => PTs B ifs tt)
    (hk : InB X scope fun B => PE B kx tk) (he : InB X scope fun B => PE B vx tv) (hs : ∀ x, foldedSetIterable iter X.env x = pure x) : PE X (.DictComp kx vx [⟨tg, iter, ifs, 0⟩] scope pos) (tDcG o0 wi g tt tk tv (own.map (·.2))) := by
  refine ⟨fun pins s σ H Q I h => ?_⟩
  rw [arm_eval_DictComp]
  refine dcG_run new hu hc hN I hi ok hg ht hk he hs h fun D0 C s' m H' I' q hn f => ⟨m, hn, fun h'' sb => ?_⟩
  exact ⟨.ref D0, H', I'.turned (t' := s'.toks) (fun b o hb e => (sb.2 b hb).trans e) f.1 f.2.1 f.2.2.2.1 f.2.2.2.2.1 f.2.2.2.2.2, rfl, q⟩
end
end Me

/-! Me15: dict comprehensions in continuation form. -/
namespace Me
open PySem PySem.Spec PyProof.Rows L2
def emptyO : Bool → HO
  | false => .dK []
  | true => .dT []
theorem empty_ok {P : Program} {w : World} (t : Bool) (H : Hp) (h : Heap) (hb : sysModules < h.objs.size) : ObjOk P w H (h.push newD) h.objs.size (emptyO t) := by
  cases t with
  | false => exact dk_empty h hb
  | true => exact dt_empty h hb
theorem putD_len (kvs : List (DK × D)) (k : DK) (d : D) : (putD kvs k d).length ≤ kvs.length + 1 := by
  unfold putD
  split
  · rw [List.length_map]; omega
  · rw [List.length_append]; exact Nat.le_refl _
/-- an open dict at a place -/
def DctO (Γ : Gam) (F H : Hp) (as : List Ad) (a : Addr) : Bool → List (DK × D) → Prop
  | false, kvs => ∃ vs, H a = some (.dK vs) ∧ DKs Γ F as vs kvs
  | true, kvs => ∃ vs, H a = some (.dT vs) ∧ DTs Γ F as vs kvs
section
variable {Γ : Gam} {F H F' H' : Hp} {as as' : List Ad} {a : Addr} {t : Bool} {kvs : List (DK × D)}
theorem DctO.apart (h : DctO Γ F H as a t kvs) (g : Go F H as F' H' as') (nF : F a = none) (na : a ∉ ads as) : DctO Γ F' H' as' a t kvs ∧ F' a = none ∧ a ∉ ads as' := by
  cases t with
  | false =>
    obtain ⟨vs, h1, h2⟩ := h
    obtain ⟨q1, q2, q3⟩ := g.apart h1 (fun xs z => nomatch z) nF na
    exact ⟨⟨vs, q1, h2.mono g⟩, q2, q3⟩
  | true =>
    obtain ⟨vs, h1, h2⟩ := h
    obtain ⟨q1, q2, q3⟩ := g.apart h1 (fun xs z => nomatch z) nF na
    exact ⟨⟨vs, q1, h2.mono g⟩, q2, q3⟩
theorem DctO.put {y v : V} {dk d : D} {k : DK} (h : DctO Γ F H as a t kvs) (s : Same F H) (r : DV Γ F as y dk) (hk : asDK t dk = some k) (rv : DV Γ F as v d) (hz : kvs.length < sizeLine) : ∃ o, DPut H a y v (upd H a o) ∧ DctO Γ F (upd H a o) as a t (putD kvs k d) := by
  cases t with
  | false =>
    obtain ⟨vs, h1, h2⟩ := h
    obtain ⟨x, rfl, e⟩ := asDK_k hk
    rw [r.key e]
    exact ⟨_, DPut.k h1 (by rw [h2.length]; exact hz), _, upd_same, h2.put x rv⟩
  | true =>
    obtain ⟨vs, h1, h2⟩ := h
    obtain ⟨x, rfl⟩ := asDK_t hk
    obtain ⟨b, rfl, e⟩ := r.keyT hk
    exact ⟨_, DPut.t h1 (s _ _ e) (by rw [h2.length]; exact hz), _, upd_same, h2.put x rv⟩
theorem DctO.cell {μ : Mu} (h : DctO Γ F H as a t kvs) (W : Wd Γ F (era H a) as μ) (nF : F a = none) : Wd Γ F H (as ++ [⟨a, none⟩]) (μ ++ [.dct t none kvs]) ∧ Go F (era H a) as F H (as ++ [⟨a, none⟩]) := by
  have kp : ∀ js, Kp as (as ++ [⟨a, none⟩]) js := fun js i hi ad e => by rw [List.getElem?_append_left (List.getElem?_eq_some_iff.mp e).1]; exact e
  cases t with
  | false =>
    obtain ⟨vs, h1, h2⟩ := h
    have z := W.addO (o := .dK vs) (c := .dct false none kvs) era_same fun nF => ⟨nF, vs, upd_same, h2.to (Same.refl F) (kp _)⟩
    rw [era_upd h1] at z
    exact z
  | true =>
    obtain ⟨vs, h1, h2⟩ := h
    have z := W.addO (o := .dT vs) (c := .dct true none kvs) era_same fun nF => ⟨nF, vs, upd_same, h2.to (Same.refl F) (kp _)⟩
    rw [era_upd h1] at z
    exact z
end
section
variable {S : Sc} {env : En} {μ : Mu} {kx vx tg iter : Expr} {ifs : List Expr} {pos p0 p1 p2 : Pos} {x y : Str} {scope : Scope} {P : KD} {t : Bool}
structure CompD (S : Sc) (scope : Scope) (rel : D → En → En → Prop) (vs : List Nat) (kx vx : Expr) (ifs : List Expr) (env : En) (t : Bool) (I : Nat → List (DK × D) → Mu → Prop) (ds : List D) (Sx : Mu → Prop) (μ1 : Mu) (fin : List (DK × D) → Mu → Prop) : Prop where
  size : ds.length ≤ sizeLine
  start : I 0 [] μ1
  stay : ∀ k acc μ, I k acc μ → Sx μ
  turn : ∀ k d acc m, ds[k]? = some d → I k acc m → ∃ env2 PB, rel d (wipeE env vs) env2 ∧ AllB S scope (fun S' => Ts S' ifs env2 m PB) ∧
    ∀ q m1, PB q m1 → (q = true → ∃ PK, AllB S scope (fun S' => E S' kx env2 m1 PK) ∧ ∀ dk m2, PK dk m2 → ∃ key, asDK t dk = some key ∧ AllB S scope fun S' => E S' vx env2 m2 fun d' m3 => I (k + 1) (putD acc key d') m3) ∧ (q = false → I (k + 1) acc m1)
  done : ∀ acc m, I ds.length acc m → fin acc m
theorem e_dcG {rel : D → En → En → Prop} (t : Bool) (own : List (Str × Nat)) (hc : S.X.calm = true) (ok : BlkOk S.X.N S.X.env.scope scope own) (hg : AllB S scope fun S' => Tg S' tg rel (own.map fun x : Str × Nat => x.2))
    (h : Iter S tg iter env μ fun ds Sx μ1 => ∃ I, CompD S scope rel (own.map fun x : Str × Nat => x.2) kx vx ifs env t I ds Sx μ1 fun acc m => P (.cell m.length) (m ++ [.dct t none acc])) (hf : ∀ x, foldedSetIterable iter S.X.env x = pure x := by intro _; rfl) :
    E S (.DictComp kx vx [⟨tg, iter, ifs, 0⟩] scope pos) env μ P := by
  refine PE.imp (pe_dcG (o0 := emptyO t) (own := own) (g := rdG S rel (own.map fun x : Str × Nat => x.2)) (tt := rdTT S scope ifs) (tk := rdEE S scope kx) (tv := rdEE S scope vx) (empty_ok t) (by have := S.hu; omega) hc S.hN h ok hg pts_all pe_all pe_all hf) fun σ H Q ⟨F, as, a, k⟩ => ?_
  generalize (own.map fun x : Str × Nat => x.2) = vs at *
  refine ⟨F, as, a, fun ds Sx μ1 J F1 H1 as1 ⟨I, L⟩ g1 W1 ⟨G, Y, w, hG, hY⟩ D0 nD => ?_⟩
  refine ⟨fun n mm H2 => mm = ds.length - n ∧ n ≤ ds.length ∧ ∃ acc m F2 as2, I n acc m ∧ acc.length ≤ n ∧ Wd S.Γ F2 H2 as2 m ∧ Go F1 H1 as1 F2 H2 as2 ∧ DctO S.Γ F2 H2 as2 D0 t acc ∧ F2 D0 = none ∧ D0 ∉ ads as2, ?_, ?_⟩
  · obtain ⟨f1, f2⟩ := W1.nofree nD
    refine ⟨_, rfl, Nat.zero_le _, [], μ1, F1, as1, L.start, Nat.le_refl _, W1.off f1 f2, (Go.refl _ _ _).off nD, ?_, f1, f2⟩
    cases t with
    | false => exact ⟨[], upd_same, .nil⟩
    | true => exact ⟨[], upd_same, .nil⟩
  rintro n mm H2 ⟨rfl, hn, acc, m, F2, as2, i2, l2, W2, g2, dc, nF, na⟩
  have gg := hG F2 H2 as2 m g2 W2 (L.stay n acc m i2)
  by_cases hlt : n < ds.length
  · refine .inr ⟨w.goes n H2 hlt gg, fun H' => n + 1 ≤ ds.length ∧ ∃ acc m F2 as2, I (n + 1) acc m ∧ acc.length ≤ n + 1 ∧ Wd S.Γ F2 H' as2 m ∧ Go F1 H1 as1 F2 H' as2 ∧ DctO S.Γ F2 H' as2 D0 t acc ∧ F2 D0 = none ∧ D0 ∉ ads as2, fun H' z => ⟨ds.length - (n + 1), by omega, rfl, z.1, z.2⟩, fun v H' y => ?_⟩
    obtain ⟨F3, d, hd1, g3, W3, dvd⟩ := hY n F2 H2 as2 m v H' g2 W2 (L.stay n acc m i2) (w.yields n H2 v H' hlt gg y) hlt
    obtain ⟨dc3, nF3, na3⟩ := dc.apart g3 nF na
    obtain ⟨env2, PB, r2, ht, hh⟩ := L.turn n d acc m hd1 i2
    refine ⟨d, wipeE env vs, env2, F3, as2, r2, dvd, W3.sub, (((a.e.mono g1).mono g2).mono g3).wipe vs, fun σ2 e2 hw => ⟨by rw [hw, wipe_wipe], env2, m, PB, F3, as2, ht, e2, W3, fun q m1 F4 H4 as4 p4 g4 W4 => ?_⟩⟩
    obtain ⟨dc4, nF4, na4⟩ := dc3.apart g4 nF3 na3
    obtain ⟨hT, hF⟩ := hh q m1 p4
    cases q with
    | true =>
      obtain ⟨PK, hk, hkv⟩ := hT rfl
      refine ⟨env2, m1, PK, F4, as4, hk, e2.mono g4, W4, fun dk m2 u F5 H5 as5 p5 g5 W5 r5 => ?_⟩
      obtain ⟨dc5, nF5, na5⟩ := dc4.apart g5 nF4 na4
      obtain ⟨key, ek, hv⟩ := hkv dk m2 p5
      refine ⟨env2, m2, _, F5, as5, hv, (e2.mono g4).mono g5, W5, fun d' m3 u2 F6 H6 as6 i3 g6 W6 r6 => ?_⟩
      obtain ⟨dc6, nF6, na6⟩ := dc5.apart g6 nF5 na5
      obtain ⟨o, dp, dc7⟩ := dc6.put W6.sub (r5.mono g6) ek r6 (by have := L.size; omega)
      refine ⟨_, dp, hlt, putD acc key d', m3, F6, as6, i3, ?_, W6.off nF6 na6, ((((g2.trans g3).trans g4).trans g5).trans g6).off nD, dc7, nF6, na6⟩
      have := putD_len acc key d'
      omega
    | false => exact ⟨hlt, acc, m1, F4, as4, hF rfl, by omega, W4, (g2.trans g3).trans g4, dc4, nF4, na4⟩
  · have e : n = ds.length := by omega
    subst e
    refine .inl ⟨w.stops H2 gg, ?_⟩
    obtain ⟨W5, g5⟩ := dc.cell (W2.era nF na) nF
    exact k _ _ _ _ _ _ (L.done acc m i2) ((g1.trans (g2.era nD)).trans g5) W5 (.cell (ad := ⟨D0, none⟩) ((W2.era nF na).last _))
theorem e_dc (t : Bool) (i : Nat) (hc : S.X.calm = true) (ok : BlkOk S.X.N S.X.env.scope scope [(x, i)])
    (h : Iter S (.Name x p1) iter env μ fun ds Sx μ1 => ∃ I, CompD S scope (rName i) [i] kx vx ifs env t I ds Sx μ1 fun acc m => P (.cell m.length) (m ++ [.dct t none acc]))
    (hn : S.X.N[i]? = some x := by rfl) (hx : NameOk S scope x := by exact fun _ _ _ _ _ => ⟨by first | exact .inl rfl | exact .inr rfl, by first | exact .inl rfl | exact .inr rfl⟩)
    (hf : ∀ x, foldedSetIterable iter S.X.env x = pure x := by intro _; rfl) : E S (.DictComp kx vx [⟨.Name x p1, iter, ifs, 0⟩] scope pos) env μ P :=
  e_dcG (rel := rName i) t [(x, i)] hc ok (fun s H C cl fp => g_name (S := Blk S scope s H C cl fp) i hn (hx s H C cl fp).1 (hx s H C cl fp).2) h hf
/-- a comprehension that changes nothing -/
theorem CompD.pure {rel : D → En → En → Prop} {vs : List Nat} {ds : List D} {Sx : Mu → Prop} {μ1 : Mu} {fin : List (DK × D) → Mu → Prop} (g : D → Option (DK × D)) (size : ds.length ≤ sizeLine) (stay : Sx μ1)
    (turn : ∀ (k : Nat) d, ds[k]? = some d → ∃ env2 q, rel d (wipeE env vs) env2 ∧ AllB S scope (fun S' => Ts S' ifs env2 μ1 fun b m => b = q ∧ m = μ1) ∧
      (q = true → ∃ dk key d', g d = some (key, d') ∧ asDK t dk = some key ∧ AllB S scope (fun S' => E S' kx env2 μ1 fun x m => x = dk ∧ m = μ1) ∧ AllB S scope fun S' => E S' vx env2 μ1 fun x m => x = d' ∧ m = μ1) ∧ (q = false → g d = none))
    (done : fin ((ds.filterMap g).foldl (fun acc p => putD acc p.1 p.2) []) μ1) : ∃ I, CompD S scope rel vs kx vx ifs env t I ds Sx μ1 fin := by
  refine ⟨fun k acc m => m = μ1 ∧ acc = ((ds.take k).filterMap g).foldl (fun acc p => putD acc p.1 p.2) [], size, ⟨rfl, rfl⟩, fun k acc m ⟨e, _⟩ => e ▸ stay, fun k d acc m hd ⟨e1, e2⟩ => ?_, fun acc m ⟨e1, e2⟩ => ?_⟩
  · subst e1 e2
    obtain ⟨env2, q, h1, h2, h3, h4⟩ := turn k d hd
    refine ⟨env2, _, h1, h2, fun b m1 ⟨e1, e2⟩ => ?_⟩
    subst e1 e2
    refine ⟨fun z => ?_, fun z => ⟨rfl, ?_⟩⟩
    · obtain ⟨dk, key, d', e, ek, hk, hv⟩ := h3 z
      refine ⟨_, hk, fun dk2 m2 ⟨q1, q2⟩ => ?_⟩
      subst q1 q2
      refine ⟨key, ek, fun s H C cl fp => (hv s H C cl fp).imp fun x m ⟨e1, e2⟩ => ⟨e2, ?_⟩⟩
      rw [take_snoc hd, List.filterMap_append, List.foldl_append, e1]
      simp [e]
    · rw [take_snoc hd, List.filterMap_append, List.foldl_append]
      simp [h4 z]
  · rw [e1, e2, List.take_length]
    exact done
end
end Me

/-! Me16: sorted. -/
namespace Me
open PySem PySem.Spec PyProof.Rows L2
theorem each_vals {Γ : Gam} {F : Hp} {as : List Ad} : ∀ {vs : List V} {ds : List D} {us : List Value}, DVs Γ F as vs ds → Vals vs us → PySem.W.EachIs (fun u d => ∃ v, RelV v u ∧ DV Γ F as v d) us ds
  | _, _, _, .nil, .nil => .nil
  | _, _, _, .cons h t, .cons r rs => .cons ⟨_, r, h⟩ (each_vals t rs)
theorem each_out {Γ : Gam} {F : Hp} {as : List Ad} : ∀ {us : List Value} {ds : List D}, PySem.W.EachIs (fun u d => ∃ v, RelV v u ∧ DV Γ F as v d) us ds → ∃ vs, Vals vs us ∧ DVs Γ F as vs ds
  | _, _, .nil => ⟨[], .nil, .nil⟩
  | _, _, .cons ⟨v, r, h⟩ t => let ⟨vs, h1, h2⟩ := each_out t; ⟨v :: vs, .cons r h1, .cons h h2⟩
/-- what can be sorted -/
structure SrtOk (ds : List D) : Prop where
  py : D.isPys ds = true
  nd : PyData.hasDictAll (D.pys ds) = false
  al : PySem.W.AllAlike (ds.map D.py)
  so : PySem.W.Sortable (ds.map D.py)
  sz : ds.length ≤ sizeLine
  dp : ∀ d ∈ ds, d.py.depth ≤ 60
abbrev srt (ds : List D) : List D := ds.mergeSort (PySem.W.dataLe false D.py)
section
variable {X : Cx} {pins : List (Addr × Obj)} {s : Shared} {σ : L2.St} {H F : Hp} {as : List Ad} {Γ : Gam}
theorem sorted_run {u : Value} {vs : List V} {ds : List D} {Q : VK} (ok : SrtOk ds) (sF : Same F H) (dv : DVs Γ F as vs ds) (hu : X.A.units + 70 < cLine)
    (col : ∀ {R : List Value → Shared → Prop} {E : Value → Shared → Prop}, (∀ us s1, Inv X pins σ H s1 → Vals vs us → R us s1) → wpAny (model X.prog X.w) X.A.in1 (collect u) R E s)
    (q : ∀ p ws, H p = none → DVs Γ F as ws (srt ds) → Q (.ref p) (upd H p (.lst ws))) : wpAny (model X.prog X.w) X.A (call (.builtin "sorted") [u]) (EP X pins σ Q) X.xe s := by
  refine Calls.call_function_entry kind_sorted plain_sorted entry_sorted (args_sorted1 _) ?_
  unfold Builtin.«sorted»
  refine wpAny_bind (m := checkCount "sorted" 1 1 _) (wpAny_pure (wpAny_bind (col fun us s1 I1 rv => ?_)))
  have hl : us.length = ds.length := by rw [← rv.length, dv.length]
  refine wpAny_bind (wpAny_newList ?_ (by rw [hl]; exact ok.sz))
  generalize ea : s1.heap.objs.size = a
  generalize eh : s1.heap.push (seqObj "list" us.toArray 0) = h2
  have ho : h2.get? a = some (seqObj "list" us.toArray 0) := by rw [← eh, ← ea]; exact Heap.get?_push_size _ rfl
  have old : ∀ b o, s1.heap.get? b = some o → h2.get? b = some o := fun b o e => by rw [← eh]; exact Heap.get?_push_of_some _ e
  have nea : ∀ b o, s1.heap.get? b = some o → b ≠ a := fun b o e => by rw [← ea]; exact Nat.ne_of_lt (Heap.lt_size e)
  obtain ⟨ar, rd⟩ := Dp.readsAll I1 _ _ _ (DVs.dpn X.K sF dv ok.py ok.nd) rv
  rw [pys_map] at rd
  have er : PySem.W.EachIs (fun v d => ∃ as, Reads (PySem.W.sortingHeap h2 a us) v (D.py d) as) us ds :=
    PySem.W.readsAll_each D.py (PyProof.Rows.ReadsAll.keeps (fun b o e => PySem.W.sortingHeap_old (nea b o e) (old b o e)) rd)
  have ee := each_vals dv rv
  refine wpAny_bind (wpAny_holding (wpAny_call_entry slot_list_sort ⟨_, ho, rfl⟩ entry_list_sort ?_ (args_list_sort _)))
  show wpAny (model X.prog X.w) X.A.in1.in1 (Builtin.«list.sort» ⟨[.ref a], []⟩) _ _ ({ s1 with heap := h2 } : Shared)
  refine PySem.W.list_sort_vals (κ := PySem.W.dataKind (PySem.W.sortingHeap h2 a us) (ds.map D.py)) (s := { s1 with heap := h2 }) ho
    (PySem.W.SortsAt.data (s := { s1 with heap := PySem.W.sortingHeap h2 a us }) (PySem.W.each_map (R := fun v d => ∃ as, Reads (PySem.W.sortingHeap h2 a us) v d as) D.py er) ok.al ok.so fun d hd => ?_) (by rw [hl]; exact ok.sz) ⟨.none, rfl, ?_⟩
  · obtain ⟨b, hb, rfl⟩ := List.mem_map.mp hd
    have := ok.dp b hb
    show X.A.units + 1 + 1 + _ < cLine
    omega
  · obtain ⟨ws, w1, w2⟩ := each_out (PySem.W.sortVals_data false ee er ok.al)
    obtain ⟨c, hc⟩ := sortedHeap_at (vs := us) (out := (PySem.W.sortVals (PySem.W.dataKind (PySem.W.sortingHeap h2 a us) (ds.map D.py)) false us us).toArray) ho
    have hsz : h2.objs.size = a + 1 := by rw [← eh, ← ea, size_push']
    refine wpAny_pure ⟨_, rfl, .ref a, upd H a (.lst ws), I1.laid (t' := s1.toks) (fun b o e => ?_) (Nat.le_of_eq ea) ⟨?_, _, c, w1, hc⟩, rfl, q a ws (I1.hok.fresh (Nat.le_of_eq ea)) w2⟩
    · rw [sortedHeap_old (nea b o e) (Heap.lt_size (old b o e))]
      exact old b o e
    · rw [w2.length, List.length_mergeSort]
      exact ok.sz
theorem col_lst {a : Addr} {vs : List V} (I : Inv X pins σ H s) (h : SqL X.K H a vs) {R : List Value → Shared → Prop} {E : Value → Shared → Prop} (k : ∀ us s1, Inv X pins σ H s1 → Vals vs us → R us s1) : wpAny (model X.prog X.w) X.A.in1 (collect (.ref a)) R E s := by
  obtain ⟨its, rv, hl, hz⟩ := I.list h
  refine collect_list hl.isList (k its _ (I.kept (t' := s.toks) fun b o e => ?_) rv) (by rw [← rv.length]; exact hz)
  rw [Heap.get?_update_ne _ _ _ _ (Nat.ne_of_lt (Heap.lt_size e))]
  exact Heap.get?_push_of_some _ e
theorem col_dT {d : Addr} {kvs : List (List Key × V)} (hc : X.calm = true) (I : Inv X pins σ H s) (hd : Rd H d (.dT kvs)) :
    ∃ bs, IsKeys H kvs bs ∧ ∀ {R : List Value → Shared → Prop} {E : Value → Shared → Prop}, (∀ us s1, Inv X pins σ H s1 → Vals (bs.map V.ref) us → R us s1) → wpAny (model X.prog X.w) X.A.in1 (collect (.ref d)) R E s := by
  obtain ⟨z, hs, ks, pr, o, es, ep, ho, hx, hdt, he, hn⟩ := (show ObjOk X.prog X.w H s.heap d (.dT kvs) from hd.ok I.hok)
  have l1 : es.size = ks.length := size_of_entries he
  have l2 : kvs.length = ks.length := Paired.length pr
  refine ⟨ks.map fun x => x.2.1, isKeys_of pr, fun {R E} k => PySem.W.kdu_collect (A := X.A.in1) (kdl_raw hs hx hdt) (I.ok.hd hc) ho (by omega) fun h' tk acc hk it => k _ _ (I.kept hk) ?_⟩
  have ea : acc.toList = (ks.map fun x => x.2.1).map Value.ref := by
    rw [List.map_map]
    refine List.ext_getElem? fun j => ?_
    rw [List.getElem?_map]
    have hla : acc.toList.length = ks.length := by rw [Array.length_toList, it.1]; exact l1
    cases hj : acc.toList[j]? with
    | none => rw [List.getElem?_eq_none (by have := List.getElem?_eq_none_iff.mp hj; omega)]; rfl
    | some v =>
      obtain ⟨en, hen, hv⟩ := it.2 j v (by rw [← Array.getElem?_toList]; exact hj)
      have qe := entry_at he j
      rw [hen] at qe
      cases hb : ks[j]? with
      | none => rw [hb] at qe; exact nomatch (show some en = none from qe)
      | some b =>
        rw [hb] at qe
        have e2 : en = entryOfKey (tupleKind (mixKind X.prog X.w)) b := Option.some.inj qe
        rw [hv, e2]
        rfl
  rw [ea]
  exact vals_refs _
end
section
variable {S : Sc} {env : En} {μ : Mu} {d : D} {ds : List D} {P : KD} {kvs : List (DK × D)}
theorem c_sortedL (h1 : vw μ d = .lst ds) (ok : SrtOk ds) (k : Nl P (srt ds) μ) : Cl S (.builtin "sorted") [d] env μ P := by
  intro pins s σ H xs us Q F as I rx a r kk
  obtain ⟨x, rfl, rr⟩ := dvs1 r
  obtain ⟨p, vs, rfl, hp, dv⟩ := a.w.lst rr h1
  obtain ⟨u, rfl, e⟩ := vals1 rx
  cases e
  exact sorted_run ok a.w.sub dv S.hu (fun k => col_lst I (.inl (.inl hp)) k) fun p ws n dw => kk.new a.w n k dw
/-- the keys of a dict by names become known -/
theorem adoptKeys {Γ : Gam} {F H : Hp} {as : List Ad} : ∀ {vs : List (List Key × V)} {kvs : List (DK × D)} {bs : List Addr}, Wd Γ F H as μ → DTs Γ F as vs kvs → IsKeys H vs bs → ∃ F', Wd Γ F' H as μ ∧ Go F H as F' H as ∧ DVs Γ F' as (bs.map V.ref) (kvs.map fun p => dkD p.1)
  | _, _, _, W, .nil, .nil => ⟨F, W, Go.refl _ _ _, .nil⟩
  | _, _, _, W, .cons (k := k) (vs := vs) (ds := kvs) h t, .cons e es => by
    obtain ⟨F1, e1, W1, g1⟩ := W.adopt e
    obtain ⟨F2, W2, g2, r2⟩ := adoptKeys W1 (t.mono g1) es
    exact ⟨F2, W2, g1.trans g2, .cons (.tup (g2.sub _ _ e1) (DVs.ofKeys k)) r2⟩
theorem c_sortedDT (h1 : vw μ d = .dct true kvs) (hc : S.X.calm = true) (ok : SrtOk (kvs.map fun p => dkD p.1)) (k : Nl P (srt (kvs.map fun p => dkD p.1)) μ) : Cl S (.builtin "sorted") [d] env μ P := by
  intro pins s σ H xs us Q F as I rx a r kk
  obtain ⟨x, rfl, rr⟩ := dvs1 r
  obtain ⟨p, rfl, vs, hr, dv⟩ := a.w.dct rr h1
  obtain ⟨u, rfl, e⟩ := vals1 rx
  cases e
  obtain ⟨bs, hk, col⟩ := col_dT hc I hr
  obtain ⟨F2, W2, g2, dv2⟩ := adoptKeys a.w dv hk
  exact sorted_run ok W2.sub dv2 S.hu (fun k => col k) fun p ws n dw => (kk.go g2).new W2 n k dw
theorem c_lstDT (h1 : vw μ d = .dct true kvs) (hc : S.X.calm = true) (k : Nl P (kvs.map fun p => dkD p.1) μ) : Cl S (.type "list") [d] env μ P := by
  refine Cl.of (call_list_dT hc) fun F H as xs Q W r kk => ?_
  obtain ⟨x, rfl, rr⟩ := dvs1 r
  obtain ⟨p, rfl, vs, hr, dv⟩ := W.dct rr h1
  refine ⟨p, vs, rfl, hr, fun q bs n hk => ?_⟩
  obtain ⟨F2, W2, g2, dv2⟩ := adoptKeys W dv hk
  exact (kk.go g2).new W2 n k dv2
end
end Me

/-! Me17: dict(pairs). -/
namespace Me
open PySem PySem.Spec PyProof.Rows L2
section
variable {X : Cx} {pins : List (Addr × Obj)} {σ : L2.St} {H : Hp} {s : Shared}
structure PrT where
  k : List Key
  b : Addr
  v : V
theorem pairs_T (I : Inv X pins σ H s) : ∀ {ps : List Addr} {ts : List PrT}, Paired (fun p t => SqT X.K H p [V.ref t.b, t.v] ∧ H t.b = some (.tup (t.k.map kV))) ps ts →
    ∃ prs : List (List Key × Addr × Value), Paired (fun t x => x.1 = t.k ∧ x.2.1 = t.b ∧ RelV t.v x.2.2 ∧ H t.b = some (.tup (t.k.map kV))) ts prs ∧ prs.length = ps.length ∧
      ∀ (j : Nat) (x : List Key × Addr × Value), prs[j]? = some x → ∃ p, ps[j]? = some p ∧ IsTup s.heap p #[.ref x.2.1, x.2.2]
  | _, _, .nil => ⟨[], .nil, rfl, fun j q e => by simp at e⟩
  | _, _, .cons (a := p) (b := t0) ⟨h, hk⟩ t => by
    obtain ⟨prs, r, hl, hp⟩ := pairs_T I t
    obtain ⟨its, rv, ht, _⟩ := I.tuple h
    obtain ⟨u, y, ei, ru, ry⟩ := vals2 rv
    subst ei
    cases (show u = Value.ref t0.b from ru)
    refine ⟨(t0.k, t0.b, y) :: prs, .cons ⟨rfl, rfl, ry, hk⟩ r, by rw [List.length_cons, List.length_cons, hl], fun j x e => ?_⟩
    cases j with
    | zero =>
      obtain rfl := Option.some.inj e
      exact ⟨p, rfl, ht⟩
    | succ j => simpa using hp j x (by simpa using e)
theorem puts_KT {H : Hp} : ∀ {ts : List PrT} {prs : List (List Key × Addr × Value)} {kvs : List (List Key × V)} {xs : List (List Key × Addr × Value)}, Paired (fun t x => x.1 = t.k ∧ x.2.1 = t.b ∧ RelV t.v x.2.2 ∧ H t.b = some (.tup (t.k.map kV))) ts prs → KT H kvs xs →
    KT H (ts.foldl (fun acc t => putK acc t.k t.v) kvs) (storedAllH xs prs)
  | _, _, _, _, .nil, q => q
  | _, _, kvs, xs, .cons (a := t) (b := x) ⟨e1, e2, e3, e4⟩ r, q => by
    show KT H (List.foldl _ (putK kvs t.k t.v) _) (List.foldl _ (storedH xs x.1 x.2.1 x.2.2) _)
    refine puts_KT r ?_
    rw [e1, e2]
    exact q.put t.k e4 e3
theorem putsT_len : ∀ (ts : List PrT) (kvs : List (List Key × V)), (ts.foldl (fun acc t => putK acc t.k t.v) kvs).length ≤ kvs.length + ts.length
  | [], kvs => Nat.le_refl _
  | t :: ts, kvs => by
    have h1 := putsT_len ts (putK kvs t.k t.v)
    have h2 := length_putK kvs t.k t.v
    rw [List.length_cons]
    show (ts.foldl _ (putK kvs t.k t.v)).length ≤ _
    omega
theorem call_dictT (hc : X.calm = true) (hu : X.A.units + 70 < cLine) : CallR X (.type "dict") (fun xs H Q => ∃ (a : Addr) (ps : List Addr) (ts : List PrT), xs = [.ref a] ∧ SqL X.K H a (ps.map V.ref) ∧
    Paired (fun p t => SqT X.K H p [V.ref t.b, t.v] ∧ H t.b = some (.tup (t.k.map kV))) ps ts ∧ ∀ p, H p = none → Q (.ref p) (upd H p (.dT (ts.foldl (fun acc t => putK acc t.k t.v) [])))) := by
  intro pins s σ H xs us Q I r h
  obtain ⟨a, ps, ts, rfl, hq, hp, q⟩ := h
  obtain ⟨u, rfl, rx⟩ := vals1 r
  cases rx
  obtain ⟨its, rv, pl, hz⟩ := I.list hq
  obtain rfl := refs_at rv
  rw [List.length_map] at hz
  obtain ⟨prs, rel, hl, hpr⟩ := pairs_T I hp
  obtain ⟨o, n, ho, hcl, hd, hdat⟩ := pl
  have hlen2 : ts.length = prs.length := Paired.length rel
  have mem : ∀ {ts : List PrT} {prs : List (List Key × Addr × Value)}, Paired (fun t x => x.1 = t.k ∧ x.2.1 = t.b ∧ RelV t.v x.2.2 ∧ H t.b = some (.tup (t.k.map kV))) ts prs → ∀ x ∈ prs, H x.2.1 = some (.tup (x.1.map kV)) := by
    intro ts prs r
    induction r with
    | nil => intro x hx; exact nomatch hx
    | cons h t ih =>
      intro x hx
      obtain ⟨e1, e2, _, e4⟩ := h
      rcases List.mem_cons.mp hx with rfl | z
      · rw [e1, e2]; exact e4
      · exact ih x z
  refine call_dict_pairsH (knd := tupleKind (mixKind X.prog X.w)) (ps := prs) (PairArg.list a (ps.map Value.ref).toArray (fun j => (ps[j]?).getD 0) (prs.map fun x => (Value.ref x.2.1, x.2.2))) (I.ok.hd hc) (show X.A.units + 1 + 1 < cLine by omega)
    ⟨⟨o, n, ho, hcl, hd, hdat⟩, by simp [hl], fun j k v e => ?_⟩ ⟨by simp, fun i key v e => ?_⟩ (fun h' hk x hx => ?_) (by rw [List.length_map, hl]; exact hz) fun h' tk hd' hk => ?_
  · rw [List.getElem?_map] at e
    obtain ⟨x, hx, ex⟩ := Option.map_eq_some_iff.mp e
    obtain ⟨p, hp1, hp2⟩ := hpr j x hx
    injection ex with e1 e2
    subst e1 e2
    refine ⟨by simp [hp1], .inl ?_⟩
    simp only [hp1, Option.getD_some]
    exact hp2
  · have e' : (prs.map fun x => (Value.ref x.2.1, x.2.2))[i]? = some (key, v) := e
    rw [List.getElem?_map] at e'
    obtain ⟨x, hx, ex⟩ := Option.map_eq_some_iff.mp e'
    injection ex with e1 e2
    subst e1 e2
    exact ⟨x.1, x.2.1, hx, rfl⟩
  · obtain ⟨o, its, n, h1, h2⟩ := key_of I.hok (mem rel x hx)
    exact ⟨o, its, n, hk _ _ (Nat.ne_of_lt (Heap.lt_size h1)) (fun z => nomatch z) h1, h2⟩
  · have hm : (s.heap.objs.size == sysModules) = false := beq_eq_false_iff_ne.mpr (Nat.ne_of_gt I.big)
    have hn : H s.heap.objs.size = none := I.hok.fresh (Nat.le_refl _)
    have hll : (ts.foldl (fun acc t => putK acc t.k t.v) []).length ≤ sizeLine := by
      have := putsT_len ts []
      simp only [List.length_nil] at this
      omega
    obtain ⟨o2, es, ep, g1, g2, g3, g4, _, g5⟩ := hd'
    refine ⟨.ref s.heap.objs.size, upd H s.heap.objs.size (.dT (ts.foldl (fun acc t => putK acc t.k t.v) [])), I.laid (t' := tk) (fun b o e => hk b o (fun z => nomatch z) e) (Nat.le_refl _) ?_, rfl, q _ hn⟩
    exact ⟨hll, hm, _, (puts_KT rel Paired.nil).keeps fun b ys e => by rw [upd_ne (ne_of_none e hn)]; exact e, o2, es, ep, g1, g2, g3, g4, g5⟩
end
/-! ### at the values' level -/
def asPair (t : Bool) : D → Option (DK × D)
  | .tup [a, b] => (asDK t a).map fun k => (k, b)
  | _ => none
def putsD (kvs : List (DK × D)) (ps : List (DK × D)) : List (DK × D) := ps.foldl (fun acc p => putD acc p.1 p.2) kvs
theorem asPair_of {t : Bool} {d : D} {p : DK × D} (h : asPair t d = some p) : ∃ dk, d = .tup [dk, p.2] ∧ asDK t dk = some p.1 := by
  unfold asPair at h
  split at h
  · rename_i a b
    obtain ⟨k, h1, h2⟩ := Option.map_eq_some_iff.mp h
    subst h2
    exact ⟨a, rfl, h1⟩
  · exact nomatch h
section
variable {Γ : Gam} {F H : Hp} {as : List Ad}
theorem prK (K : PySem.W.Frag) (sF : Same F H) : ∀ {ds : List D} {vs : List V} {ps : List (DK × D)}, DVs Γ F as vs ds → ds.map (asPair false) = ps.map some →
    ∃ (qs : List Addr) (kvs : List (Key × V)), vs = qs.map V.ref ∧ Paired (fun p kv => SqT K H p [kV kv.1, kv.2]) qs kvs ∧ ∀ {acc : List (Key × V)} {acc' : List (DK × D)}, DKs Γ F as acc acc' → DKs Γ F as (mergeK acc kvs) (putsD acc' ps)
  | [], _, [], .nil, _ => ⟨[], [], rfl, .nil, fun h => h⟩
  | d :: ds, _, p :: ps, .cons h t, e => by
    rw [List.map_cons, List.map_cons] at e
    injection e with e1 e2
    obtain ⟨qs, kvs, h1, h2, h3⟩ := prK K sF t e2
    obtain ⟨dk, rfl, hk⟩ := asPair_of e1
    obtain ⟨x, hx, hxe⟩ := asDK_k hk
    obtain ⟨a, ws, rfl, hw, dw⟩ := h.tupV
    obtain ⟨y, z, rfl, r1, r2⟩ := dvs2 dw
    refine ⟨a :: qs, (x, z) :: kvs, by rw [h1]; rfl, .cons ?_ h2, fun hacc => ?_⟩
    · rw [r1.key hxe] at hw
      exact .inl (.inl (sF _ _ hw))
    · refine h3 ?_
      show DKs Γ F as (putK _ x z) (putD _ p.1 p.2)
      rw [hx]
      exact hacc.put x r2
theorem prT (K : PySem.W.Frag) (sF : Same F H) : ∀ {ds : List D} {vs : List V} {ps : List (DK × D)}, DVs Γ F as vs ds → ds.map (asPair true) = ps.map some →
    ∃ (qs : List Addr) (ts : List PrT), vs = qs.map V.ref ∧ Paired (fun p t => SqT K H p [V.ref t.b, t.v] ∧ H t.b = some (.tup (t.k.map kV))) qs ts ∧ ∀ {acc : List (List Key × V)} {acc' : List (DK × D)}, DTs Γ F as acc acc' → DTs Γ F as (ts.foldl (fun acc t => putK acc t.k t.v) acc) (putsD acc' ps)
  | [], _, [], .nil, _ => ⟨[], [], rfl, .nil, fun h => h⟩
  | d :: ds, _, p :: ps, .cons h t, e => by
    rw [List.map_cons, List.map_cons] at e
    injection e with e1 e2
    obtain ⟨qs, ts, h1, h2, h3⟩ := prT K sF t e2
    obtain ⟨dk, rfl, hk⟩ := asPair_of e1
    obtain ⟨x, hx⟩ := asDK_t hk
    obtain ⟨a, ws, rfl, hw, dw⟩ := h.tupV
    obtain ⟨y, z, rfl, r1, r2⟩ := dvs2 dw
    obtain ⟨b, rfl, hb⟩ := r1.keyT (hk.trans (congrArg some hx))
    refine ⟨a :: qs, ⟨x, b, z⟩ :: ts, by rw [h1]; rfl, .cons ⟨.inl (.inl (sF _ _ hw)), sF _ _ hb⟩ h2, fun hacc => ?_⟩
    refine h3 ?_
    show DTs Γ F as (putK _ x z) (putD _ p.1 p.2)
    rw [hx]
    exact hacc.put x r2
end
section
variable {S : Sc} {env : En} {μ : Mu} {d : D} {ds : List D} {P : KD}
theorem c_dictP (t : Bool) {ps : List (DK × D)} (h1 : vw μ d = .lst ds) (hp : ds.map (asPair t) = ps.map some) (hc : S.X.calm = true) (k : P (.cell μ.length) (μ ++ [.dct t none (putsD [] ps)])) : Cl S (.type "dict") [d] env μ P := by
  have kp : ∀ (as : List Ad) (p : Addr) js, Kp as (as ++ [⟨p, none⟩]) js := fun as p js i hi ad e => by rw [List.getElem?_append_left (List.getElem?_eq_some_iff.mp e).1]; exact e
  cases t with
  | false =>
    refine Cl.of (call_dictP hc) fun F H as xs Q W r kk => ?_
    obtain ⟨x, rfl, rr⟩ := dvs1 r
    obtain ⟨p, vs, rfl, hv, dv⟩ := W.lst rr h1
    obtain ⟨qs, kvs, rfl, h2, h3⟩ := prK S.X.K W.sub dv hp
    refine ⟨p, qs, kvs, rfl, .inl (.inl hv), h2, fun q n => ?_⟩
    obtain ⟨W2, g2⟩ := W.addO (o := .dK (mergeK [] kvs)) (c := .dct false none (putsD [] ps)) n fun nF => ⟨nF, _, upd_same, (h3 .nil).to (Same.refl F) (kp as q _)⟩
    exact kk _ _ _ _ _ _ k g2 W2 (.cell (ad := ⟨q, none⟩) (W.last _))
  | true =>
    refine Cl.of (call_dictT hc S.hu) fun F H as xs Q W r kk => ?_
    obtain ⟨x, rfl, rr⟩ := dvs1 r
    obtain ⟨p, vs, rfl, hv, dv⟩ := W.lst rr h1
    obtain ⟨qs, ts, rfl, h2, h3⟩ := prT S.X.K W.sub dv hp
    refine ⟨p, qs, ts, rfl, .inl (.inl hv), h2, fun q n => ?_⟩
    obtain ⟨W2, g2⟩ := W.addO (o := .dT (ts.foldl (fun acc t => putK acc t.k t.v) [])) (c := .dct true none (putsD [] ps)) n fun nF => ⟨nF, _, upd_same, (h3 .nil).to (Same.refl F) (kp as q _)⟩
    exact kk _ _ _ _ _ _ k g2 W2 (.cell (ad := ⟨q, none⟩) (W.last _))
end
end Me

/-! Me18: == of dicts by names. -/
namespace Me
open PySem PySem.Spec PyProof.Rows L2
section
variable {prog : Program} {w : World} {A : Around} {s : Shared} {K : Type} [DecidableEq K] {knd : HeapKind prog w K}
/-- whether each pair of the one is in the other -/
def hitsT (e : Value → Value → Bool) (kb : List (K × Addr × Value)) : List (K × Addr × Value) → Bool
  | [] => true
  | x :: r => match atKey kb x.1 with
    | none => false
    | some p => e x.2.2 p.2 && hitsT e kb r
end
end Me

/-! Me19: == of dicts by names with ints, at the values' level. -/
namespace Me
open PySem PySem.Spec PyProof.Rows L2
def eInt : Value → Value → Bool
  | .int i _, .int j _ => i == j
  | _, _ => false
/-- each pair of the one is in the other -/
def inD (kws : List (DK × D)) : List (DK × D) → Bool
  | [] => true
  | p :: r => (match p.2, valD kws p.1 with
    | .int i, some (.int j) => i == j
    | _, _ => false) && inD kws r
def AllInt (kvs : List (DK × D)) : Prop := ∀ p ∈ kvs, ∃ i, p.2 = D.int i
section
variable {Γ : Gam} {F H : Hp} {as : List Ad}
end
section
variable {S : Sc} {env : En} {μ : Mu} {d1 d2 : D} {kvs kws : List (DK × D)} {P : KD}
def sameD (kvs kws : List (DK × D)) : Bool := kvs.length == kws.length && inD kws kvs
end
end Me

/-! Me20: == and != of instances by an own __eq__. -/
namespace Me
open PySem PySem.Spec PyProof.Rows L2
section
variable {prog : Program} {w : World} {A : Around} {E : Value → Shared → Prop} {s : Shared} {K : PySem.W.Frag} {x C L f : Addr} {h₀ : Heap} {m : Str → Option Value} {ox : Obj} {od : Option Obj} {b tb : Value}
end
section
variable {S : Sc} {env : En} {μ : Mu} {c : String} {P : KD} {d1 d2 : D} {k : Nat} {C : Ct}
/-- a class with an own __eq__ and no own __ne__ -/
structure NoNe (K : PySem.W.Frag) (Γ : Gam) (c : String) : Prop where
  ex : ∃ Ca, Γ.cls c = some Ca ∧ PySem.W.findIn K (.ref Ca) "__ne__" = some (some (.builtin "object.__ne__")) ∧ PySem.W.plainOver K Ca = true
end
end Me

/-! Me21: views through several cells; all, min, max. -/
namespace Me
open PySem PySem.Spec PyProof.Rows L2
mutual
/-- what a value is now, cells opened all the way down -/
inductive Dv (μ : Mu) : D → D → Prop
  | non : Dv μ .non .non
  | bl (b : Bool) : Dv μ (.bl b) (.bl b)
  | int (i : Int) : Dv μ (.int i) (.int i)
  | str (x : Str) : Dv μ (.str x) (.str x)
  | lst {ds es : List D} : Dvs μ ds es → Dv μ (.lst ds) (.lst es)
  | tup {ds es : List D} : Dvs μ ds es → Dv μ (.tup ds) (.tup es)
  | cell {j : Nat} {ds es : List D} : μ[j]? = some (.lst ds) → Dvs μ ds es → Dv μ (.cell j) (.lst es)
inductive Dvs (μ : Mu) : List D → List D → Prop
  | nil : Dvs μ [] []
  | cons {d e : D} {ds es : List D} : Dv μ d e → Dvs μ ds es → Dvs μ (d :: ds) (e :: es)
end
mutual
/-- plain data without dicts -/
def D.fl : D → Bool
  | .non => true
  | .bl _ => true
  | .int _ => true
  | .str _ => true
  | .lst ds => D.fls ds
  | .tup ds => D.fls ds
  | .dct _ _ => false
  | .ins _ _ => false
  | .err _ _ => false
  | .ty _ => false
  | .tpx _ => false
  | .cls _ => false
  | .cell _ => false
def D.fls : List D → Bool
  | [] => true
  | d :: ds => d.fl && D.fls ds
end
mutual
theorem Dv.self {μ : Mu} : ∀ d : D, d.fl = true → Dv μ d d
  | .non, _ => .non
  | .bl b, _ => .bl b
  | .int i, _ => .int i
  | .str x, _ => .str x
  | .lst ds, h => .lst (Dvs.self ds (by simpa [D.fl] using h))
  | .tup ds, h => .tup (Dvs.self ds (by simpa [D.fl] using h))
  | .dct _ _, h => by simp [D.fl] at h
  | .ins _ _, h => by simp [D.fl] at h
  | .err _ _, h => by simp [D.fl] at h
  | .ty _, h => by simp [D.fl] at h
  | .tpx _, h => by simp [D.fl] at h
  | .cls _, h => by simp [D.fl] at h
  | .cell _, h => by simp [D.fl] at h
theorem Dvs.self {μ : Mu} : ∀ ds : List D, D.fls ds = true → Dvs μ ds ds
  | [], _ => .nil
  | d :: ds, h => by
    simp only [D.fls, Bool.and_eq_true] at h
    exact .cons (Dv.self d h.1) (Dvs.self ds h.2)
end
section
variable {Γ : Gam} {F H : Hp} {as : List Ad} {μ : Mu}
mutual
theorem Dv.dp (K : PySem.W.Frag) (W : Wd Γ F H as μ) {v : V} {d e : D} (h : Dv μ d e) (r : DV Γ F as v d) : Dp K H v e.py := by
  cases h with
  | non => cases r; exact .non
  | bl b => cases r; exact .bl b
  | int i => cases r; exact .int i
  | str x => cases r; exact .str x
  | lst t => cases r with | lst h1 h2 => exact .lst (.inl (.inl (W.sub _ _ h1))) (Dvs.dp K W t h2)
  | tup t => cases r with | tup h1 h2 => exact .tup (.inl (.inl (W.sub _ _ h1))) (Dvs.dp K W t h2)
  | cell hc t =>
    cases r with
    | cell ha =>
      obtain ⟨_, _, vs, h1, h2⟩ := W.ok _ _ _ ha hc
      exact .lst (.inl (.inl h1)) (Dvs.dp K W t h2)
theorem Dvs.dp (K : PySem.W.Frag) (W : Wd Γ F H as μ) {vs : List V} {ds es : List D} (h : Dvs μ ds es) (r : DVs Γ F as vs ds) : DpAll K H vs (D.pys es) := by
  cases h with
  | nil => cases r; exact .nil
  | cons h1 h2 => cases r with | cons r1 r2 => exact .cons (Dv.dp K W h1 r1) (Dvs.dp K W h2 r2)
end
end
section
variable {S : Sc} {env : En} {μ : Mu} {d d1 d2 e1 e2 : D} {ds : List D} {P : KD} {i j : Int}
@[reducible] def ShOk (d e : D) : Prop := SeqAt.shaped d.py = true ∧ SeqAt.shaped e.py = true
theorem o_eqV (h1 : Dv μ d1 e1) (h2 : Dv μ d2 e2) (hk : ShOk e1 e2) (kk : P (.bl (eqv e1 e2)) μ) : Op2 S (compareOp .Eq) d1 d2 env μ P :=
  Op2.of (op_eqD (by have := S.hu; omega)) fun F H as x y Q W r1 r2 kq => ⟨e1.py, e2.py, h1.dp _ W r1, h2.dp _ W r2, hk.1, hk.2, kq.now W kk (.bl _)⟩
@[reducible] def RpOk (d : D) : Prop := d.py.showable = true ∧ d.py.hasDict = false ∧ d.py.depth ≤ 64 ∧ d.py.shown.length ≤ sizeLine
theorem c_reprV (h1 : Dv μ d e1) (hk : RpOk e1) (k : P (.str e1.py.shown) μ) : Cl S (.builtin "repr") [d] env μ P :=
  Cl.of (Gd.cr_repr S.hg (by have := S.hu; omega)) fun F H as xs Q W r kk => by
    obtain ⟨x, rfl, r1⟩ := dvs1 r
    exact ⟨x, e1.py, rfl, h1.dp _ W r1, hk.1, hk.2.1, hk.2.2.1, hk.2.2.2, kk.now W k (.str _)⟩
end
end Me

/-! Me22: the built-in names, ready. -/
namespace Me
open PySem PySem.Spec PyProof.Rows L2
section
variable {S : Sc} {env : En} {μ : Mu} {e : Expr} {es : List Expr} {pos p0 : Pos} {P : KD} {PB : Bool → Mu → Prop}
theorem thn_n {rest : List Stmt} {R : Out → Prop} (h : B S rest env μ R) : Thn S rest R (.next env μ) := h
theorem asT_i {q : Bool} (h : PB q μ) : asT PB (.bl q) μ := ⟨q, rfl, h⟩
theorem boot_len : bootBuiltins "len" = some (.builtin "len") := by decide +kernel
theorem k_len (h : A S (e :: es) env μ fun ds μ1 => Cl S (.builtin "len") ds env μ1 P) (hg : Gl S.X "len" := by rfl) (he : starEach (e :: es) S.X.env = (false, eval e S.X.env) :: starEach es S.X.env := by rfl) (hpl : (backTo pos (starEach es S.X.env)).any (·.1) = false := by rfl) :
    E S (.Call (.Name "len" p0) (e :: es) [] pos) env μ P := e_callB S.hb.len boot_len h hg (by decide) (by decide) he hpl
theorem boot_abs : bootBuiltins "abs" = some (.builtin "abs") := by decide +kernel
theorem k_abs (h : A S (e :: es) env μ fun ds μ1 => Cl S (.builtin "abs") ds env μ1 P) (hg : Gl S.X "abs" := by rfl) (he : starEach (e :: es) S.X.env = (false, eval e S.X.env) :: starEach es S.X.env := by rfl) (hpl : (backTo pos (starEach es S.X.env)).any (·.1) = false := by rfl) :
    E S (.Call (.Name "abs" p0) (e :: es) [] pos) env μ P := e_callB S.hb.abs boot_abs h hg (by decide) (by decide) he hpl
theorem boot_repr : bootBuiltins "repr" = some (.builtin "repr") := by decide +kernel
theorem k_repr (h : A S (e :: es) env μ fun ds μ1 => Cl S (.builtin "repr") ds env μ1 P) (hg : Gl S.X "repr" := by rfl) (he : starEach (e :: es) S.X.env = (false, eval e S.X.env) :: starEach es S.X.env := by rfl) (hpl : (backTo pos (starEach es S.X.env)).any (·.1) = false := by rfl) :
    E S (.Call (.Name "repr" p0) (e :: es) [] pos) env μ P := e_callB S.hb.repr boot_repr h hg (by decide) (by decide) he hpl
theorem boot_sorted : bootBuiltins "sorted" = some (.builtin "sorted") := by decide +kernel
theorem k_sorted (h : A S (e :: es) env μ fun ds μ1 => Cl S (.builtin "sorted") ds env μ1 P) (hg : Gl S.X "sorted" := by rfl) (he : starEach (e :: es) S.X.env = (false, eval e S.X.env) :: starEach es S.X.env := by rfl) (hpl : (backTo pos (starEach es S.X.env)).any (·.1) = false := by rfl) :
    E S (.Call (.Name "sorted" p0) (e :: es) [] pos) env μ P := e_callB S.hb.sorted boot_sorted h hg (by decide) (by decide) he hpl
theorem boot_all : bootBuiltins "all" = some (.builtin "all") := by decide +kernel
theorem k_all (h : A S (e :: es) env μ fun ds μ1 => Cl S (.builtin "all") ds env μ1 P) (hg : Gl S.X "all" := by rfl) (he : starEach (e :: es) S.X.env = (false, eval e S.X.env) :: starEach es S.X.env := by rfl) (hpl : (backTo pos (starEach es S.X.env)).any (·.1) = false := by rfl) :
    E S (.Call (.Name "all" p0) (e :: es) [] pos) env μ P := e_callB S.hb.all boot_all h hg (by decide) (by decide) he hpl
theorem boot_min : bootBuiltins "min" = some (.builtin "min") := by decide +kernel
theorem k_min (h : A S (e :: es) env μ fun ds μ1 => Cl S (.builtin "min") ds env μ1 P) (hg : Gl S.X "min" := by rfl) (he : starEach (e :: es) S.X.env = (false, eval e S.X.env) :: starEach es S.X.env := by rfl) (hpl : (backTo pos (starEach es S.X.env)).any (·.1) = false := by rfl) :
    E S (.Call (.Name "min" p0) (e :: es) [] pos) env μ P := e_callB S.hb.min boot_min h hg (by decide) (by decide) he hpl
theorem boot_max : bootBuiltins "max" = some (.builtin "max") := by decide +kernel
theorem k_max (h : A S (e :: es) env μ fun ds μ1 => Cl S (.builtin "max") ds env μ1 P) (hg : Gl S.X "max" := by rfl) (he : starEach (e :: es) S.X.env = (false, eval e S.X.env) :: starEach es S.X.env := by rfl) (hpl : (backTo pos (starEach es S.X.env)).any (·.1) = false := by rfl) :
    E S (.Call (.Name "max" p0) (e :: es) [] pos) env μ P := e_callB S.hb.max boot_max h hg (by decide) (by decide) he hpl
theorem boot_isinstance : bootBuiltins "isinstance" = some (.builtin "isinstance") := by decide +kernel
theorem k_isinstance (h : A S (e :: es) env μ fun ds μ1 => Cl S (.builtin "isinstance") ds env μ1 P) (hg : Gl S.X "isinstance" := by rfl) (he : starEach (e :: es) S.X.env = (false, eval e S.X.env) :: starEach es S.X.env := by rfl) (hpl : (backTo pos (starEach es S.X.env)).any (·.1) = false := by rfl) :
    E S (.Call (.Name "isinstance" p0) (e :: es) [] pos) env μ P := e_callB S.hb.isinstance boot_isinstance h hg (by decide) (by decide) he hpl
theorem boot_int : bootBuiltins "int" = some (.type "int") := by decide +kernel
theorem k_int (h : A S (e :: es) env μ fun ds μ1 => Cl S (.type "int") ds env μ1 P) (hg : Gl S.X "int" := by rfl) (he : starEach (e :: es) S.X.env = (false, eval e S.X.env) :: starEach es S.X.env := by rfl) (hpl : (backTo pos (starEach es S.X.env)).any (·.1) = false := by rfl) :
    E S (.Call (.Name "int" p0) (e :: es) [] pos) env μ P := e_callTy S.hb.int boot_int h hg (by decide) (by decide) he hpl
theorem boot_tuple : bootBuiltins "tuple" = some (.type "tuple") := by decide +kernel
theorem k_tuple (h : A S (e :: es) env μ fun ds μ1 => Cl S (.type "tuple") ds env μ1 P) (hg : Gl S.X "tuple" := by rfl) (he : starEach (e :: es) S.X.env = (false, eval e S.X.env) :: starEach es S.X.env := by rfl) (hpl : (backTo pos (starEach es S.X.env)).any (·.1) = false := by rfl) :
    E S (.Call (.Name "tuple" p0) (e :: es) [] pos) env μ P := e_callTy S.hb.tuple boot_tuple h hg (by decide) (by decide) he hpl
theorem boot_list : bootBuiltins "list" = some (.type "list") := by decide +kernel
theorem k_list (h : A S (e :: es) env μ fun ds μ1 => Cl S (.type "list") ds env μ1 P) (hg : Gl S.X "list" := by rfl) (he : starEach (e :: es) S.X.env = (false, eval e S.X.env) :: starEach es S.X.env := by rfl) (hpl : (backTo pos (starEach es S.X.env)).any (·.1) = false := by rfl) :
    E S (.Call (.Name "list" p0) (e :: es) [] pos) env μ P := e_callTy S.hb.list boot_list h hg (by decide) (by decide) he hpl
theorem boot_dict : bootBuiltins "dict" = some (.type "dict") := by decide +kernel
theorem k_dict (h : A S (e :: es) env μ fun ds μ1 => Cl S (.type "dict") ds env μ1 P) (hg : Gl S.X "dict" := by rfl) (he : starEach (e :: es) S.X.env = (false, eval e S.X.env) :: starEach es S.X.env := by rfl) (hpl : (backTo pos (starEach es S.X.env)).any (·.1) = false := by rfl) :
    E S (.Call (.Name "dict" p0) (e :: es) [] pos) env μ P := e_callTy S.hb.dict boot_dict h hg (by decide) (by decide) he hpl
theorem boot_str : bootBuiltins "str" = some (.type "str") := by decide +kernel
theorem boot_bool : bootBuiltins "bool" = some (.type "bool") := by decide +kernel
/-- target = e -/
theorem b_asg {tg : Expr} {rest : List Stmt} {R : Out → Prop} {rel : D → En → En → Prop} {vs : List Nat} (hg : Tg S tg rel vs) (h : E S e env μ fun d m => ∃ env', rel d env env' ∧ B S rest env' m R)
    (hs : swapsWithSole [tg] e pos.line S.X.env = pure false := by rfl) (hw : swappedStores [tg] e S.X.env = pure none := by rfl) (h1 : (assignEach [tg] S.X.env).map (·.2) = [assign tg S.X.env] := by rfl) : B S (.Assign [tg] e pos :: rest) env μ R := by
  refine b_cons (PS.imp (ps_asg h hg hs hw h1) fun Dx σ H ⟨F, as, a, k⟩ => ⟨F, as, a, fun d m v F1 H1 as1 ⟨env', r, b⟩ g1 W1 r1 => ?_⟩)
  exact ⟨d, env, env', F1, as1, r, r1, W1.sub, a.e.mono g1, fun σ' e' _ => k.nx env' m σ' F1 H1 as1 b g1 e' W1⟩
end
end Me

/-! Me23: o.f, o.g = .. -/
namespace Me
open PySem PySem.Spec PyProof.Rows L2
section
variable {X : Cx} {o : Expr} {to : TE} {f : Str} {pos : Pos}
def gFld (K : PySem.W.Frag) (to : TE) (f : Str) : TG := fun v σ H Q => to σ H fun x H1 => ∃ a C dx fs, x = .ref a ∧ H1 a = some (.ins C dx fs) ∧ Cls K C ∧ NoAttr K C f ∧ fs.length < 1000 ∧ Q σ (upd H1 a (.ins C dx (putF f v fs)))
end
section
variable {S : Sc} {env : En} {μ : Mu} {e o1 o2 : Expr} {rest : List Stmt} {R : Out → Prop} {pos p1 p2 pt : Pos} {f1 f2 : Str} {k : Nat}
end
end Me

/-! LM1: the laws' bag and the laws' data. -/
namespace Lm
open PySem PySem.Spec PyProof.Rows L2 Me

/-- the laws' bag -/
structure Bag where
  a : Int
  seed : Int
  i : Int
  cells : List Int
def bagD (s : Bag) : List D := [.int s.a, .int s.seed, .int s.i, .lst (s.cells.map D.int)]
def bagC (s : Bag) : Cell := .lst (bagD s)
structure Good (s : Bag) : Prop where
  a0 : 0 ≤ s.a
  s0 : 0 ≤ s.seed
  s1 : s.seed < 2147483647
  i0 : 0 ≤ s.i
def cellOf (s : Bag) : Int := if s.i < s.cells.length then s.cells.getD s.i.toNat 0 else 0
def fill (s : Bag) : Bag := if s.a = 0 then
    ⟨if 1000000000000000000 ≤ cellOf s then cellOf s else 0, (s.seed * 48271 + (cellOf s % 2147483647 + 7919 * (s.i + 1))) % 2147483647, s.i + 1, s.cells⟩
  else s
def takeV (s : Bag) (n : Int) : Int := if 0 < (fill s).a then (fill s).a % n else ((fill s).seed * 48271 + 11) % 2147483647 / 64 % n
def takeS (s : Bag) (n : Int) : Bag := if 0 < (fill s).a then { fill s with a := (fill s).a / n } else { fill s with seed := ((fill s).seed * 48271 + 11) % 2147483647 }
theorem fill_good {s : Bag} (h : Good s) : Good (fill s) := by
  unfold fill
  split
  · refine ⟨?_, Int.emod_nonneg _ (by decide), Int.emod_lt_of_pos _ (by decide), ?_⟩
    · show 0 ≤ if 1000000000000000000 ≤ cellOf s then cellOf s else 0
      split <;> omega
    · show 0 ≤ s.i + 1
      have := h.i0
      omega
  · exact h
theorem takeS_good {s : Bag} {n : Int} (h : Good s) (hn : 0 < n) : Good (takeS s n) := by
  have f := fill_good h
  unfold takeS
  split
  · exact ⟨Int.ediv_nonneg f.a0 (Int.le_of_lt hn), f.s0, f.s1, f.i0⟩
  · exact ⟨f.a0, Int.emod_nonneg _ (by decide), Int.emod_lt_of_pos _ (by decide), f.i0⟩
theorem takeV_nonneg {s : Bag} {n : Int} (hn : 0 < n) : 0 ≤ takeV s n := by
  unfold takeV
  split <;> exact Int.emod_nonneg _ (by omega)
theorem takeV_lt {s : Bag} {n : Int} (hn : 0 < n) : takeV s n < n := by
  unfold takeV
  split <;> exact Int.emod_lt_of_pos _ hn
/-- data that == and repr take: how deep at most, how long its text at most -/
structure Ok (d : PyData) (h n : Nat) : Prop where
  lay : d.canLay0 = true
  shw : d.showable = true
  dep : d.depth ≤ h
  txt : d.shown.length ≤ n
theorem Ok.mono {d : PyData} {h n h' n' : Nat} (o : Ok d h n) (a : h ≤ h') (b : n ≤ n') : Ok d h' n' := ⟨o.lay, o.shw, Nat.le_trans o.dep a, Nat.le_trans o.txt b⟩
theorem str_len_append (a b : Str) : (a ++ b).length = a.length + b.length := by
  show (a.cps ++ b.cps).size = a.cps.size + b.cps.size
  exact Array.size_append
theorem Ok.none : Ok .none 0 4 := ⟨rfl, rfl, Nat.le_refl _, by decide⟩
theorem Ok.bool (b : Bool) : Ok (.bool b) 0 5 := by cases b <;> exact ⟨rfl, rfl, Nat.le_refl _, by decide⟩
theorem Ok.str {x : Str} (h : PyData.strOk x = true) {n : Nat} (hn : x.length ≤ n) : Ok (.str x) 0 (10 * n + 2) := by
  refine ⟨by simpa [PyData.canLay0] using h, rfl, Nat.le_refl _, ?_⟩
  have k := StrLaws.reprText_len x fun c hc => by
    have := h
    unfold PyData.strOk at this
    rw [Array.all_eq_true'] at this
    have z := of_decide_eq_true (this c (Array.mem_toList_iff.mp hc))
    omega
  show (reprText x).length ≤ _
  omega
theorem textFrom_le : ∀ (ts : List Str) (k : Nat) (acc : Str), (textFrom k acc ts).length ≤ acc.length + piled ts
  | [], k, acc => Nat.le_refl _
  | t :: r, k, acc => by
    have ih := textFrom_le r (k + 1) (acc ++ (if k > 0 then ", " else "" : String) ++ t)
    rw [str_len_append, str_len_append] at ih
    rw [piled_cons]
    have : (Str.ofString (if k > 0 then ", " else "" : String)).length ≤ 2 := by split <;> decide
    show (textFrom (k + 1) (acc ++ (if k > 0 then ", " else "" : String) ++ t) r).length ≤ _
    omega
theorem piled_le {n : Nat} : ∀ {ts : List Str}, (∀ t ∈ ts, t.length ≤ n) → piled ts ≤ ts.length * (n + 2)
  | [], _ => Nat.zero_le _
  | t :: r, h => by
    have ih := piled_le (ts := r) fun t ht => h t (List.mem_cons_of_mem _ ht)
    have := h t List.mem_cons_self
    rw [piled_cons, List.length_cons, Nat.succ_mul]
    omega
theorem shownAll_len : ∀ ds : List PyData, (PyData.shownAll ds).length = ds.length
  | [] => rfl
  | d :: ds => by simp [PyData.shownAll, shownAll_len ds]
theorem shownAll_le {n : Nat} : ∀ {ds : List PyData}, (∀ d ∈ ds, d.shown.length ≤ n) → ∀ t ∈ PyData.shownAll ds, t.length ≤ n
  | [], _, t, ht => by simp [PyData.shownAll] at ht
  | d :: ds, h, t, ht => by
    simp only [PyData.shownAll, List.mem_cons] at ht
    rcases ht with rfl | ht
    · exact h d List.mem_cons_self
    · exact shownAll_le (ds := ds) (fun d hd => h d (List.mem_cons_of_mem _ hd)) t ht
theorem all_lay {h n : Nat} : ∀ {ds : List PyData}, (∀ d ∈ ds, Ok d h n) → PyData.canLayAll0 ds = true ∧ PyData.showableAll ds = true ∧ PyData.depthAll ds ≤ h
  | [], _ => ⟨rfl, rfl, Nat.zero_le _⟩
  | d :: ds, k => by
    obtain ⟨h1, h2, h3⟩ := all_lay (ds := ds) fun d hd => k d (List.mem_cons_of_mem _ hd)
    have o := k d List.mem_cons_self
    refine ⟨by simp only [PyData.canLayAll0, o.lay, h1, Bool.and_self], by simp only [PyData.showableAll, o.shw, h2, Bool.and_self], ?_⟩
    show max d.depth (PyData.depthAll ds) ≤ h
    have := o.dep
    omega
theorem Ok.list {ds : List PyData} {h n : Nat} (k : ∀ d ∈ ds, Ok d h n) {m : Nat} (hm : ds.length ≤ m) : Ok (.list ds) (h + 1) (m * (n + 2) + 2) := by
  obtain ⟨h1, h2, h3⟩ := all_lay k
  refine ⟨h1, h2, Nat.succ_le_succ h3, ?_⟩
  show (textFrom 0 "[" (PyData.shownAll ds) ++ Str.ofString "]").length ≤ _
  rw [str_len_append]
  have a := textFrom_le (PyData.shownAll ds) 0 "["
  have b := piled_le (shownAll_le fun d hd => (k d hd).txt)
  rw [shownAll_len] at b
  have c : (Str.ofString "[").length = 1 := by decide
  have d : (Str.ofString "]").length = 1 := by decide
  have e : ds.length * (n + 2) ≤ m * (n + 2) := Nat.mul_le_mul_right _ hm
  omega
theorem Ok.tuple {ds : List PyData} {h n : Nat} (k : ∀ d ∈ ds, Ok d h n) {m : Nat} (hm : ds.length ≤ m) : Ok (.tuple ds) (h + 1) (m * (n + 2) + 3) := by
  obtain ⟨h1, h2, h3⟩ := all_lay k
  refine ⟨h1, h2, Nat.succ_le_succ h3, ?_⟩
  show (Str.ofString "(" ++ Str.join ", " (PyData.shownAll ds) ++ (Str.ofString (if (PyData.shownAll ds).length == 1 then ",)" else ")" : String))).length ≤ _
  rw [str_len_append, str_len_append]
  have b := piled_le (shownAll_le fun d hd => (k d hd).txt)
  rw [shownAll_len] at b
  have c : (Str.ofString "(").length = 1 := by decide
  have d : (Str.ofString (if (PyData.shownAll ds).length == 1 then ",)" else ")" : String)).length ≤ 2 := by split <;> decide
  have e : ds.length * (n + 2) ≤ m * (n + 2) := Nat.mul_le_mul_right _ hm
  by_cases hz : PyData.shownAll ds = []
  · rw [hz]
    have f : (Str.join (Str.ofString ", ") []).length = 0 := by decide
    rw [hz] at d
    omega
  · have := join_length_add (PyData.shownAll ds) hz
    omega
theorem Ok.mem {ds : List PyData} {h n : Nat} (o : Ok (.list ds) h n) : True := trivial
mutual
theorem noDict : ∀ {d : PyData}, d.canLay0 = true → d.hasDict = false
  | .none, _ => rfl
  | .bool _, _ => rfl
  | .int _, _ => rfl
  | .str _, _ => rfl
  | .list ds, h => noDicts (ds := ds) h
  | .tuple ds, h => noDicts (ds := ds) h
  | .dict _, h => nomatch h
theorem noDicts : ∀ {ds : List PyData}, PyData.canLayAll0 ds = true → PyData.hasDictAll ds = false
  | [], _ => rfl
  | d :: ds, h => by
    simp only [PyData.canLayAll0, Bool.and_eq_true] at h
    simp only [PyData.hasDictAll, noDict h.1, noDicts h.2, Bool.or_self]
end
theorem Ok.shaped {d : PyData} {h n : Nat} (o : Ok d h n) (hh : h ≤ 64 := by decide) : SeqAt.shaped d = true := by
  unfold SeqAt.shaped
  rw [o.lay, decide_eq_true (Nat.le_trans o.dep hh)]
  rfl
/-! ### names -/
abbrev namePy (n : List Str) : PyData := .tuple (n.map PyData.str)
theorem eqvAll_strs : ∀ a b : List Str, PyData.eqvAll (a.map PyData.str) (b.map PyData.str) = decide (a = b)
  | [], [] => rfl
  | [], _ :: _ => rfl
  | _ :: _, [] => rfl
  | x :: a, y :: b => by
    show (PyData.eqv (.str x) (.str y) && PyData.eqvAll (a.map PyData.str) (b.map PyData.str)) = _
    rw [eqvAll_strs a b]
    show ((x == y) && decide (a = b)) = _
    by_cases h1 : x = y
    · by_cases h2 : a = b
      · simp [h1, h2]
      · simp [h1, h2]
    · simp [h1]
theorem eqv_name (a b : List Str) : PyData.eqv (namePy a) (namePy b) = decide (a = b) := eqvAll_strs a b
/-- a label as the laws have them -/
structure Lab (x : Str) : Prop where
  let_ : ∀ c ∈ x.cps.toList, 97 ≤ c ∧ c ≤ 122
  pos : 1 ≤ x.length
  len : x.length ≤ 16
theorem Lab.ok {x : Str} (h : Lab x) : PyData.strOk x = true := by
  unfold PyData.strOk
  rw [Array.all_eq_true']
  intro c hc
  have := h.let_ c (Array.mem_toList_iff.mpr hc)
  exact decide_eq_true (by omega)
theorem Lab.append {x y : Str} (h : Lab x) (h' : Lab y) (hl : x.length + y.length ≤ 16) : Lab (x ++ y) := by
  refine ⟨fun c hc => ?_, by rw [str_len_append]; have := h.pos; omega, by rw [str_len_append]; exact hl⟩
  have : c ∈ (x.cps ++ y.cps).toList := hc
  rw [Array.toList_append] at this
  rcases List.mem_append.mp this with z | z
  · exact h.let_ c z
  · exact h'.let_ c z
structure Nm (n : List Str) (k : Nat) : Prop where
  lab : ∀ x ∈ n, Lab x
  len : n.length ≤ k
theorem Nm.okD {n : List Str} {k : Nat} (h : Nm n k) : Ok (namePy n) 1 (k * 164 + 3) :=
  Ok.tuple (h := 0) (n := 162) (fun d hd => by
    obtain ⟨x, hx, rfl⟩ := List.mem_map.mp hd
    exact (Ok.str (h.lab x hx).ok (h.lab x hx).len)) (by rw [List.length_map]; exact h.len)
theorem Nm.drop {n : List Str} {k : Nat} (h : Nm n k) (i : Nat) : Nm (n.drop i) k := ⟨fun x hx => h.lab x (List.mem_of_mem_drop hx), by rw [List.length_drop]; have := h.len; omega⟩
theorem Nm.take {n : List Str} {k : Nat} (h : Nm n k) (i : Nat) : Nm (n.take i) k := ⟨fun x hx => h.lab x (List.mem_of_mem_take hx), by rw [List.length_take]; have := h.len; omega⟩
theorem Nm.append {n m : List Str} {k j : Nat} (h : Nm n k) (h' : Nm m j) : Nm (n ++ m) (k + j) := ⟨fun x hx => (List.mem_append.mp hx).elim (h.lab x) (h'.lab x), by rw [List.length_append]; have := h.len; have := h'.len; omega⟩
theorem Nm.mono {n : List Str} {k j : Nat} (h : Nm n k) (e : k ≤ j) : Nm n j := ⟨h.lab, Nat.le_trans h.len e⟩
theorem Nm.nil {k : Nat} : Nm [] k := ⟨fun x hx => (nomatch hx), Nat.zero_le _⟩

/-! ### the same as values -/
abbrev nameD (n : List Str) : D := .tup (n.map D.str)
theorem pys_strs : ∀ n : List Str, D.pys (n.map D.str) = n.map PyData.str
  | [] => rfl
  | x :: n => by rw [List.map_cons, D.pys, pys_strs n]; rfl
theorem py_name (n : List Str) : (nameD n).py = namePy n := by
  show PyData.tuple (D.pys (n.map D.str)) = _
  rw [pys_strs]
theorem isPy_strs : ∀ n : List Str, D.isPys (n.map D.str) = true
  | [] => rfl
  | x :: n => by rw [List.map_cons, D.isPys, isPy_strs n]; rfl
theorem eqv_nameD (a b : List Str) : eqv (nameD a) (nameD b) = decide (a = b) := by
  unfold eqv
  rw [py_name, py_name, eqv_name]
end Lm

/-! LM2: what the laws' helpers promise. -/
namespace Lm
open PySem PySem.Spec PyProof.Rows L2 Me
/-- take(bag, n); the bag is the first cell -/
def CTake : Ct := fun args μ P _ => ∃ s n m, args = [.cell 0, .int n] ∧ μ = bagC s :: m ∧ Good s ∧ 0 < n ∧ n < 1073741824 ∧ P (.int (takeV s n)) (bagC (takeS s n) :: m)
/-- what draws from the bag and returns a value -/
def CBag (A : List D → Prop) (R : List D → D → Prop) : Ct := fun args μ P _ => ∃ s m r, args = .cell 0 :: r ∧ μ = bagC s :: m ∧ Good s ∧ A r ∧ ∀ d s', R r d → Good s' → P d (bagC s' :: m)
/-- a def that changes nothing -/
def CPure (rel : List D → D → Prop) : Ct := fun args μ P _ => ∃ d, rel args d ∧ P d μ
/-- alike(found, right), equal ones -/
def CAlike : Ct := fun args μ P _ => ∃ d1 d2 e h n, args = [d1, d2] ∧ Dv μ d1 e ∧ Dv μ d2 e ∧ Ok e.py h n ∧ h ≤ 64 ∧ n ≤ sizeLine ∧ P (.bl true) μ
def APick : List D → Prop := fun r => ∃ ds, r = [.lst ds] ∧ ds ≠ [] ∧ ds.length < 1073741824 ∧ D.refsL ds = []
def RPick : List D → D → Prop := fun r d => ∃ ds, r = [.lst ds] ∧ d ∈ ds
def ALabels : List D → Prop := fun r => ∃ n : Nat, r = [.int (n : Int)] ∧ n ≤ 100
def RLabels : List D → D → Prop := fun r d => ∃ (n : Nat) (ls : List Str), r = [.int (n : Int)] ∧ d = .lst (ls.map D.str) ∧ ls.length = n ∧ ∀ x ∈ ls, Lab x ∧ x.length ≤ 8
def AWord : List D → Prop := fun r => ∃ (ls : List Str) (a b : Int), r = [.lst (ls.map D.str), .int a, .int b] ∧ ls ≠ [] ∧ ls.length ≤ 1000 ∧ 0 ≤ a ∧ a ≤ b ∧ b ≤ 100
def RWord : List D → D → Prop := fun r d => ∃ (ls : List Str) (a b : Int) (n : List Str), r = [.lst (ls.map D.str), .int a, .int b] ∧ d = nameD n ∧ a ≤ n.length ∧ n.length ≤ b ∧ ∀ x ∈ n, x ∈ ls
def isUnder (n t : List Str) : Bool := decide (t.length ≤ n.length) && decide (n.drop (n.length - t.length) = t)
def isBeneath (n t : List Str) : Bool := decide (t.length < n.length) && isUnder n t
def relUnder (g : List Str → List Str → Bool) : List D → D → Prop := fun ds d => ∃ n t k, ds = [nameD n, nameD t] ∧ Nm n k ∧ Nm t k ∧ d = .bl (g n t)
theorem refs_strs : ∀ n : List Str, D.refsL (n.map D.str) = []
  | [] => rfl
  | x :: n => by rw [List.map_cons, D.refsL, refs_strs n]; rfl
theorem refs_ints : ∀ n : List Int, D.refsL (n.map D.int) = []
  | [] => rfl
  | x :: n => by rw [List.map_cons, D.refsL, refs_ints n]; rfl
theorem refs_name (n : List Str) : (nameD n).refs = [] := by rw [D.refs, refs_strs]
theorem bag_refs (s : Bag) : (bagC s).refs = [] := by
  show D.refsL (bagD s) = []
  simp only [bagD, D.refsL, D.refs, refs_ints, List.append_nil]
theorem low_bag {s s' : Bag} {m : Mu} (h : Low (bagC s :: m)) : Low (bagC s' :: m) := fun j c hc i hi => by
  cases j with
  | zero =>
    obtain rfl := Option.some.inj hc
    rw [bag_refs] at hi
    exact nomatch hi
  | succ j => exact h (j + 1) c hc i hi
/-! ### cuts -/
theorem cutD_to {ds : List D} {i : Int} (h : 0 ≤ i) : cutD ds none (some i) = ds.take i.toNat := by
  unfold Me.cutD
  obtain ⟨n, rfl⟩ := Int.eq_ofNat_of_zero_le h
  rw [show HT.sIx ds.length ds.length (some (n : Int)) = min n ds.length from HT.sIx_nat _ _ _, HT.sIx_none, List.drop_zero, Nat.sub_zero]
  show ds.take (min n ds.length) = ds.take n
  by_cases hn : n ≤ ds.length
  · rw [Nat.min_eq_left hn]
  · rw [Nat.min_eq_right (by omega), List.take_length, List.take_of_length_le (by omega)]
theorem at_i {α : Type} {ds : List α} {i : Int} {d : α} (h0 : 0 ≤ i) (h : ds[i.toNat]? = some d) : L2.atI ds i = some d := by
  have h2 := (List.getElem?_eq_some_iff.mp h).1
  unfold atI ixN
  rw [if_pos h0, if_pos (by omega)]
  exact h
theorem at_ints {ns : List Int} {i : Int} (h0 : 0 ≤ i) (h1 : i < ns.length) : L2.atI (ns.map D.int) i = some (.int (ns.getD i.toNat 0)) := by
  refine at_i h0 ?_
  have h2 : i.toNat < ns.length := by omega
  rw [List.getElem?_map, List.getElem?_eq_getElem h2, List.getD_eq_getElem?_getD, List.getElem?_eq_getElem h2]
  rfl
theorem at_draw {ds : List D} {b : Bag} (h : ds ≠ []) : ∃ d, d ∈ ds ∧ ds[(takeV b (ds.length : Int)).toNat]? = some d := by
  have hl : 0 < ds.length := List.length_pos_iff.mpr h
  have h1 := takeV_nonneg (s := b) (n := (ds.length : Int)) (by omega)
  have h2 := takeV_lt (s := b) (n := (ds.length : Int)) (by omega)
  have h3 : (takeV b (ds.length : Int)).toNat < ds.length := by omega
  exact ⟨_, List.getElem_mem h3, List.getElem?_eq_getElem h3⟩
/-- a stem: letters, at most seven -/
structure Stem (x : Str) : Prop where
  let_ : ∀ c ∈ x.cps.toList, 97 ≤ c ∧ c ≤ 122
  len : x.length ≤ 7
theorem mul_bit {x : Str} (h : Stem x) {n : Int} (h0 : 0 ≤ n) (h1 : n < 2) : MulOk x n ∧ Stem (Txt.mul x n) := by
  have hn : n = 0 ∨ n = 1 := by omega
  rcases hn with rfl | rfl
  · exact ⟨⟨by decide, fun z => absurd (by decide) z, fun z => absurd (by decide) z⟩, by rw [show Txt.mul x 0 = Str.empty from rfl]; exact ⟨by decide, by decide⟩⟩
  · refine ⟨⟨by decide, fun _ z => ?_, fun _ z => ?_⟩, ?_⟩
    · exact absurd z (by simp)
    · exact absurd z (by simp)
    · rw [show Txt.mul x 1 = x from rfl]
      exact h
theorem lab_of {x : Str} (h : Stem x) {c : Nat} (hc : 97 ≤ c ∧ c ≤ 122) : Lab (x ++ ⟨#[c]⟩) ∧ (x ++ (⟨#[c]⟩ : Str)).length ≤ 8 := by
  have hl := h.len
  have e : (x ++ (⟨#[c]⟩ : Str)).length = x.length + 1 := str_len_append x ⟨#[c]⟩
  refine ⟨⟨fun z hz => ?_, by omega, by omega⟩, by omega⟩
  have : z ∈ (x.cps ++ #[c]).toList := hz
  rw [Array.toList_append] at this
  rcases List.mem_append.mp this with q | q
  · exact h.let_ z q
  · obtain rfl : z = c := by simpa using q
    exact hc
theorem letter_at {i : Int} (h0 : 0 ≤ i) (h1 : i < 26) : ∃ c, (Str.ofString "abcdefghijklmnopqrstuvwxyz").cps.toList[i.toNat]? = some c ∧ 97 ≤ c ∧ c ≤ 122 := by
  have h2 : i.toNat < 26 := by omega
  have : ∀ n : Nat, n < 26 → ∃ c, (Str.ofString "abcdefghijklmnopqrstuvwxyz").cps.toList[n]? = some c ∧ 97 ≤ c ∧ c ≤ 122 := by decide
  exact this _ h2
/-! ### calls -/
section
variable {S : Sc} {env : En} {μ : Mu} {e : Expr} {es : List Expr} {pos p0 : Pos} {x : Str} {k : Nat} {P : KD}
theorem ctake {s : Bag} {n : Int} {m : Mu} {Z : KX} (gs : Good s) (hn : 0 < n ∧ n < 1073741824) (k : P (.int (takeV s n)) (bagC (takeS s n) :: m)) : CTake [.cell 0, .int n] (bagC s :: m) P Z := ⟨s, n, m, rfl, rfl, gs, hn.1, hn.2, k⟩
theorem cbag {s : Bag} {m : Mu} {r : List D} {A : List D → Prop} {R : List D → D → Prop} {Z : KX} (gs : Good s) (hA : A r) (k : ∀ d s', R r d → Good s' → P d (bagC s' :: m)) : CBag A R (.cell 0 :: r) (bagC s :: m) P Z := ⟨s, m, r, rfl, rfl, gs, hA, k⟩
theorem c_lenN {n : List Str} (k : P (.int n.length) μ) : Cl S (.builtin "len") [nameD n] env μ P := c_lenT (by rw [List.length_map]; exact k)
end
end Lm

/-! LM3: lists of names, zones. -/
namespace Lm
open PySem PySem.Spec PyProof.Rows L2 Me
open PySem.W (alike alikeAll)
/-- a label that the program takes -/
def L8 (x : Str) : Prop := Lab x ∧ x.length ≤ 8
/-- a name of at most so many labels -/
structure N8 (n : List Str) (k : Nat) : Prop where
  lab : ∀ x ∈ n, L8 x
  len : n.length ≤ k
theorem N8.nm {n : List Str} {k : Nat} (h : N8 n k) : Nm n k := ⟨fun x hx => (h.lab x hx).1, h.len⟩
theorem N8.mono {n : List Str} {k j : Nat} (h : N8 n k) (e : k ≤ j) : N8 n j := ⟨h.lab, Nat.le_trans h.len e⟩
/-! ### lists of names -/
def nmsD (ns : List (List Str)) : List D := ns.map nameD
/-- some names, none empty -/
structure Ns (ns : List (List Str)) (k m : Nat) : Prop where
  ok : ∀ n ∈ ns, N8 n k ∧ n ≠ []
  len : ns.length ≤ m
theorem alike_strs : ∀ a b : List Str, alikeAll (a.map PyData.str) (b.map PyData.str) = true
  | [], b => by cases b <;> simp [alikeAll]
  | x :: a, [] => by simp [alikeAll]
  | x :: a, y :: b => by
    show alikeAll (.str x :: a.map .str) (.str y :: b.map .str) = true
    rw [alikeAll, alike_strs a b]
    simp [alike]
theorem depth_strs : ∀ a : List Str, PyData.depthAll (a.map PyData.str) = 0
  | [] => by simp [PyData.depthAll]
  | x :: a => by
    show PyData.depthAll (.str x :: a.map .str) = 0
    rw [PyData.depthAll, depth_strs a]
    simp [PyData.depth]
theorem isPys_nms : ∀ ns : List (List Str), D.isPys (nmsD ns) = true
  | [] => rfl
  | n :: ns => by
    show ((nameD n).isPy && D.isPys (nmsD ns)) = true
    rw [isPys_nms ns, Bool.and_true]
    exact isPy_strs n
theorem hasDict_strs : ∀ a : List Str, PyData.hasDictAll (a.map PyData.str) = false
  | [] => rfl
  | x :: a => by
    show (PyData.hasDict (.str x) || PyData.hasDictAll (a.map .str)) = false
    rw [hasDict_strs a]
    rfl
theorem hasDict_nms : ∀ ns : List (List Str), PyData.hasDictAll (D.pys (nmsD ns)) = false
  | [] => rfl
  | n :: ns => by
    show (PyData.hasDict (nameD n).py || PyData.hasDictAll (D.pys (nmsD ns))) = false
    rw [hasDict_nms ns, py_name, Bool.or_false]
    exact hasDict_strs n
theorem Ns.srtOk {ns : List (List Str)} {k m : Nat} (h : Ns ns k m) (hm : m ≤ 1000) : SrtOk (nmsD ns) := by
  refine ⟨isPys_nms ns, hasDict_nms ns, ?_, .inl ?_, ?_, ?_⟩
  · intro d hd d' hd'
    unfold nmsD at hd hd'
    rw [List.map_map] at hd hd'
    obtain ⟨n, _, rfl⟩ := List.mem_map.mp hd
    obtain ⟨n', _, rfl⟩ := List.mem_map.mp hd'
    show alike (nameD n).py (nameD n').py = true
    rw [py_name, py_name]
    show alikeAll (n.map PyData.str) (n'.map PyData.str) = true
    exact alike_strs n n'
  · intro d hd
    unfold nmsD at hd
    rw [List.map_map] at hd
    obtain ⟨n, hn, rfl⟩ := List.mem_map.mp hd
    show ∃ x r, (nameD n).py = _
    rw [py_name]
    cases n with
    | nil => exact absurd rfl (h.ok _ hn).2
    | cons x r => exact ⟨.str x, r.map .str, rfl⟩
  · unfold nmsD
    rw [List.length_map, sizeLine_eq]
    have := h.len
    omega
  · intro d hd
    obtain ⟨n, hn, rfl⟩ := List.mem_map.mp hd
    rw [py_name]
    show PyData.depthAll (n.map .str) + 1 ≤ 60
    rw [depth_strs]
    decide
/-- the names, ascending -/
def asc (ns : List (List Str)) : List (List Str) := ns.mergeSort fun a b => PySem.W.dataLe false D.py (nameD a) (nameD b)
theorem srt_nms (ns : List (List Str)) : srt (nmsD ns) = nmsD (asc ns) :=
  (List.map_mergeSort (f := fun n : List Str => nameD n) (r := fun a b => PySem.W.dataLe false D.py (nameD a) (nameD b)) (s := PySem.W.dataLe false D.py) fun _ _ _ _ => rfl).symm
theorem mem_asc {ns : List (List Str)} {n : List Str} : n ∈ asc ns ↔ n ∈ ns := List.mem_mergeSort
theorem len_asc (ns : List (List Str)) : (asc ns).length = ns.length := List.length_mergeSort _
theorem Ns.asc {ns : List (List Str)} {k m : Nat} (h : Ns ns k m) : Ns (Lm.asc ns) k m := ⟨fun n hn => h.ok n (mem_asc.mp hn), by rw [len_asc]; exact h.len⟩
theorem refs_nms : ∀ ns : List (List Str), D.refsL (nmsD ns) = []
  | [] => rfl
  | n :: ns => by
    show (nameD n).refs ++ D.refsL (nmsD ns) = []
    rw [refs_nms ns, refs_name]
    rfl
theorem pys_nms (ns : List (List Str)) : D.pys (nmsD ns) = ns.map namePy := by
  rw [pys_map]
  unfold nmsD
  rw [List.map_map]
  exact List.map_congr_left fun n _ => py_name n
theorem Ns.okD {ns : List (List Str)} {k m : Nat} (h : Ns ns k m) : Ok (D.lst (nmsD ns)).py 2 (m * (k * 164 + 3 + 2) + 2) := by
  show Ok (.list (D.pys (nmsD ns))) _ _
  rw [pys_nms]
  exact Ok.list (h := 1) (n := k * 164 + 3) (fun d hd => by
    obtain ⟨n, hn, rfl⟩ := List.mem_map.mp hd
    exact (h.ok n hn).1.nm.okD) (by rw [List.length_map]; exact h.len)
theorem eqv_nms : ∀ a b : List (List Str), PyData.eqvAll (a.map namePy) (b.map namePy) = decide (a = b)
  | [], [] => rfl
  | [], _ :: _ => rfl
  | _ :: _, [] => rfl
  | x :: a, y :: b => by
    show (PyData.eqv (namePy x) (namePy y) && PyData.eqvAll (a.map namePy) (b.map namePy)) = _
    rw [eqv_nms a b, eqv_name]
    by_cases h1 : x = y
    · by_cases h2 : a = b
      · simp [h1, h2]
      · simp [h1, h2]
    · simp [h1]
theorem eqv_nmsL (a b : List (List Str)) : eqv (.lst (nmsD a)) (.lst (nmsD b)) = decide (a = b) := by
  show PyData.eqvAll (D.pys (nmsD a)) (D.pys (nmsD b)) = _
  rw [pys_nms, pys_nms, eqv_nms]
theorem any_nms {n : List Str} : ∀ ns : List (List Str), ((nmsD ns).any fun z => eqv z (nameD n)) = decide (n ∈ ns)
  | [] => rfl
  | m :: ns => by
    show (eqv (nameD m) (nameD n) || (nmsD ns).any fun z => eqv z (nameD n)) = _
    rw [any_nms ns, eqv_nameD]
    by_cases h1 : m = n
    · simp [h1]
    · have h2 : ¬ n = m := fun z => h1 z.symm
      simp [h1, h2]
end Lm

/-! LM4: dicts from names to ints. -/
namespace Lm
open PySem PySem.Spec PyProof.Rows L2 Me
abbrev Zp := List (List Str × Int)
def zk (ps : Zp) : List (DK × D) := ps.map fun p => (nmK p.1, .int p.2)
def keysZ (ps : Zp) : List (List Str) := ps.map (·.1)
def getZ (ps : Zp) (n : List Str) : Option Int := (ps.find? fun p => decide (p.1 = n)).map (·.2)
def putZ (ps : Zp) (n : List Str) (v : Int) : Zp := if n ∈ keysZ ps then ps.map (fun p => if p.1 = n then (p.1, v) else p) else ps ++ [(n, v)]
theorem nmK_inj {a b : List Str} : nmK a = nmK b ↔ a = b := by
  constructor
  · intro h
    injection h with h
    exact List.map_inj_right (fun _ _ z => Sum.inr.inj z) |>.mp h
  · exact fun h => h ▸ rfl
theorem dk_nm (n : List Str) : dkD (nmK n) = nameD n := by
  show D.tup ((n.map Sum.inr).map keyD) = _
  rw [List.map_map]
  rfl
theorem zk_keys (ps : Zp) : (zk ps).map (fun p => dkD p.1) = nmsD (keysZ ps) := by
  unfold zk keysZ nmsD
  rw [List.map_map, List.map_map]
  exact List.map_congr_left fun p _ => dk_nm p.1
theorem valZ (n : List Str) : ∀ ps : Zp, valD (zk ps) (nmK n) = (getZ ps n).map D.int
  | [] => rfl
  | p :: ps => by
    show valD ((nmK p.1, D.int p.2) :: zk ps) (nmK n) = _
    rw [valD_cons, valZ n ps]
    unfold getZ
    by_cases h : p.1 = n
    · rw [if_pos (by rw [h]), List.find?_cons_of_pos (by simpa using h)]
      rfl
    · rw [if_neg (fun z => h (nmK_inj.mp z)), List.find?_cons_of_neg (by simpa using h)]
theorem getZ_some {n : List Str} : ∀ {ps : Zp}, (getZ ps n).isSome = decide (n ∈ keysZ ps)
  | [] => rfl
  | p :: ps => by
    have ih := getZ_some (n := n) (ps := ps)
    unfold getZ keysZ at *
    by_cases h : p.1 = n
    · rw [List.find?_cons_of_pos (by simpa using h)]
      simp [h]
    · rw [List.find?_cons_of_neg (by simpa using h), ih]
      have h2 : ¬ n = p.1 := fun z => h z.symm
      simp [h2]
theorem putD_zk (ps : Zp) (n : List Str) (v : Int) : putD (zk ps) (nmK n) (.int v) = zk (putZ ps n v) := by
  have e : ((zk ps).any fun kv => decide (kv.1 = nmK n)) = decide (n ∈ keysZ ps) := by
    rw [valD_any, valZ, Option.isSome_map, getZ_some]
  unfold putD putZ
  rw [e]
  by_cases h : n ∈ keysZ ps
  · rw [if_pos (decide_eq_true h), if_pos h]
    unfold zk
    rw [List.map_map, List.map_map]
    refine List.map_congr_left fun p _ => ?_
    show (if nmK p.1 = nmK n then (nmK p.1, D.int v) else (nmK p.1, D.int p.2)) = _
    by_cases hp : p.1 = n
    · rw [if_pos (by rw [hp])]
      simp [hp]
    · rw [if_neg (fun z => hp (nmK_inj.mp z))]
      simp [hp]
  · rw [if_neg (by simpa using h), if_neg h]
    unfold zk
    rw [List.map_append]
    rfl
def putsZ (acc ps : Zp) : Zp := ps.foldl (fun a p => putZ a p.1 p.2) acc
theorem putsD_zk : ∀ (ps acc : Zp), putsD (zk acc) (zk ps) = zk (putsZ acc ps)
  | [], acc => rfl
  | p :: ps, acc => by
    show putsD (putD (zk acc) (nmK p.1) (.int p.2)) (zk ps) = _
    rw [putD_zk, putsD_zk ps]
    rfl
theorem putsZ_nodup : ∀ (ps acc : Zp), (keysZ (acc ++ ps)).Nodup → putsZ acc ps = acc ++ ps
  | [], acc, _ => (List.append_nil acc).symm
  | p :: ps, acc, h => by
    show putsZ (putZ acc p.1 p.2) ps = _
    have hn : p.1 ∉ keysZ acc := by
      unfold keysZ at h ⊢
      rw [List.map_append, List.map_cons] at h
      have := (List.nodup_append.mp h).2.2
      exact fun z => this p.1 z p.1 List.mem_cons_self rfl
    rw [show putZ acc p.1 p.2 = acc ++ [p] by unfold putZ; rw [if_neg hn]]
    rw [putsZ_nodup ps (acc ++ [p]) (by rw [List.append_assoc]; exact h), List.append_assoc]
    rfl
theorem getZ_mem {p : List Str × Int} : ∀ {ps : Zp}, (keysZ ps).Nodup → p ∈ ps → getZ ps p.1 = some p.2
  | q :: ps, h, hp => by
    unfold keysZ at h
    rw [List.map_cons] at h
    obtain ⟨h1, h2⟩ := List.nodup_cons.mp h
    rcases List.mem_cons.mp hp with e | e
    · subst e
      unfold getZ
      rw [List.find?_cons_of_pos (by simp)]
      rfl
    · have ne : ¬ q.1 = p.1 := fun z => h1 (List.mem_map.mpr ⟨p, e, z.symm⟩)
      have ih := getZ_mem (p := p) (ps := ps) h2 e
      unfold getZ at ih ⊢
      rw [List.find?_cons_of_neg (by simpa using ne)]
      exact ih
theorem vw_dct {μ : Mu} {j : Nat} {t : Bool} {lk : Option HO} {kvs : List (DK × D)} (h : μ[j]? = some (.dct t lk kvs)) : vw μ (.cell j) = .dct t kvs := by simp only [vw, h]
theorem vw_lst {μ : Mu} {j : Nat} {ds : List D} (h : μ[j]? = some (.lst ds)) : vw μ (.cell j) = .lst ds := by simp only [vw, h]
theorem vw_ins {μ : Mu} {j : Nat} {c : String} {fs : List (Str × D)} (h : μ[j]? = some (.ins c fs)) : vw μ (.cell j) = .ins c fs := by simp only [vw, h]
theorem at_lt {μ : Mu} {j : Nat} {c : Cell} (h : μ[j]? = some c) : j < μ.length := (List.getElem?_eq_some_iff.mp h).1
theorem at_app {μ ext : Mu} {j : Nat} {c : Cell} (h : μ[j]? = some c) : (μ ++ ext)[j]? = some c := by rw [List.getElem?_append_left (at_lt h)]; exact h
theorem at_set {μ : Mu} {j : Nat} {c d : Cell} (h : μ[j]? = some c) : (μ.set j d)[j]? = some d := by rw [List.getElem?_set, if_pos rfl, if_pos (at_lt h)]
theorem set_back {μ : Mu} {j : Nat} {a b : Cell} (h : μ[j]? = some b) : (μ.set j a).set j b = μ := by
  rw [List.set_set]
  refine List.ext_getElem? fun i => ?_
  rw [List.getElem?_set]
  split
  · rename_i e
    subst e
    split
    · exact h.symm
    · rename_i q
      exact absurd (List.getElem?_eq_some_iff.mp h).1 q
  · rfl
theorem set_app {μ ext : Mu} {j : Nat} {c d : Cell} (h : μ[j]? = some c) : (μ ++ ext).set j d = μ.set j d ++ ext := List.set_append_left _ _ (at_lt h)
/-- the pair of a key -/
def pairAt (ps : Zp) (d : D) : Option (DK × D) := (asDK true d).bind fun k => (valD (zk ps) k).map fun v => (k, v)
theorem pairAt_of {ps : Zp} (h : (keysZ ps).Nodup) {p : List Str × Int} (hp : p ∈ ps) : pairAt ps (nameD p.1) = some (nmK p.1, D.int p.2) := by
  unfold pairAt
  rw [asDK_name, Option.bind_some, valZ, getZ_mem h hp]
  rfl
theorem filt_zk {ps : Zp} (h : (keysZ ps).Nodup) : (nmsD (keysZ ps)).filterMap (pairAt ps) = zk ps := by
  have : ∀ qs : Zp, (∀ p ∈ qs, p ∈ ps) → (nmsD (keysZ qs)).filterMap (pairAt ps) = zk qs := by
    intro qs
    induction qs with
    | nil => intro _; rfl
    | cons p qs ih =>
      intro hq
      show (nameD p.1 :: nmsD (keysZ qs)).filterMap _ = (nmK p.1, D.int p.2) :: zk qs
      rw [List.filterMap_cons_some (pairAt_of h (hq p List.mem_cons_self)), ih fun p hp => hq p (List.mem_cons_of_mem _ hp)]
  exact this ps fun _ h => h
/-- the pairs that a zone may have -/
structure Zn (ps : Zp) (k m : Nat) : Prop where
  ok : ∀ p ∈ ps, N8 p.1 k ∧ p.1 ≠ [] ∧ 0 ≤ p.2 ∧ p.2 < 1000
  nd : (keysZ ps).Nodup
  len : ps.length ≤ m
theorem Zn.ns {ps : Zp} {k m : Nat} (h : Zn ps k m) : Ns (keysZ ps) k m := ⟨fun n hn => by
  obtain ⟨p, hp, rfl⟩ := List.mem_map.mp hn
  exact ⟨(h.ok p hp).1, (h.ok p hp).2.1⟩, by unfold keysZ; rw [List.length_map]; exact h.len⟩
theorem Zn.puts {ps : Zp} {k m : Nat} (h : Zn ps k m) : putsD [] (zk ps) = zk ps := by
  have := putsD_zk ps []
  rw [putsZ_nodup ps [] h.nd] at this
  exact this
theorem keys_put (ps : Zp) (n : List Str) (v : Int) : keysZ (putZ ps n v) = if n ∈ keysZ ps then keysZ ps else keysZ ps ++ [n] := by
  unfold putZ
  by_cases h : n ∈ keysZ ps
  · rw [if_pos h, if_pos h]
    unfold keysZ
    rw [List.map_map]
    refine List.map_congr_left fun p _ => ?_
    show (if p.1 = n then (p.1, v) else p).1 = p.1
    split <;> rfl
  · rw [if_neg h, if_neg h]
    unfold keysZ
    rw [List.map_append]
    rfl
theorem Zn.put {ps : Zp} {k m : Nat} {n : List Str} {v : Int} (h : Zn ps k m) (hn : N8 n k) (h0 : n ≠ []) (hv : 0 ≤ v ∧ v < 1000) : Zn (putZ ps n v) k (m + 1) := by
  refine ⟨fun p hp => ?_, ?_, ?_⟩
  · unfold putZ at hp
    split at hp
    · obtain ⟨q, hq, rfl⟩ := List.mem_map.mp hp
      have := h.ok q hq
      by_cases e : q.1 = n
      · rw [if_pos e]; exact ⟨this.1, this.2.1, hv⟩
      · rw [if_neg e]; exact this
    · rcases List.mem_append.mp hp with z | z
      · exact h.ok p z
      · rw [List.mem_singleton.mp z]; exact ⟨hn, h0, hv⟩
  · rw [keys_put]
    split
    · exact h.nd
    · rename_i q
      refine List.nodup_append.mpr ⟨h.nd, by simp, fun a ha b hb => ?_⟩
      rw [List.mem_singleton.mp hb]
      exact fun z => q (z ▸ ha)
  · have := h.len
    have e : (putZ ps n v).length = (keysZ (putZ ps n v)).length := by unfold keysZ; rw [List.length_map]
    have e2 : (keysZ ps).length = ps.length := by unfold keysZ; rw [List.length_map]
    rw [e, keys_put]
    split
    · omega
    · rw [List.length_append, e2]
      show ps.length + 1 ≤ m + 1
      omega
def sameZ (ps qs : Zp) : Bool := ps.length == qs.length && ps.all fun p => decide (getZ qs p.1 = some p.2)
end Lm

/-! LM5: lists or tuples. -/
namespace Lm
open PySem PySem.Spec PyProof.Rows L2 Me
/-- a list or a tuple -/
def Sq (μ : Mu) (d : D) (ds : List D) : Prop := vw μ d = .lst ds ∨ d = .tup ds
section
variable {S : Sc} {env : En} {μ : Mu} {e tg iter : Expr} {P : KD} {PI : KI} {d : D} {ds : List D}
end
theorem putsD_nd : ∀ (ps acc : List (DK × D)), ((acc ++ ps).map (·.1)).Nodup → putsD acc ps = acc ++ ps
  | [], acc, _ => (List.append_nil acc).symm
  | p :: ps, acc, h => by
    show putsD (putD acc p.1 p.2) ps = _
    have hn : (acc.any fun kv => decide (kv.1 = p.1)) = false := by
      rw [List.map_append, List.map_cons] at h
      have q := (List.nodup_append.mp h).2.2
      refine List.any_eq_false.mpr fun x hx => ?_
      simp only [decide_eq_true_eq]
      exact fun z => q x.1 (List.mem_map.mpr ⟨x, hx, rfl⟩) p.1 List.mem_cons_self z
    rw [show putD acc p.1 p.2 = acc ++ [p] by unfold putD; rw [hn]; rfl]
    rw [putsD_nd ps (acc ++ [p]) (by rw [List.append_assoc]; exact h), List.append_assoc]
    rfl
/-- {name: v for name in ..} -/
def nmP (v : D) (d : D) : Option (DK × D) := (asDK true d).map fun k => (k, v)
end Lm

/-! LM6: the law's body: first the bag, then the rest. -/
namespace Lm
open PySem PySem.Spec PyProof.Rows L2 Me
def spBag (K : PySem.W.Frag) : Sp := fun vs H Q _ => ∃ (a : Addr) (ns : List Int), vs = [.ref a] ∧ SqL K H a (ns.map V.int) ∧ ns.length ≤ 1000 ∧
  ∀ (b c : Addr) (cs : List Int) (H' : Hp), b ≠ c → H' b = some (.lst [.int 0, .int 1234567891, .int 0, .ref c]) → H' c = some (.lst (cs.map V.int)) → Q (.ref b) H'
def spLaw (K : PySem.W.Frag) : Sp := fun vs H Q _ => ∃ (a : Addr) (ns : List Int), vs = [.ref a] ∧ SqL K H a (ns.map V.int) ∧ ns.length ≤ 63 ∧ ∀ H', Q (.bl true) H'
def RTrue : Out → Prop := fun o => ∃ m, o = .ret (.bl true) m
section
variable {S : Sc} {rest : List Stmt} {H : Hp} {Q : VK} {E : XK} {vs : List V} {fB : Addr} {fdB : FuncData} {k : Nat} {p0 p1 p2 p3 p4 : Pos}
theorem law_first (n : Nat) (h : spLaw S.X.K vs H Q E) (hZ : ∀ x env m, S.Z x env m → False) (GB : FnOk S.X.prog S.X.w S.X.K S.X.mg S.X.base CX0 k fB fdB ["_law_script"] (spBag S.X.K)) (hr : Room k S.X.A) (hm : S.X.mg "_law_bag" = some (.ref fB)) (hk : PySem.W.keepIn S.X.K (.ref fB) = true) (hb : Binds S.X.K fdB ["_law_script"] [])
    (hrest : ∀ s, Good s → B S rest (none :: some (.cell 0) :: List.replicate n none) [bagC s] RTrue)
    (hl : S.X.N.length = n + 2 := by rfl) (h0 : S.X.N[0]? = some (Str.ofString "_law_script") := by rfl) (h1 : S.X.N[1]? = some (Str.ofString "_law_bag_here") := by rfl) (hv : Vis S.X.env.scope "_law_script" := by first | exact Or.inl rfl | exact Or.inr (Or.inl rfl) | exact Or.inr (Or.inr rfl))
    (hx : Loc S.X.env.scope "_law_bag_here" := by first | exact .inl rfl | exact .inr rfl) (hg : Gl S.X "_law_bag" := by rfl) (hf : S.X.fn "_law_bag_here" = true ∨ S.X.env.scope.names.lookup (Str.ofString "_law_bag_here") = some .local := by first | exact .inl rfl | exact .inr rfl)
    (hs : swapsWith (.Call (.Name "_law_bag" p1) [.Name "_law_script" p2] [] p3) (some (.Name "_law_bag_here" p0)) p4.line S.X.env = pure false := by rfl)
    (he : starEach [.Name "_law_script" p2] S.X.env = (false, eval (.Name "_law_script" p2) S.X.env) :: starEach [] S.X.env := by rfl) :
    ∃ t, PSs S.X (.Assign [.Name "_law_bag_here" p0] (.Call (.Name "_law_bag" p1) [.Name "_law_script" p2] [] p3) p4 :: rest) t ∧ t { nx := fun _ H' => Q .non H', rt := Q } (L2.start S.X.N vs) H := by
  obtain ⟨a, ns, rfl, hS, hn, q⟩ := h
  have h2 : PSs S.X rest (fun Dx σ H => ∃ s, Good s ∧ rdS S (none :: some (.cell 0) :: List.replicate n none) [bagC s] RTrue Dx σ H) := ⟨fun pins s σ H Dx I ⟨b, gb, z⟩ => (hrest b gb).run pins s σ H Dx I z⟩
  refine ⟨_, pss_cons (ps_set S.hN h1 hx (pe_call GB hr hg hm hk hb .nil pass0 (pa_cons (pe_var h0 hv (by decide) (by decide)) pa_nil he) (by decide) he rfl) hs hf) h2, ?_⟩
  have e0 : L2.start S.X.N [V.ref a] = some (.ref a) :: List.replicate (n + 1) none := by
    unfold L2.start
    rw [hl]
    rfl
  rw [e0]
  refine ⟨.ref a, rfl, a, ns, rfl, hS, by omega, fun b c cs H' nbc hb' hc' => ?_⟩
  refine ⟨⟨0, 1234567891, 0, cs⟩, ⟨Int.le_refl 0, (by decide : (0 : Int) ≤ 1234567891), (by decide : (1234567891 : Int) < 2147483647), Int.le_refl 0⟩, fun x => if x = c then some (.lst (cs.map V.int)) else none, [⟨b, none⟩], ⟨⟨?_, ?_⟩, ⟨?_, by simp, rfl, ?_, ?_⟩, fun x env m σ cls dx F2 H2 as2 z => (hZ x env m z).elim⟩, ?_, ?_, ?_, ?_⟩
  · show (none :: some (D.cell 0) :: List.replicate n none).length = (some (V.ref a) :: List.replicate (n + 1) none).length
    simp
  · intro i sv e
    match i, e with
    | 0, e => exact nomatch e
    | 1, e =>
      obtain rfl : D.cell 0 = sv := Option.some.inj (Option.some.inj e)
      exact ⟨.ref b, rfl, .cell (ad := ⟨b, none⟩) rfl⟩
    | i + 2, e =>
      have e' : (List.replicate n (none : Option D))[i]? = some (some sv) := e
      rw [List.getElem?_replicate] at e'
      split at e' <;> exact nomatch e'
  · intro x o e
    have e : (if x = c then some (HO.lst (cs.map V.int)) else none) = some o := e
    by_cases hx : x = c
    · rw [if_pos hx] at e
      rw [hx, hc']
      exact e
    · rw [if_neg hx] at e
      exact nomatch e
  · intro i x cl hx hcl
    match i, hx, hcl with
    | 0, hx, hcl =>
      obtain rfl : (⟨b, none⟩ : Ad) = x := Option.some.inj hx
      obtain rfl := Option.some.inj hcl
      refine ⟨rfl, if_neg nbc, _, hb', .cons (.int 0) (.cons (.int _) (.cons (.int 0) (.cons (.lst (if_pos rfl) (DVs.ofInts cs)) .nil)))⟩
  · intro x hx
    rw [List.mem_singleton.mp hx]
    show H' b ≠ none
    rw [hb']
    exact fun z => nomatch z
  · rintro _ _ _ _ _ _ ⟨m, e⟩
    exact nomatch e
  · rintro sv m v F2 H2 as2 ⟨m', e⟩ _ _ r
    cases e
    cases r
    exact q H2
  · rintro _ _ _ _ _ _ ⟨m, e⟩
    exact nomatch e
  · rintro _ _ _ _ _ _ ⟨m, e⟩
    exact nomatch e
end
end Lm

/-! Me24: y = [.. for ..] of a plain local (the model's own statement). -/
namespace Me
open PySem PySem.Spec PyProof.Rows L2
section
variable {S : Sc} {env : En} {μ : Mu} {elt iter tg : Expr} {ifs : List Expr} {scope : Scope} {rest : List Stmt} {R : Out → Prop} {pos spos py p1 : Pos} {x y : Str}
theorem b_lcG {rel : D → En → En → Prop} (own : List (Str × Nat)) (i : Nat) (fin : List D → Mu → Prop)
    (hfin : ∀ {F H : Hp} {as : List Ad} {Q : VK}, Kv S F H as (fun d μ1 => B S rest (env.set i (some d)) μ1 R) Q → ∀ acc m D0 vs F2 H2 as2, fin acc m → H2 D0 = none → Wd S.Γ F2 H2 as2 m → Go F H as F2 H2 as2 → DVs S.Γ F2 as2 vs acc → Q (.ref D0) (upd H2 D0 (.lst vs)))
    (hc : S.X.calm = true) (hi : S.X.N[i]? = some y) (hyl : S.X.env.scope.names.lookup y = some .local) (hsw : swapsWith (.ListComp elt [⟨tg, iter, ifs, 0⟩] scope pos) (some (.Name y py)) spos.line S.X.env = pure true)
    (ok : BlkOk S.X.N S.X.env.scope scope own) (hg : AllB S scope fun S' => Tg S' tg rel (own.map fun x : Str × Nat => x.2))
    (h : Iter S tg iter env μ fun ds Sx μ1 => ∃ I, Comp S scope rel (own.map fun x : Str × Nat => x.2) elt ifs env I ds Sx μ1 fin) (hf : ∀ x, foldedSetIterable iter S.X.env x = pure x := by intro _; rfl) :
    B S (.Assign [.Name y py] (.ListComp elt [⟨tg, iter, ifs, 0⟩] scope pos) spos :: rest) env μ R := by
  refine b_cons (PS.imp (ps_setLc (own := own) (g := rdG S rel (own.map fun x : Str × Nat => x.2)) (tt := rdTT S scope ifs) (te := rdEE S scope elt) hc S.hN hi hyl hsw h ok hg pts_all pe_all hf) fun D σ H ⟨F, as, a, k⟩ => ?_)
  refine ⟨F, as, a, fun ds Sx μ1 J F1 H1 as1 ⟨I, L⟩ g1 W1 iw => lc_read (Q := fun x H1 => gName i x σ H1 D.nx) fin a L g1 W1 iw (hfin (Q := fun x H1 => gName i x σ H1 D.nx) ?_)⟩
  exact fun d μ1 v F1 H1 as1 p1 g1 W1 r1 => k.nx _ μ1 _ F1 H1 as1 p1 g1 ((a.e.mono g1).set r1 i) W1
/-- y = [elt for x in iter if ..], the list as a value -/
theorem b_lc (i j : Nat) (ok : BlkOk S.X.N S.X.env.scope scope [(x, i)])
    (h : Iter S (.Name x p1) iter env μ fun ds Sx μ1 => ∃ I, Comp S scope (rName i) [i] elt ifs env I ds Sx μ1 (FinL fun d μ1 => B S rest (env.set j (some d)) μ1 R))
    (hc : S.X.calm = true := by rfl) (hn : S.X.N[i]? = some x := by rfl) (hj : S.X.N[j]? = some y := by rfl) (hyl : S.X.env.scope.names.lookup y = some .local := by rfl)
    (hsw : swapsWith (.ListComp elt [⟨.Name x p1, iter, ifs, 0⟩] scope pos) (some (.Name y py)) spos.line S.X.env = pure true := by rfl)
    (hx : NameOk S scope x := by exact fun _ _ _ _ _ => ⟨by first | exact .inl rfl | exact .inr rfl, by first | exact .inl rfl | exact .inr rfl⟩)
    (hf : ∀ x, foldedSetIterable iter S.X.env x = pure x := by intro _; rfl) : B S (.Assign [.Name y py] (.ListComp elt [⟨.Name x p1, iter, ifs, 0⟩] scope pos) spos :: rest) env μ R :=
  b_lcG (rel := rName i) [(x, i)] j _ fin_l hc hj hyl hsw ok (fun s H C cl fp => g_name (S := Blk S scope s H C cl fp) i hn (hx s H C cl fp).1 (hx s H C cl fp).2) h hf
end
end Me

/-! Me25: sets of text tuples (fewer than 64) in the model's own table: search, adding, laying anew. -/
namespace Me
open PySem PySem.Spec PyProof.Rows L2
abbrev hNm (P : Program) (w : World) (n : List Str) : Int := tupleKeyHash (strKind P w) n
abbrev NmAt (P : Program) (w : World) (h : Heap) (n : List Str) (b : Addr) : Prop := IsTupleKey (strKind P w) h n b
abbrev stp (m : Nat) (g : Int) (c : Nat) : SetTable.Probe := nth m (runAt m (SetTable.bits g % (m + 1)) (SetTable.bits g)) c
abbrev Nms := List (Addr × List Str)
def rwN (P : Program) (w : World) (L : Nms) : List (Int × Value) := L.map fun q => (hNm P w q.2, .ref q.1)
section
variable {P : Program} {w : World} {A : Around} {E : Value → Shared → Prop} {s : Shared}
end
/-- the set at a has the names L in its table -/
structure NSet (P : Program) (w : World) (h : Heap) (a : Addr) (L : Nms) (es : Array (Int × Value)) (ep : Nat) (t : SetTable) : Prop where
  obj : ∃ o, h.get? a = some o ∧ o.ExactSet ∧ o.data = .set es ep t
  rw_ : es.toList = rwN P w L
  tb : TabOk t (L.map fun q => hNm P w q.2)
  nd : (L.map fun q => q.2).Nodup
  nms : ∀ q ∈ L, NmAt P w h q.2 q.1
  ld : w.params.followText "set-order" = true ∨ t.led = true
  rm : L.length * 5 < t.mask * 3
  few : L.length < 64
section
variable {P : Program} {w : World} {A : Around} {E : Value → Shared → Prop} {s : Shared} {h : Heap} {a : Addr} {L : Nms} {es : Array (Int × Value)} {ep : Nat} {t : SetTable}
theorem rw_len (e : es.toList = rwN P w L) : es.size = L.length := by
  have z := congrArg List.length e
  unfold rwN at z
  rwa [Array.length_toList, List.length_map] at z
theorem fits_of (hs : t.place.size = es.size) (hd : t.dummies = #[]) (hm : es.size ≤ t.mask) : t.fits es.size = true := by
  unfold SetTable.fits SetTable.fill
  rw [hd, Bool.and_eq_true, beq_iff_eq, decide_eq_true_eq]
  exact ⟨hs, by show t.place.size + 0 ≤ t.mask; omega⟩
theorem NSet.psz (R : NSet P w h a L es ep t) : t.place.size = es.size := by
  have := R.tb.sz
  rw [List.length_map] at this
  rw [this, rw_len R.rw_]
theorem NSet.fits (R : NSet P w h a L es ep t) : t.fits es.size = true := fits_of R.psz R.tb.dm (by
  have := R.rm
  rw [rw_len R.rw_]
  omega)
theorem NmAt.off {h h' : Heap} {n : List Str} {b : Addr} {o : Obj} (hb : NmAt P w h n b) (ho : h.get? a = some o) (hd : o.data = .set es ep t) (sb : Heap.SameBut a h h') : NmAt P w h' n b := by
  obtain ⟨o', items, m, h1, c1, d1, i1⟩ := hb
  refine ⟨o', items, m, (sb.2 b fun z => ?_).trans h1, c1, d1, i1⟩
  rw [z, ho] at h1
  rw [← Option.some.inj h1, hd] at d1
  exact nomatch d1
end
end Me

/-! Me26: a name added to a set; set(list of names), set(tuple of names). -/
namespace Me
open PySem PySem.Spec PyProof.Rows L2
section
variable {P : Program} {w : World} {A : Around} {E : Value → Shared → Prop} {s : Shared} {h : Heap} {a : Addr} {L : Nms} {es : Array (Int × Value)} {ep : Nat} {t : SetTable}
end
/-- what the first i items have brought -/
structure Brought (ks : Nms) (i : Nat) (L : Nms) : Prop where
  sub : ∀ q ∈ L, q ∈ ks.take i
  all : ∀ q ∈ ks.take i, q.2 ∈ L.map fun q => q.2
  len : L.length ≤ i
theorem take_one {α : Type} {l : List α} {i : Nat} {x : α} (h : l[i]? = some x) : l.take (i + 1) = l.take i ++ [x] := by
  rw [List.take_succ, h]
  rfl
theorem Brought.same {ks L : Nms} {i : Nat} {x : Addr × List Str} (g : Brought ks i L) (h : ks[i]? = some x) (hm : x.2 ∈ L.map fun q => q.2) : Brought ks (i + 1) L := by
  refine ⟨fun p hp => ?_, fun p hp => ?_, Nat.le_succ_of_le g.len⟩
  · rw [take_one h]
    exact List.mem_append_left _ (g.sub p hp)
  · rw [take_one h] at hp
    exact (List.mem_append.mp hp).elim (g.all p) fun z => by rw [List.mem_singleton.mp z]; exact hm
theorem Brought.more {ks L L' : Nms} {i : Nat} {x : Addr × List Str} (g : Brought ks i L) (h : ks[i]? = some x) (pm : L'.Perm (x :: L)) : Brought ks (i + 1) L' := by
  refine ⟨fun p hp => ?_, fun p hp => ?_, by rw [pm.length_eq]; exact Nat.succ_le_succ g.len⟩
  · rw [take_one h]
    exact (List.mem_cons.mp (pm.mem_iff.mp hp)).elim (fun e => by rw [e]; exact List.mem_append_right _ (List.mem_singleton.mpr rfl)) fun z => List.mem_append_left _ (g.sub p z)
  · rw [(pm.map _).mem_iff, List.map_cons]
    rw [take_one h] at hp
    exact (List.mem_append.mp hp).elim (fun z => List.mem_cons_of_mem _ (g.all p z)) fun z => by rw [List.mem_singleton.mp z]; exact List.mem_cons_self
section
variable {P : Program} {w : World} {A : Around} {E : Value → Shared → Prop} {s : Shared}
theorem NmAt.keep {h h' : Heap} {n : List Str} {b : Addr} (x : NmAt P w h n b) (k : ∀ c o, h.get? c = some o → h'.get? c = some o) : NmAt P w h' n b := by
  obtain ⟨o, items, m, ho, r⟩ := x
  exact ⟨o, items, m, k b o ho, r⟩
theorem NSet.keep {h h' : Heap} {a : Addr} {L : Nms} {es : Array (Int × Value)} {ep : Nat} {t : SetTable} (R : NSet P w h a L es ep t) (ka : ∀ o, h.get? a = some o → h'.get? a = some o) (kt : ∀ q ∈ L, NmAt P w h' q.2 q.1) : NSet P w h' a L es ep t := by
  obtain ⟨o, ho, r⟩ := R.obj
  exact ⟨⟨o, ka o ho, r⟩, R.rw_, R.tb, R.nd, kt, R.ld, R.rm, R.few⟩
abbrev set0 (w : World) : Obj := { cls := .type "set", dict := none, data := .set #[] 0 (.fresh 0 0 (!w.params.followText "set-order")) }
end
end Me

/-! set(list of names), by gen27.py. -/
namespace Me
open PySem PySem.Spec PyProof.Rows L2
section
variable {P : Program} {w : World} {A : Around} {E : Value → Shared → Prop} {s : Shared}
end
end Me

/-! Me28: len(set(x)) of a list of names. -/
namespace Me
open PySem PySem.Spec PyProof.Rows L2
abbrev nmD (n : List Str) : D := .tup (n.map D.str)
/-- how many a set of them has -/
def Uniq (ns : List (List Str)) (m : Nat) : Prop := m ≤ ns.length ∧ (m = ns.length ↔ ns.Nodup)
section
variable {Γ : Gam} {F H : Hp} {as : List Ad} {X : Cx} {pins : List (Addr × Obj)} {σ : L2.St} {s : Shared} {μ : Mu}
end
section
variable {S : Sc} {env : En} {μ : Mu} {e : Expr} {P : KD} {p p2 q pos : Pos}
end
end Me

/-! Me29: C(e, .., k = v, ..); properties. -/
namespace Me
open PySem PySem.Spec PyProof.Rows L2
section
variable {S : Sc} {env : En} {μ : Mu} {a b e o : Expr} {es : List Expr} {kws : List Keyword} {pos p0 kpos : Pos} {x f : Str} {nm : Option Str} {c : String} {P : KD} {k n : Nat} {C : Ct} {ks : List Str} {PL : List D → Mu → Prop}
def KA (S : Sc) (kws : List Keyword) (env : En) (μ : Mu) (P : List D → Mu → Prop) : Prop := PK S.X kws (rdA S env μ P)
/-- a class whose __init__ takes n values by place and those named ks by keyword -/
structure MakK (P : Program) (w : World) (K : PySem.W.Frag) (mg : Str → Option Value) (base : Heap) (Γ : Gam) (k : Nat) (c : String) (x : Str) (n : Nat) (ks : List Str) (C : Ct) : Prop where
  ex : ∃ Ca f fd ps g gV, Γ.cls c = some Ca ∧ Mk K Ca f ∧ mg x = some (.ref Ca) ∧ Gd.FnG P w K mg base (L2.CX P w) k f fd ps (spM Γ C) ∧ KBn K fd ps (n + 1) ks g gV ∧ ∀ vs zs : List V, vs.length = n + 1 → zs.length = ks.length → gV vs zs = vs ++ zs
end
/-- a property that reads a field -/
structure Prp (P : Program) (w : World) (K : PySem.W.Frag) (mg : Str → Option Value) (base : Heap) (Γ : Gam) (c : String) (f g : Str) : Prop where
  ex : ∃ C p a fd, Γ.cls c = some C ∧ Cls K C ∧ PropOf K C f p a ∧ FnOk P w K mg base CX0 1 a fd ["self"] (getSp C g) ∧ Binds K fd ["self"] []
section
variable {S : Sc} {env : En} {μ : Mu} {e : Expr} {pos : Pos} {f g : Str} {c : String} {P : KD}
end
end Me

/-! Me30: list(range(n)). -/
namespace Me
open PySem PySem.Spec PyProof.Rows L2
section
variable {S : Sc} {env : En} {μ : Mu} {e : Expr} {P : KD} {p q p2 pos : Pos}
end
end Me

/-! Me31: tuple * int. -/
namespace Me
open PySem PySem.Spec PyProof.Rows L2
section
variable {S : Sc} {env : En} {μ : Mu} {ds : List D} {i : Int} {P : KD}
theorem o_mulT (h0 : ds ≠ []) (hi : 2 ≤ i ∧ i ≤ 1000) (hl : ds.length ≤ 1000) (k : P (.tup (List.replicate i.toNat ds).flatten) μ) : Op2 S (binaryOp .Mult) (.tup ds) (.int i) env μ P :=
  Op2.of op_repT fun F H as x y Q W r1 r2 kk => by
    obtain ⟨a, vs, rfl, e1, q1⟩ := r1.tupV
    cases r2
    exact ⟨a, _, vs, rfl, rfl, .inl (.inl (W.sub _ _ e1)), fun z => h0 (by subst z; cases q1; rfl), hi.1, hi.2, by rw [q1.length]; exact hl, fun p np => kk.newT W np k (q1.rep _)⟩
end
end Me

/-! Me32: an instance called. -/
namespace Me
open PySem PySem.Spec PyProof.Rows L2
section
variable {S : Sc} {env : En} {μ : Mu} {fe e : Expr} {es : List Expr} {pos : Pos} {c : String} {P : KD} {k : Nat} {C : Ct}
end
end Me

/-! Me33: d.get(k). -/
namespace Me
open PySem PySem.Spec PyProof.Rows L2
section
variable {S : Sc} {env : En} {μ : Mu} {o e : Expr} {apos cpos : Pos} {P : KD}
end
end Me

/-! Me34: x, y, z = a, b, c. -/
namespace Me
open PySem PySem.Spec PyProof.Rows L2
section
variable {S : Sc} {env : En} {μ : Mu} {x y z : Str} {a b c : Expr} {rest : List Stmt} {R : Out → Prop} {p0 p1 p2 pos : Pos}
end
end Me

/-! Me35: d.pop(k) of a dict by names, sorted(d.items()). -/
namespace Me
open PySem PySem.Spec PyProof.Rows L2
def dropD (kvs : List (DK × D)) (k : DK) : List (DK × D) := kvs.filter fun p => decide (p.1 ≠ k)
theorem DTs.drop {Γ : Gam} {F : Hp} {as : List Ad} (k : List Key) : ∀ {vs : List (List Key × V)} {kvs : List (DK × D)}, DTs Γ F as vs kvs → DTs Γ F as (dropK vs k) (dropD kvs (.t k))
  | _, _, .nil => .nil
  | _, _, .cons (k := k') (v := v) (vs := vs) (d := d) (ds := ds) h t => by
    have ih := DTs.drop k t
    by_cases e : k' = k
    · have z1 : dropK ((k', v) :: vs) k = dropK vs k := List.filter_cons_of_neg (by simp [e])
      have z2 : dropD ((.t k', d) :: ds) (.t k) = dropD ds (.t k) := List.filter_cons_of_neg (by simp [e])
      rw [z1, z2]
      exact ih
    · have z1 : dropK ((k', v) :: vs) k = (k', v) :: dropK vs k := List.filter_cons_of_pos (by simp [e])
      have z2 : dropD ((.t k', d) :: ds) (.t k) = (.t k', d) :: dropD ds (.t k) := List.filter_cons_of_pos (by simp [e])
      rw [z1, z2]
      exact .cons h ih
section
variable {X : Cx}
def rPopT1 : V → List V → Hp → VK → Prop := fun x xs H Q => ∃ (a : Addr) (kvs : List (List L2.Key × V)) (k : List L2.Key) (b : Addr) (v : V), x = .ref a ∧ xs = [.ref b] ∧ H a = some (.dT kvs) ∧ H b = some (.tup (k.map kV)) ∧ valV kvs k = some v ∧ Q v (upd H a (.dT (dropK kvs k)))
end
section
variable {S : Sc} {env : En} {μ : Mu} {o e : Expr} {apos cpos : Pos} {P : KD}
end
/-! ### sorted(d.items()) -/
section
variable {X : Cx} {pins : List (Addr × Obj)} {s : Shared} {σ : L2.St} {Γ : Gam}
/-- `sorted` whose items come up while they are gathered -/
theorem sorted_runJ {u : Value} {ds : List D} {Q : VK} {J : Hp → Hp → List Ad → Prop} (ok : SrtOk ds) (hu : X.A.units + 70 < cLine)
    (col : ∀ {R : List Value → Shared → Prop} {E : Value → Shared → Prop}, (∀ us s1 H F as vs, Inv X pins σ H s1 → Same F H → DVs Γ F as vs ds → Vals vs us → J H F as → R us s1) → wpAny (model X.prog X.w) X.A.in1 (collect u) R E s)
    (q : ∀ H F as p ws, J H F as → H p = none → DVs Γ F as ws (srt ds) → Q (.ref p) (upd H p (.lst ws))) : wpAny (model X.prog X.w) X.A (call (.builtin "sorted") [u]) (EP X pins σ Q) X.xe s := by
  refine Calls.call_function_entry kind_sorted plain_sorted entry_sorted (args_sorted1 _) ?_
  unfold Builtin.«sorted»
  refine wpAny_bind (m := checkCount "sorted" 1 1 _) (wpAny_pure (wpAny_bind (col fun us s1 H F as vs I1 sF dv rv hJ => ?_)))
  have hl : us.length = ds.length := by rw [← rv.length, dv.length]
  refine wpAny_bind (wpAny_newList ?_ (by rw [hl]; exact ok.sz))
  generalize ea : s1.heap.objs.size = a
  generalize eh : s1.heap.push (seqObj "list" us.toArray 0) = h2
  have ho : h2.get? a = some (seqObj "list" us.toArray 0) := by rw [← eh, ← ea]; exact Heap.get?_push_size _ rfl
  have old : ∀ b o, s1.heap.get? b = some o → h2.get? b = some o := fun b o e => by rw [← eh]; exact Heap.get?_push_of_some _ e
  have nea : ∀ b o, s1.heap.get? b = some o → b ≠ a := fun b o e => by rw [← ea]; exact Nat.ne_of_lt (Heap.lt_size e)
  obtain ⟨ar, rd⟩ := Dp.readsAll I1 _ _ _ (DVs.dpn X.K sF dv ok.py ok.nd) rv
  rw [pys_map] at rd
  have er : PySem.W.EachIs (fun v d => ∃ as, Reads (PySem.W.sortingHeap h2 a us) v (D.py d) as) us ds :=
    PySem.W.readsAll_each D.py (PyProof.Rows.ReadsAll.keeps (fun b o e => PySem.W.sortingHeap_old (nea b o e) (old b o e)) rd)
  have ee := each_vals dv rv
  refine wpAny_bind (wpAny_holding (wpAny_call_entry slot_list_sort ⟨_, ho, rfl⟩ entry_list_sort ?_ (args_list_sort _)))
  show wpAny (model X.prog X.w) X.A.in1.in1 (Builtin.«list.sort» ⟨[.ref a], []⟩) _ _ ({ s1 with heap := h2 } : Shared)
  refine PySem.W.list_sort_vals (κ := PySem.W.dataKind (PySem.W.sortingHeap h2 a us) (ds.map D.py)) (s := { s1 with heap := h2 }) ho
    (PySem.W.SortsAt.data (s := { s1 with heap := PySem.W.sortingHeap h2 a us }) (PySem.W.each_map (R := fun v d => ∃ as, Reads (PySem.W.sortingHeap h2 a us) v d as) D.py er) ok.al ok.so fun d hd => ?_) (by rw [hl]; exact ok.sz) ⟨.none, rfl, ?_⟩
  · obtain ⟨b, hb, rfl⟩ := List.mem_map.mp hd
    have := ok.dp b hb
    show X.A.units + 1 + 1 + _ < cLine
    omega
  · obtain ⟨ws, w1, w2⟩ := each_out (PySem.W.sortVals_data false ee er ok.al)
    obtain ⟨c, hc⟩ := sortedHeap_at (vs := us) (out := (PySem.W.sortVals (PySem.W.dataKind (PySem.W.sortingHeap h2 a us) (ds.map D.py)) false us us).toArray) ho
    have hsz : h2.objs.size = a + 1 := by rw [← eh, ← ea, size_push']
    refine wpAny_pure ⟨_, rfl, .ref a, upd H a (.lst ws), I1.laid (t' := s1.toks) (fun b o e => ?_) (Nat.le_of_eq ea) ⟨?_, _, c, w1, hc⟩, rfl, q H F as a ws hJ (I1.hok.fresh (Nat.le_of_eq ea)) w2⟩
    · rw [sortedHeap_old (nea b o e) (Heap.lt_size (old b o e))]
      exact old b o e
    · rw [w2.length, List.length_mergeSort]
      exact ok.sz
/-- tuples already laid become known -/
theorem layT {h' : Heap} {tk : Nat} {H0 : Hp} {as : List Ad} {μ : Mu} (I0 : Inv X pins σ H0 s) : ∀ (rows : List (Addr × List V × List D)) (F H : Hp), Inv X pins σ H { s with heap := h', toks := tk } → Wd Γ F H as μ → (rows.map (·.1)).Nodup →
    (∀ r ∈ rows, s.heap.objs.size ≤ r.1 ∧ H r.1 = none ∧ DVs Γ F as r.2.1 r.2.2 ∧ ∀ H2, ObjOk X.prog X.w H2 h' r.1 (.tup r.2.1)) →
    ∃ F' H', Inv X pins σ H' { s with heap := h', toks := tk } ∧ Wd Γ F' H' as μ ∧ Go F H as F' H' as ∧ DVs Γ F' as (rows.map fun r => V.ref r.1) (rows.map fun r => D.tup r.2.2)
  | [], F, H, I, W, _, _ => ⟨F, H, I, W, Go.refl _ _ _, .nil⟩
  | r :: rows, F, H, I, W, nd, h => by
    obtain ⟨hb, hn, dv, ok⟩ := h r List.mem_cons_self
    rw [List.map_cons, List.nodup_cons] at nd
    have I1 : Inv X pins σ (upd H r.1 (.tup r.2.1)) { s with heap := h', toks := tk } := I.take (h' := h') (t' := tk) (fun b ob _ e => e) (I0.fpOk hb hn) (ok _)
    obtain ⟨W1, g1⟩ := W.addF (o := .tup r.2.1) hn
    obtain ⟨F2, H2, I2, W2, g2, d2⟩ := layT I0 rows _ _ I1 W1 nd.2 fun c hc => by
      obtain ⟨c1, c2, c3, c4⟩ := h c (List.mem_cons_of_mem _ hc)
      exact ⟨c1, by rw [upd_ne (fun z => nd.1 (by rw [← z]; exact List.mem_map.mpr ⟨c, hc, rfl⟩))]; exact c2, c3.mono g1, c4⟩
    exact ⟨F2, H2, I2, W2, g1.trans g2, .cons (.tup (g2.sub _ _ upd_same) (dv.mono (g1.trans g2))) d2⟩
/-- the items of a dict by names, gathered -/
abbrev itD (p : DK × D) : D := .tup [dkD p.1, p.2]
theorem col_items {Γ : Gam} {F H : Hp} {as : List Ad} {μ : Mu} {v d : Addr} {vs : List (List Key × V)} {kvs : List (DK × D)} (hc : X.calm = true) (I : Inv X pins σ H s) (W : Wd Γ F H as μ) (hd : H d = some (.dT vs)) (dv : DTs Γ F as vs kvs) (hv : s.heap.IsItemsView v d)
    {R : List Value → Shared → Prop} {E : Value → Shared → Prop} (k : ∀ us s1 H1 F1 ws, Inv X pins σ H1 s1 → Same F1 H1 → DVs Γ F1 as ws (kvs.map itD) → Vals ws us → (Wd Γ F1 H1 as μ ∧ Go F H as F1 H1 as) → R us s1) : wpAny (model X.prog X.w) X.A.in1 (collect (.ref v)) R E s := by
  obtain ⟨z, hs, ks, pr, o, es, ep, ho, hx, hdt, he, hn⟩ := (show ObjOk X.prog X.w H s.heap d (.dT vs) from I.hok d _ hd)
  have l1 : es.size = ks.length := size_of_entries he
  have l2 : vs.length = ks.length := Paired.length pr
  refine DT.collectI (A := X.A.in1) (es := es) (ep := ep) (I.ok.hd hc) hv ⟨o, ho, hx, hdt⟩ (by omega) fun h' tk L hk hlt hl hG => ?_
  have I1 : Inv X pins σ H { s with heap := h', toks := tk } := I.kept hk
  obtain ⟨F1, W1, g1, dk⟩ := adoptKeys W dv (isKeys_of pr)
  have nd : L.Nodup := List.Pairwise.imp (fun h => Nat.ne_of_lt h) hG.rise
  -- the rows
  have key : ∀ (L : List Addr) (ks : List (List Key × Addr × Value)) (vs : List (List Key × V)) (kvs : List (DK × D)), L.length = ks.length → KT H vs ks → DTs Γ F1 as vs kvs → DVs Γ F1 as ((ks.map fun x => x.2.1).map V.ref) (kvs.map fun p => dkD p.1) →
      (∀ (j : Nat) (a : Addr), L[j]? = some a → s.heap.objs.size ≤ a ∧ ∃ x, ks[j]? = some x ∧ h'.get? a = some { cls := .type "tuple", data := .seq #[Value.ref x.2.1, x.2.2] }) →
      ∃ rows : List (Addr × List V × List D), rows.map (·.1) = L ∧ (rows.map fun r => D.tup r.2.2) = kvs.map itD ∧ ∀ r ∈ rows, s.heap.objs.size ≤ r.1 ∧ DVs Γ F1 as r.2.1 r.2.2 ∧ ∀ H2, ObjOk X.prog X.w H2 h' r.1 (.tup r.2.1) := by
    intro L
    induction L with
    | nil =>
      intro ks vs kvs hl kt dt dk _
      cases ks with
      | cons x ks => exact nomatch hl
      | nil =>
        cases kt
        cases dt
        exact ⟨[], rfl, rfl, fun r hr => nomatch hr⟩
    | cons a L ih =>
      intro ks vs kvs hl kt dt dk hp
      cases ks with
      | nil => exact nomatch hl
      | cons x ks =>
        cases kt with
        | cons k0 kt =>
          cases dt with
          | @cons kk vv _ dd0 _ d0 dt =>
            cases dk with
            | cons e0 dk =>
              obtain ⟨rows, r1, r2, r3⟩ := ih ks _ _ (Nat.succ.inj hl) kt dt dk fun j b hj => by
                obtain ⟨p1, y, p2, p3⟩ := hp (j + 1) b hj
                exact ⟨p1, y, p2, p3⟩
              obtain ⟨p1, y, p2, p3⟩ := hp 0 a rfl
              obtain rfl := Option.some.inj p2
              refine ⟨(a, [V.ref x.2.1, vv], [dkD (.t kk), dd0]) :: rows, by rw [List.map_cons, r1], by rw [List.map_cons, r2]; rfl, fun r hr => ?_⟩
              rcases List.mem_cons.mp hr with rfl | hr
              · exact ⟨p1, .cons e0 (.cons d0 .nil), fun H2 => ⟨by show 2 ≤ sizeLine; decide, _, .cons rfl (.cons k0.2.2 .nil), _, p3, rfl, 0, rfl⟩⟩
              · exact r3 r hr
  obtain ⟨rows, r1, r2, r3⟩ := key L ks vs kvs (by omega) pr (dv.mono g1) dk fun j a hj => by
    obtain ⟨en, p1, p2⟩ := hG.pairs j a hj
    have ql := entry_at he j
    rw [p1] at ql
    cases hb : ks[j]? with
    | none => rw [hb] at ql; exact nomatch (show some en = none from ql)
    | some x =>
      rw [hb] at ql
      have e2 : en = entryOfKey (tupleKind (mixKind X.prog X.w)) x := Option.some.inj ql
      refine ⟨Nat.le_of_lt (hG.above a (List.mem_of_getElem? hj)), x, rfl, ?_⟩
      rw [p2, e2]
      rfl
  obtain ⟨F2, H2, I2, W2, g2, dvs⟩ := layT (Γ := Γ) I rows F1 H I1 W1 (by rw [r1]; exact nd) fun r hr => by
    obtain ⟨a1, a2, a3⟩ := r3 r hr
    exact ⟨a1, I.hok.fresh a1, a2, a3⟩
  rw [r2] at dvs
  refine k _ _ H2 F2 _ I2 W2.sub dvs ?_ ⟨W2, g1.trans g2⟩
  rw [← r1, List.map_map]
  have : ∀ l : List (Addr × List V × List D), Vals (l.map fun r => V.ref r.1) (l.map (Value.ref ∘ fun r => r.1)) := fun l => by
    induction l with
    | nil => exact .nil
    | cons r l ih => exact .cons rfl ih
  exact this rows
end
section
variable {S : Sc} {env : En} {μ : Mu} {o : Expr} {apos cpos p0 pos : Pos} {P : KD}
/-- sorted(d.items()) -/
theorem e_sortedItems (h : E S o env μ fun d μ1 => ∃ m kvs, d = .cell m ∧ μ1[m]? = some (.dct true none kvs) ∧ SrtOk (kvs.map itD) ∧ Nl P (srt (kvs.map itD)) μ1)
    (hbase : attributeBase o "items" S.X.env (eval o S.X.env) = eval o S.X.env := by rfl) (hline : (apos.endLine == cpos.line) = true := by rfl) (hg : Gl S.X "sorted" := by rfl) (hc : S.X.calm = true := by rfl) :
    E S (.Call (.Name "sorted" p0) [.Call (.Attribute o "items" apos) [] [] cpos] [] pos) env μ P := by
  refine ⟨fun pins s σ H Q I ⟨F, as, a, k⟩ => ?_⟩
  refine Call_ (ld_blt I hg S.hb.sorted boot_sorted ?_)
  refine PyProof.Rows.callWith_builtin1 (PyProof.Rows.args_cons ?_ rfl) rfl rfl
  refine wpAny_Call_method0_late hbase hline (thn (h.run pins s σ H (fun x H1 => ∃ ad vs kvs F1 as1 μ1, x = .ref ad ∧ H1 ad = some (.dT vs) ∧ DTs S.Γ F1 as1 vs kvs ∧ Wd S.Γ F1 H1 as1 μ1 ∧ Go F H as F1 H1 as1 ∧ SrtOk (kvs.map itD) ∧ Nl P (srt (kvs.map itD)) μ1) I ⟨F, as, a, ?_⟩) fun v s1 ⟨x, H1, I1, r1, q1⟩ => ?_)
  · rintro d μ1 v F1 H1 as1 ⟨m, kvs, rfl, hm, ok, kk⟩ g1 W1 r1
    cases r1 with
    | @cell _ ad ha =>
      obtain ⟨nF, vs, h1, h2⟩ := W1.ok m ad _ ha hm
      exact ⟨ad.a, vs, kvs, F1, as1, μ1, rfl, h1, h2, W1, g1, ok, kk⟩
  obtain ⟨ad, vs, kvs, F1, as1, μ1, rfl, h1, dv, W1, g1, ok, kk⟩ := q1
  obtain ⟨z, hs, ks, pr, ob, es, ep, ho, hx, hdt, he, hn⟩ := (show ObjOk S.X.prog S.X.w H1 s1.heap ad (.dT vs) from I1.hok ad _ h1)
  obtain ⟨t1, t2⟩ := tyV_is I1 r1 (T := "dict") (.inr (.inr (.inl ⟨rfl, .inr ⟨vs, h1⟩⟩)))
  cases r1
  refine ⟨"dict", "dict.items", PySem.F.plainAttrs_dict, PySem.F.slot_dict_items, PySem.F.type_dict_items, t1, t2, Calls.callWith_builtin rfl (PySem.evalArgs_none ?_)⟩
  refine DT.callItems (es := es) (ep := ep) hs ⟨ob, ho, hx, hdt⟩ ?_
  refine PyProof.Rows.args_nil ?_
  have I2 : Inv S.X pins σ H1 { s1 with heap := s1.heap.push { cls := .type "dict_items", data := .fields #[.ref ad] } } := I1.kept (t' := s1.toks) fun b o e => Heap.get?_push_of_some _ e
  refine sorted_runJ (Γ := S.Γ) (J := fun H2 F2 as2 => Wd S.Γ F2 H2 as2 μ1 ∧ Go F1 H1 as1 F2 H2 as2) ok S.hu (fun kq => col_items (Γ := S.Γ) hc I2 W1 h1 dv ⟨_, Heap.get?_push_size _ rfl, rfl, rfl⟩ fun us s3 H3 F3 ws I3 sF dws rv hJ => kq us s3 H3 F3 as1 ws I3 sF dws rv hJ) fun H3 F3 as3 p ws hJ hp dws => ?_
  exact ((Kv.go (S := S) (F := F) (H := H) (as := as) (P := P) (Q := Q) k g1).go hJ.2).new hJ.1 hp kk dws
end
end Me

/-! Me36: sum(lists, []). -/
namespace Me
open PySem PySem.Spec PyProof.Rows L2
section
variable {prog : Program} {w : World} {A : Around} {R : Result → Shared → Prop} {I : Addr} {fp wr : List Addr} {n : Nat} {Pv : Nat → Value → Prop} {St : Nat → Heap → Prop}
/-- the lists put together up to i -/
def catL (it0 : List Value) (its : List (List Value)) (i : Nat) : List Value := it0 ++ (its.take i).flatten
end
section
variable {X : Cx} {pins : List (Addr × Obj)} {s : Shared} {σ : L2.St} {Γ : Gam} {F H : Hp} {as : List Ad} {μ : Mu}
end
section
variable {S : Sc} {env : En} {μ : Mu} {d d0 : D} {es0 : List D} {P : KD} {e : Expr} {es : List Expr} {p0 pos : Pos}
end
end Me

/-! Me37: l.index(x). -/
namespace Me
open PySem PySem.Spec PyProof.Rows L2
section
variable {S : Sc} {env : En} {μ : Mu} {o e : Expr} {apos cpos : Pos} {P : KD} {d x : D} {ds : List D}
end
end Me

/-! Me38: xs[::-1]; a list or else; C(e) with defaults. -/
namespace Me
open PySem PySem.Spec PyProof.Rows L2
section
variable {S : Sc} {env : En} {μ : Mu} {a b e : Expr} {es : List Expr} {pos p0 p1 p2 p3 : Pos} {P : KD} {kk : Nat}
end
/-- a class whose __init__ takes its last values by default -/
structure MakD (P : Program) (w : World) (K : PySem.W.Frag) (mg : Str → Option Value) (base : Heap) (Γ : Gam) (k : Nat) (c : String) (x : Str) (ds0 : List D) (C : Ct) : Prop where
  ex : ∃ Ca f fd ps, Γ.cls c = some Ca ∧ Mk K Ca f ∧ mg x = some (.ref Ca) ∧ Gd.FnG P w K mg base (L2.CX P w) k f fd ps (spM Γ C) ∧ ∃ us0 vs0, Binds K fd ps us0 ∧ Vals vs0 us0 ∧ ∀ F as, DVs Γ F as vs0 ds0
section
variable {S : Sc} {env : En} {μ : Mu} {e : Expr} {es : List Expr} {pos p0 : Pos} {P : KD} {k : Nat} {c : String} {x : Str} {C : Ct} {ds0 : List D}
end
end Me

/-! Me39: sorted(xs, key=f), f a def of the program. -/
namespace Me
open PySem PySem.Spec PyProof.Rows L2 PySem.W
section
variable {X : Cx} {pins : List (Addr × Obj)} {s : Shared} {σ : L2.St} {H : Hp}
end
/-- what can be sorted by a key -/
structure KeyOk (ds : List D) (key : D → D) : Prop where
  py : D.isPys (ds.map key) = true
  nd : PyData.hasDictAll (D.pys (ds.map key)) = false
  al : AllAlike (ds.map fun d => (key d).py)
  so : Sortable (ds.map fun d => (key d).py)
  sz : ds.length ≤ sizeLine
  dp : ∀ d ∈ ds, (key d).py.depth ≤ 60
abbrev srtK (key : D → D) (ds : List D) : List D := ds.mergeSort (dataLe false fun d => (key d).py)
section
variable {S : Sc} {env : En} {μ : Mu} {e : Expr} {pos p0 p1 kpos : Pos} {x : Str} {k : Nat} {C : Ct} {P : KD} {key : D → D}
end
end Me

set_option maxHeartbeats 2000000
/-! Me40: the own errors (class N(ListError): __init__(self, f): super().__init__(f); self.f = f), made. -/
namespace Me
namespace Er
open PySem PySem.W PySem.Calls PyProof.Rows PySem.HandSPX
def xA (fld : Str) (p1 p2 : Pos) : Arguments := { posonlyargs := [], args := [{ arg := "self", annotation := none, pos := p1 }, { arg := fld, annotation := none, pos := p2 }], vararg := none, kwonlyargs := [], kw_defaults := [], kwarg := none, defaults := [] }
def xB (fld : Str) (q1 q2 q3 q4 q5 q6 q7 q8 q9 q10 : Pos) : List Stmt :=
  [.Expr (.Call (.Attribute (.Call (.Name "super" q1) [] [] q2) "__init__" q3) [.Name fld q4] [] q5) q6, .Assign [.Attribute (.Name "self" q7) fld q8] (.Name fld q9) q10]
def xS (fld : Str) : Scope := { kind := .function, names := [(PySem.Str.ofString "self", .local), (fld, .local), (PySem.Str.ofString "__class__", .free), (PySem.Str.ofString "super", .globalImplicit)], isGenerator := false, isCoroutine := false, more := [] }
theorem sup_ev {env : Env} {q1 q2 q3 q4 q5 : Pos} {fld : Str} (h : (q3.endLine == q5.line) = true) : ∃ pl : Sem Bool,
    eval (.Call (.Attribute (.Call (.Name "super" q1) [] [] q2) "__init__" q3) [.Name fld q4] [] q5) env = (do
      let ov ← attributeBase (.Call (.Name "super" q1) [] [] q2) "__init__" env (eval (.Call (.Name "super" q1) [] [] q2) env)
      standAt q3.atName
      let (g, first) ← holding [ov] (getMethod ov "__init__" pl)
      callWith q5 g first (backTo q5 (starEach [.Name fld q4] env)) []) := by
  have hm : ∀ o : Expr, methodCallPos true o env q3 q5 = pure q5 := fun o => by
    unfold methodCallPos
    rw [h]
    rfl
  have hc : ∀ ov : Value, methodCall (.Call (.Name "super" q1) [] [] q2) "__init__" q3 q5 env ov 1 (backTo q5 (starEach [.Name fld q4] env)) [] = (do
      let (g, first) ← holding [ov] (getMethod ov "__init__" (do return (← importBound (.Call (.Name "super" q1) [] [] q2) env).getD true))
      callWith q5 g first (backTo q5 (starEach [.Name fld q4] env)) []) := fun ov => by
    show (do
      let (f, first) ← holding [ov] (getMethod ov "__init__" (do return (← importBound (.Call (.Name "super" q1) [] [] q2) env).getD true))
      let callPos ← methodCallPos true (.Call (.Name "super" q1) [] [] q2) env q3 q5
      callWith callPos f first (backTo q5 (starEach [.Name fld q4] env)) []) = _
    rw [hm]
    rfl
  refine ⟨(do return (← importBound (.Call (.Name "super" q1) [] [] q2) env).getD true), ?_⟩
  show (do
    let ov ← attributeBase (.Call (.Name "super" q1) [] [] q2) "__init__" env (eval (.Call (.Name "super" q1) [] [] q2) env)
    standAt q3.atName
    methodCall (.Call (.Name "super" q1) [] [] q2) "__init__" q3 q5 env ov 1 (backTo q5 (starEach [.Name fld q4] env)) []) = _
  simp only [hc]
/-- what is asked of the field's name -/
structure FldOk (fld : Str) : Prop where
  n1 : ¬ fld = "self"
  n2 : (fld == ("__debug__" : Str)) = false
  n3 : ¬ fld = "__class__"
  n4 : ¬ fld = "super"
  bd : ∀ (qual : Str) (p1 p2 : Pos) (bo : List Stmt) (doc pm : Value) (an : Option Addr) (cdv ct : Value) (cc : Addr) (x v : Value), bindArgs (ksFn "__init__" qual (xA fld p1 p2) bo (xS fld) .none .none doc pm an cdv ct cc) ⟨[x, v], []⟩ = pure [(("self" : Str), x), (fld, v)]
  sw : ∀ (qual : Str) (p1 p2 q1 q2 q3 q4 q5 q6 q7 q8 q9 q10 : Pos) (doc pm : Value) (an : Option Addr) (cdv ct : Value) (cc L f : Addr),
    swapsWith (.Name fld q9) (some (.Attribute (.Name "self" q7) fld q8)) q10.line (callEnv (ksFn "__init__" qual (xA fld p1 p2) (xB fld q1 q2 q3 q4 q5 q6 q7 q8 q9 q10) (xS fld) .none .none doc pm an cdv ct cc) L f) = pure false
  sx : ∀ (qual : Str) (p1 p2 q1 q2 q3 q4 q5 q6 q7 q8 q9 q10 : Pos) (doc pm : Value) (an : Option Addr) (cdv ct : Value) (cc L f : Addr),
    swapsWith (.Call (.Attribute (.Call (.Name "super" q1) [] [] q2) "__init__" q3) [.Name fld q4] [] q5) none q6.line (callEnv (ksFn "__init__" qual (xA fld p1 p2) (xB fld q1 q2 q3 q4 q5 q6 q7 q8 q9 q10) (xS fld) .none .none doc pm an cdv ct cc) L f) = pure false
theorem fo_place : FldOk "place" := ⟨by decide, by decide, by decide, by decide, fun _ _ _ _ _ _ _ _ _ _ _ _ => rfl, fun _ _ _ _ _ _ _ _ _ _ _ _ _ _ _ _ _ _ _ _ _ => rfl, fun _ _ _ _ _ _ _ _ _ _ _ _ _ _ _ _ _ _ _ _ _ => rfl⟩
theorem fo_name : FldOk "name" := ⟨by decide, by decide, by decide, by decide, fun _ _ _ _ _ _ _ _ _ _ _ _ => rfl, fun _ _ _ _ _ _ _ _ _ _ _ _ _ _ _ _ _ _ _ _ _ => rfl, fun _ _ _ _ _ _ _ _ _ _ _ _ _ _ _ _ _ _ _ _ _ => rfl⟩
theorem fo_limit : FldOk "limit" := ⟨by decide, by decide, by decide, by decide, fun _ _ _ _ _ _ _ _ _ _ _ _ => rfl, fun _ _ _ _ _ _ _ _ _ _ _ _ _ _ _ _ _ _ _ _ _ => rfl, fun _ _ _ _ _ _ _ _ _ _ _ _ _ _ _ _ _ _ _ _ _ => rfl⟩
/-- what the written part says of an own error's class, at C, and of its __init__, at fI -/
structure ErrTxt (P : Program) (K : Frag) (mg : Str → Option Value) (nm fld : Str) (C fI : Addr) : Prop where
  gC : mg nm = some (.ref C)
  cls : ∃ nmq q N bs bm sn sub ab col dd k0 k1 k2 k3 k5, K.lookup C = some (excClassObj nmq q C N bs bm true sn sub ab col dd k0 k1 k2 k3 k5 "ValueError.__new__") ∧ refsVE bm = true
  sa : findIn K (.ref C) "__setattr__" = some (some (.builtin "object.__setattr__"))
  ga : findIn K (.ref C) "__getattribute__" = some (some (.builtin "BaseException.__getattribute__"))
  gg : findIn K (.ref C) "__getattr__" = some none
  noN : findIn K (.ref C) fld = some none
  iC : findIn K (.ref C) "__init__" = some (some (.ref fI))
  tC : typeIn K (.ref fI) = some (.type "function")
  kC : keepIn K (.ref C) = true
  exC : subIn K (.ref C) (.type "BaseException") = some true
  tyC : typeIn K (.ref C) = some (.type "type")
  hdC : hasDictIn K C = true
  fn : ∃ (oc : Value) (od : Option Addr) (qual : Str) (doc pm : Value) (an : Option Addr) (cda : Addr) (ct : Value) (cc : Addr) (osl : Array (Option Value)) (p1 p2 q1 q2 q3 q4 q5 q6 q7 q8 q9 q10 : Pos),
    (q3.endLine == q5.line) = true ∧ K.lookup fI = some ⟨oc, od, .func (ksFn "__init__" qual (xA fld p1 p2) (xB fld q1 q2 q3 q4 q5 q6 q7 q8 q9 q10) (xS fld) .none .none doc pm an (.ref cda) ct cc), osl⟩ ∧ codeIn K (.ref cda) qual = true ∧
    (∃ (ccl : Value) (cdd : Option Addr) (vs : Array Value) (ccs : Array (Option Value)) (file : Str) (tf : Tok), K.lookup cda = some ⟨ccl, cdd, .fields vs, ccs⟩ ∧ vs[2]? = some (.str file tf) ∧ ((P.main.file : Str) == file) = true) ∧
    ∃ (cl : Value) (cld : Option Addr) (csl : Array (Option Value)), K.lookup cc = some ⟨cl, cld, .cell (some (.ref C)), csl⟩
  mr : mroIn K C (.ref C) = some true
  su : mg "super" = none
  tp : (P.main.scope.names.lookup ("super" : Str)).isSome = false
  op : nsIn K cStatics "thirdparty.any" = some none
  si : ks_superIn K C C "__init__" = some (some (.builtin "ValueError.__init__"))
  ve : subIn K (.ref C) (.type "ValueError") = some true
  fo : FldOk fld
theorem one_size (v : Value) : [v].length ≤ sizeLine := by
  rw [sizeLine_eq]
  exact (by decide : 1 ≤ 16777216)
/-- what __init__ leaves of a fresh exception at x -/
structure InitEnd (fld : Str) (h h' : Heap) (x C dx : Addr) (v : Value) : Prop where
  keep : ∀ b o, b ≠ x → h.get? b = some o → h'.get? b = some o
  obj : ∃ t1 : Addr, h'.get? x = some { cls := .ref C, dict := some dx, data := .fields #[.ref t1, .none, .none, .none, .bool false, .none] }
  dbig : h.objs.size ≤ dx
  dne : dx ≠ x
  ns : h'.Ns1 dx (fun y => if y = fld then some v else none)
/-- a made error -/
structure OwnMade (fld : Str) (h h' : Heap) (e C d : Addr) (v : Value) : Prop where
  keep : ∀ b o, h.get? b = some o → h'.get? b = some o
  new : h.objs.size ≤ e
  obj : ∃ oe vs, h'.get? e = some oe ∧ oe.cls = .ref C ∧ oe.dict = some d ∧ oe.data = .fields vs ∧ vs[1]? = some .none
  dbig : h.objs.size ≤ d
  dne : d ≠ e
  ns : h'.Ns1 d (fun y => if y = fld then some v else none)
section
variable {prog : Program} {w : World} {M : Model} {A : Around} {E : Value → Shared → Prop} {R : Result → Shared → Prop} {s : Shared} {K : Frag} {mg : Str → Option Value} {nm fld : Str} {C fI : Addr}
theorem callWith_mw {i : String} {u x : Addr} {pos : Pos} {env : Env} {e : Expr} {rest : List Expr} {Q : Value → Shared → Prop}
    (h : wpAny M A (spliced (backTo pos (starEach (e :: rest) env))) (fun vs s₁ => KxsAt i u x s₁.heap ∧ wpAny M A (call (.ref u) vs) Q E s₁) E s)
    (he : starEach (e :: rest) env = (false, eval e env) :: starEach rest env := by rfl) (hplain : (backTo pos (starEach rest env)).any (·.1) = false := by rfl) :
    wpAny M A (callWith pos (.ref u) [] (backTo pos (starEach (e :: rest) env)) []) Q E s := by
  rw [he] at h ⊢
  refine kxs_callWith (i := i) (x := x) (by show (false || (backTo pos (starEach rest env)).any (·.1)) = false; rw [hplain]; rfl) ?_
  exact evalArgs_plain h
theorem call_mw {h : Heap} {g : Array GenState} {d : Drawn} {t : Nat} {os : OsState} {nmq q : Str} {N : Addr} {bs bm : List Value} {hdct : Bool} {sn : List Str} {sub : List Value} {ab : Bool} {col : Option Bool} {dd : Option Addr} {k0 k1 k2 k3 k5 : Option Value} {u e t0 : Addr} {rest : List Value} {Q : Value → Shared → Prop}
    (hC : h.get? C = some (excClassObj nmq q C N bs bm hdct sn sub ab col dd k0 k1 k2 k3 k5 "ValueError.__new__")) (he : h.get? e = some (excO C t0)) (hu : h.get? u = some (kxs_mw "ValueError.__init__" e)) (hrest : rest.length ≤ sizeLine)
    (hq : ∀ h' t1, (∀ b o, b ≠ e → h.get? b = some o → h'.get? b = some o) → h'.get? e = some (excO C t1) → Q .none ⟨h', g, d, t, os⟩) :
    wpAny (model prog w) A (call (.ref u) rest) Q E ⟨h, g, d, t, os⟩ := by
  refine wpAny_call (codeAny_of_tree ?_)
  show wpAny _ A.in1 (callAny (.ref u) ⟨rest, []⟩) _ _ _
  simp only [callAny]
  refine wpAny_bind (wpAny_load hu ?_)
  simp only [kxs_mw, show (Value.type "method-wrapper" == Value.type "method" || Value.type "method-wrapper" == Value.type "builtin_function_or_method" || Value.type "method-wrapper" == Value.type "method-wrapper") = true by decide, if_true]
  refine W.KFB.if_so (by decide) ?_
  refine wpAny_bind (check_bound_init PySem.F.excBase_ValueError.toExcCallFacts hC he rfl ?_)
  refine wpAny_bind (wpAny_pure (wpAny_pure ?_))
  refine ⟨plainId_quiet PySem.F.excBase_ValueError.init.plain _, codeAny_builtin PySem.F.excBase_ValueError.initEntry ?_⟩
  exact exc_init_tree (cls := .ref C) (t0 := t0) (dv := none) (c2 := .none) (c3 := .none) (b4 := .bool false) he hrest fun h' k e' _ => hq h' _ k e'
theorem look_self {fld : Str} : (xS fld).names.lookup ("self" : Str) = some .local := by
  simp [xS, List.lookup]
theorem look_fld {fld : Str} (h : ¬ fld = "self") : (xS fld).names.lookup fld = some .local := by
  have h1 : (fld == PySem.Str.ofString "self") = false := by
    simpa using h
  simp [xS, List.lookup, h1]
theorem look_sup {fld : Str} (h : ¬ fld = "super") : (xS fld).names.lookup ("super" : Str) = some .globalImplicit := by
  have h1 : (PySem.Str.ofString "super" == fld) = false := by
    simp
    exact fun z => h z.symm
  have h2 : (PySem.Str.ofString "super" == PySem.Str.ofString "self") = false := by decide
  have h3 : (PySem.Str.ofString "super" == PySem.Str.ofString "__class__") = false := by decide
  simp [xS, List.lookup, h1, h2, h3]
theorem look_cls {fld : Str} (h : ¬ fld = "__class__") : (xS fld).names.lookup ("__class__" : Str) = some .free := by
  have h1 : (PySem.Str.ofString "__class__" == fld) = false := by
    simp
    exact fun z => h z.symm
  have h2 : (PySem.Str.ofString "__class__" == PySem.Str.ofString "self") = false := by decide
  simp [xS, List.lookup, h1, h2]
theorem err_init (T : ErrTxt prog K mg nm fld C fI) {x t0 : Addr} {v : Value} (X : K.In s.heap) (hg : s.heap.Ns mainGlobals mg) (hb : ∃ mb, s.heap.Ns builtinsNs mb ∧ ∀ y : Str, y ≠ "__name__" → mb y = bootBuiltins y) (hlim : s.heap.NoLimit)
    (hx : s.heap.get? x = some (excO C t0)) (hnx : K.lookup x = none) (hroom : A.depth < recursionLimit)
    (hq : ∀ h' tk dx, InitEnd fld s.heap h' x C dx v → R (.ok (.ret .none)) { s with heap := h', toks := tk }) :
    codeAny (model prog w) A (.call (.ref fI) ⟨[.ref x, v], []⟩) R s := by
  obtain ⟨oc, od, qual, doc, pm, an, cda, ct, cc, osl, p1, p2, q1, q2, q3, q4, q5, q6, q7, q8, q9, q10, hpos, ho, hcd, ⟨ccl, cdd, vs, ccs, file, tf, hcode, hvs, hfile⟩, ⟨cl, cld, csl, hcell⟩⟩ := T.fn
  obtain ⟨nmq, q, N, bs, bm, sn, sub, ab, col, dd, k0, k1, k2, k3, k5, hC, hbm⟩ := T.cls
  have hcl : clsIn K C = some { name := nmq, bases := bs, mro := .ref C :: bm, ns := N, qualname := q, hasDict := true, slotNames := sn, subclasses := sub, abstract := ab, collection := col, hasDel := false } := by unfold clsIn; rw [hC] <;> rfl
  obtain ⟨mb, hb1, hb2⟩ := hb
  have ls := look_self (fld := fld)
  have lf := look_fld T.fo.n1
  refine ks_codeAny_call_defAt (fd := ksFn "__init__" qual (xA fld p1 p2) (xB fld q1 q2 q3 q4 q5 q6 q7 q8 q9 q10) (xS fld) .none .none doc pm an (.ref cda) ct cc) (body := xB fld q1 q2 q3 q4 q5 q6 q7 q8 q9 q10) (binds := [("self", .ref x), (fld, v)])
    hroom (X _ _ ho) rfl hlim (codeRec_of X hcd) rfl (BindsTo.of_eq (T.fo.bd _ _ _ _ _ _ _ _ _ _ _ _)) ?cell ?loc (fun h₁ hns hk₁ => ?_) rfl rfl rfl
  case cell =>
    intro y hy
    simp [xS] at hy
    rcases hy with rfl | rfl | rfl | rfl <;> simp
  case loc =>
    intro y hy
    simp at hy
    rcases hy with rfl | rfl
    · exact ls
    · exact lf
  have X₁ : K.In h₁ := X.keeps hk₁
  have hx₁ := hk₁ _ _ hx
  have hC₁ := X₁ _ _ hC
  have m1 : (fun y => List.lookup y [(("self" : Str), Value.ref x), (fld, v)].reverse) "self" = some (.ref x) := by
    have h1 : (("self" : Str) == fld) = false := by
      have := T.fo.n1
      simp
      exact fun z => this z.symm
    simp [List.lookup, h1]
  have m2 : (fun y => List.lookup y [(("self" : Str), Value.ref x), (fld, v)].reverse) fld = some v := by
    simp [List.lookup]
  obtain ⟨pl, hev⟩ := sup_ev (env := callEnv (ksFn "__init__" qual (xA fld p1 p2) (xB fld q1 q2 q3 q4 q5 q6 q7 q8 q9 q10) (xS fld) .none .none doc pm an (.ref cda) ct cc) s.heap.objs.size fI) (q1 := q1) (q2 := q2) (q4 := q4) (fld := fld) hpos
  refine ks_wpAt_execs_cons (ks_wpAt_Expr_any (ks_wpAt_MethodCall (pl := pl) ?_ hev) rfl (T.fo.sx _ _ _ _ _ _ _ _ _ _ _ _ _ _ _ _ _ _ _ _ _))
  have hCo : ∃ oD, h₁.get? C = some oD ∧ oD.data = .cls { name := nmq, bases := bs, mro := .ref C :: bm, ns := N, qualname := q, hasDict := true, slotNames := sn, subclasses := sub, abstract := ab, collection := col, hasDel := false } := ⟨_, hC₁, rfl⟩
  obtain ⟨oD, hD1, hD2⟩ := hCo
  have hxC : x ≠ C := fun z => by
    rw [z, hC₁] at hx₁
    exact nomatch hx₁
  refine ks_wpAt_super_base (env := callEnv (ksFn "__init__" qual (xA fld p1 p2) (xB fld q1 q2 q3 q4 q5 q6 q7 q8 q9 q10) (xS fld) .none .none doc pm an (.ref cda) ct cc) s.heap.objs.size fI) (look_sup T.fo.n4) (look_cls T.fo.n3) (by decide) rfl (X₁ _ _ ho) rfl rfl rfl (X₁ _ _ hcode) rfl hvs hfile T.tp ?_
  refine ks_loadName_global rfl (look_sup T.fo.n4) (Calls.loadGlobal_builtin (hg.keeps hk₁) T.su (hb1.keeps hk₁) ((hb2 "super" (by decide)).trans (by kernel_rfl)) ⟨rfl, ?_⟩)
  refine wpAny_loadName_free rfl (look_cls T.fo.n3) rfl ⟨_, X₁ _ _ hcell, rfl⟩ ?_
  refine wpAny_loadName_local rfl ls hns m1 ?_
  refine ks_wpAny_isType_cls hD1 hD2 ⟨rfl, ?_⟩
  refine ks_wpAny_call_super hD1 hD2 hx₁ rfl (fun c e => nomatch e) (looks_mroIn X₁ T.mr) (fun h2 e2 k2 => ?_)
  have X2 : K.In h2 := X₁.keeps k2
  have hx2 := k2 _ _ hx₁
  have hI : Looks (model prog w) h2 (isInstance (.ref x) (.type "ValueError")) true := (InstAt.type (od := none) ⟨hx2, rfl, rfl, trivial⟩).andThen (looks_subIn X2 T.ve)
  have si := T.si
  unfold ks_superIn at si
  rw [hcl] at si
  refine kxs_getMethod kxs_ValueError e2 (looks_opaque X2 T.op) (l₀ := .ref C :: bm) (fun A Q E s k q => wpAny_bind ((looks_clsIn X2 hcl) A _ E s k (wpAny_pure q))) rfl X2 si hI hxC (by decide) ?_
  have k3 : ∀ b o, h2.get? b = some o → (h2.push (kxs_mw "ValueError.__init__" x)).get? b = some o := fun b o e => Heap.get?_push_of_some _ e
  have hu : (h2.push (kxs_mw "ValueError.__init__" x)).get? h2.objs.size = some (kxs_mw "ValueError.__init__" x) := Heap.get?_push_at rfl rfl
  have hns3 := (hns.keeps k2).keeps k3
  refine callWith_mw (i := "ValueError.__init__") (x := x) (spliced_more (wpAny_Name (wpAny_loadName_local rfl lf hns3 m2 (spliced_none ?_)) T.fo.n2))
  refine ⟨hu, ?_⟩
  refine call_mw ((X2.keeps k3) _ _ hC) (k3 _ _ hx2) hu (one_size v) (fun h4 t1 k4 hx4 => ?_)
  -- self.fld = fld
  have kall : ∀ b o, b ≠ x → h₁.get? b = some o → h4.get? b = some o := fun b o hb e => k4 b o hb (k3 b o (k2 b o e))
  have X4 : K.In h4 := fun b o e => kall b o (fun z => by rw [z, hnx] at e; cases e) (X₁ b o e)
  have xL : s.heap.objs.size ≠ x := Nat.ne_of_gt (Heap.lt_size hx)
  have hns4 : h4.Ns s.heap.objs.size (fun y => List.lookup y [(("self" : Str), Value.ref x), (fld, v)].reverse) := let ⟨o, es, ep, e, r⟩ := hns3; ⟨o, es, ep, k4 _ o xL e, r⟩
  refine ks_wpAt_execs_cons (ks_wpAt_Assign_Attr (wpAt_of_wpAny (wpAny_Name (wpAny_loadName_local rfl lf hns4 m2 (wpAny_Name (wpAny_loadName_local rfl ls hns4 m1 ?_) (by decide))) T.fo.n2)) (T.fo.sw _ _ _ _ _ _ _ _ _ _ _ _ _ _ _ _ _ _ _ _ _))
  refine set_plain X4 (ox := excO C t1) (od := none) ⟨hx4, rfl, rfl, trivial⟩ T.sa ?_
  refine exc_osa X4 hx4 hcl (show refsVE (.ref C :: bm) = true from hbm) rfl T.noN (fun h₃ tk₃ dx k₃ dn dne hx₃ hn₃ => ?_)
  refine wpAt_of_wpAny (wpAny_execs_nil ?_)
  exact hq h₃ tk₃ dx ⟨fun b o hb e => k₃ b o hb (kall b o hb (hk₁ b o e)), ⟨t1, hx₃⟩, Nat.le_of_lt (Nat.lt_of_lt_of_le hns4.lt dn), dne, hn₃⟩
theorem err_made (T : ErrTxt prog K mg nm fld C fI) {v : Value} (X : K.In s.heap) (hg : s.heap.Ns mainGlobals mg) (hb : ∃ mb, s.heap.Ns builtinsNs mb ∧ ∀ y : Str, y ≠ "__name__" → mb y = bootBuiltins y) (hlim : s.heap.NoLimit) (hroom : A.depth + 1 < recursionLimit)
    (hq : ∀ h' tk e d, OwnMade fld s.heap h' e C d v → R (.ok (.ret (.ref e))) { s with heap := h', toks := tk }) :
    codeAny (model prog w) A (.call (.ref C) ⟨[v], []⟩) R s := by
  obtain ⟨nmq, q, N, bs, bm, sn, sub, ab, col, dd, k0, k1, k2, k3, k5, hC, hbm⟩ := T.cls
  obtain ⟨hp, g, dr, tk, os⟩ := s
  have k : ∀ b o, hp.get? b = some o → ((hp.push (kdv_tup [v])).push (excO C hp.objs.size)).get? b = some o := fun b o e => Heap.get?_push_of_some _ (Heap.get?_push_of_some _ e)
  have hget : ((hp.push (kdv_tup [v])).push (excO C hp.objs.size)).get? (hp.objs.size + 1) = some (excO C hp.objs.size) := by heap_get
  have hnx : K.lookup (hp.objs.size + 1) = none := by
    cases e : K.lookup (hp.objs.size + 1) with
    | none => rfl
    | some o =>
      have z : hp.get? (hp.objs.size + 1) = some o := X _ _ e
      exact absurd (Nat.lt_of_succ_lt (Heap.lt_size z)) (Nat.lt_irrefl _)
  obtain ⟨mb, hb1, hb2⟩ := hb
  refine call_own PySem.F.excBase_ValueError (fun X => refsVE_contains X bm hbm) (X _ _ hC) (looks_findIn X T.iC) (fun self => bind_fn X self T.tC) (one_size v) ?_
  refine err_init (s := ⟨(hp.push (kdv_tup [v])).push (excO C hp.objs.size), g, dr, tk, os⟩) T (X.keeps k) (hg.keeps k) ⟨mb, hb1.keeps k, hb2⟩ (hlim.keeps k) hget hnx ?_ fun h' tk' dx ⟨k', hx, dn, dne, hns⟩ => ?_
  · show A.depth + 1 < recursionLimit
    exact hroom
  · have old : ∀ b o, hp.get? b = some o → h'.get? b = some o := fun b o e => k' b o (Nat.ne_of_lt (Nat.lt_succ_of_lt (Heap.lt_size e))) (k b o e)
    have z : hp.objs.size + 1 + 1 ≤ dx := by
      first
        | (simpa only [Heap.size_push] using dn)
        | exact dn
        | (have q := dn; rw [Heap.size_push, Heap.size_push] at q; exact q)
    obtain ⟨t1, hx⟩ := hx
    exact ⟨rfl, hq h' tk' (hp.objs.size + 1) dx ⟨old, Nat.le_succ _, ⟨_, _, hx, rfl, rfl, rfl, rfl⟩, Nat.le_trans (Nat.le_trans (Nat.le_succ _) (Nat.le_succ _)) z, dne, hns⟩⟩
end
end Er
end Me

set_option maxHeartbeats 2000000
/-! Me41: raise, try. -/
namespace Me
open PySem PySem.Spec PyProof.Rows L2
mutual
def D.ne : D → Bool
  | .lst ds => D.neL ds
  | .tup ds => D.neL ds
  | .dct _ kvs => D.neP kvs
  | .ins _ fs => D.neF fs
  | .err _ _ => false
  | .tpx _ => true | .cell _ => true | .ty _ => true | .cls _ => true | .non => true | .bl _ => true | .int _ => true | .str _ => true
def D.neL : List D → Bool
  | [] => true
  | d :: ds => d.ne && D.neL ds
def D.neP : List (DK × D) → Bool
  | [] => true
  | (_, d) :: ds => d.ne && D.neP ds
def D.neF : List (Str × D) → Bool
  | [] => true
  | (_, d) :: ds => d.ne && D.neF ds
end
def Cell.ne : Cell → Bool
  | .lst ds => D.neL ds
  | .dct _ _ kvs => D.neP kvs
  | .ins _ fs => D.neF fs
  | .dead => true
  | .gd _ _ => true
  | .ts _ _ _ => true
  | .gl _ _ _ => true
def NE (μ : Mu) : Prop := ∀ (j : Nat) (c : Cell), μ[j]? = some c → c.ne = true
def NEe (env : En) : Prop := ∀ (j : Nat) (d : D), env[j]? = some (some d) → d.ne = true
section
variable {Γ Γ' : Gam} {F H : Hp} {as : List Ad}
theorem and_tt {a b : Bool} (h1 : a = true) (h2 : b = true) : (a && b) = true := by rw [h1, h2]; rfl
mutual
theorem DV.noErr (h0 : Γ.err = none) {v : V} {d : D} (h : DV Γ F as v d) : d.ne = true := by
  cases h with
  | non => rfl
  | bl b => rfl
  | int i => rfl
  | str x => rfl
  | lst h1 h2 => rw [D.ne]; exact DVs.noErr h0 h2
  | tup h1 h2 => rw [D.ne]; exact DVs.noErr h0 h2
  | dctK h1 h2 => rw [D.ne]; exact DKs.noErr h0 h2
  | dctT h1 h2 => rw [D.ne]; exact DTs.noErr h0 h2
  | ins h1 hc h2 => rw [D.ne]; exact DFs.noErr h0 h2
  | err0 h1 hc => rw [h0] at h1; exact nomatch h1
  | err1 h1 hc h2 h3 => rw [h0] at h1; exact nomatch h1
  | ty n => rfl
  | tpx _ _ => rfl
  | cls hc => rfl
  | cell h => rfl
theorem DVs.noErr (h0 : Γ.err = none) {vs : List V} {ds : List D} (h : DVs Γ F as vs ds) : D.neL ds = true := by
  cases h with
  | nil => rfl
  | cons h1 h2 => rw [D.neL]; exact and_tt (DV.noErr h0 h1) (DVs.noErr h0 h2)
theorem DKs.noErr (h0 : Γ.err = none) {vs : List (Key × V)} {ds : List (DK × D)} (h : DKs Γ F as vs ds) : D.neP ds = true := by
  cases h with
  | nil => rfl
  | cons h1 h2 => rw [D.neP]; exact and_tt (DV.noErr h0 h1) (DKs.noErr h0 h2)
theorem DTs.noErr (h0 : Γ.err = none) {vs : List (List Key × V)} {ds : List (DK × D)} (h : DTs Γ F as vs ds) : D.neP ds = true := by
  cases h with
  | nil => rfl
  | cons h1 h2 => rw [D.neP]; exact and_tt (DV.noErr h0 h1) (DTs.noErr h0 h2)
theorem DFs.noErr (h0 : Γ.err = none) {vs : List (Str × V)} {ds : List (Str × D)} (h : DFs Γ F as vs ds) : D.neF ds = true := by
  cases h with
  | nil => rfl
  | cons h1 h2 => rw [D.neF]; exact and_tt (DV.noErr h0 h1) (DFs.noErr h0 h2)
end
mutual
theorem DV.chg (hc : Γ'.cls = Γ.cls) {v : V} {d : D} (h : DV Γ F as v d) (n : d.ne = true) : DV Γ' F as v d := by
  cases h with
  | non => exact .non
  | bl b => exact .bl b
  | int i => exact .int i
  | str x => exact .str x
  | lst h1 h2 => rw [D.ne] at n; exact .lst h1 (DVs.chg hc h2 n)
  | tup h1 h2 => rw [D.ne] at n; exact .tup h1 (DVs.chg hc h2 n)
  | dctK h1 h2 => rw [D.ne] at n; exact .dctK h1 (DKs.chg hc h2 n)
  | dctT h1 h2 => rw [D.ne] at n; exact .dctT h1 (DTs.chg hc h2 n)
  | ins h1 hcl h2 => rw [D.ne] at n; exact .ins h1 (by rw [hc]; exact hcl) (DFs.chg hc h2 n)
  | err0 h1 hcl => exact nomatch n
  | err1 h1 hcl h2 h3 => exact nomatch n
  | ty m => exact .ty m
  | tpx h1 h2 => exact .tpx h1 h2
  | cls hcl => exact .cls (by rw [hc]; exact hcl)
  | cell h => exact .cell h
theorem DVs.chg (hc : Γ'.cls = Γ.cls) {vs : List V} {ds : List D} (h : DVs Γ F as vs ds) (n : D.neL ds = true) : DVs Γ' F as vs ds := by
  cases h with
  | nil => exact .nil
  | cons h1 h2 => rw [D.neL] at n; obtain ⟨n1, n2⟩ := Bool.and_eq_true_iff.mp n; exact .cons (DV.chg hc h1 n1) (DVs.chg hc h2 n2)
theorem DKs.chg (hc : Γ'.cls = Γ.cls) {vs : List (Key × V)} {ds : List (DK × D)} (h : DKs Γ F as vs ds) (n : D.neP ds = true) : DKs Γ' F as vs ds := by
  cases h with
  | nil => exact .nil
  | cons h1 h2 => rw [D.neP] at n; obtain ⟨n1, n2⟩ := Bool.and_eq_true_iff.mp n; exact .cons (DV.chg hc h1 n1) (DKs.chg hc h2 n2)
theorem DTs.chg (hc : Γ'.cls = Γ.cls) {vs : List (List Key × V)} {ds : List (DK × D)} (h : DTs Γ F as vs ds) (n : D.neP ds = true) : DTs Γ' F as vs ds := by
  cases h with
  | nil => exact .nil
  | cons h1 h2 => rw [D.neP] at n; obtain ⟨n1, n2⟩ := Bool.and_eq_true_iff.mp n; exact .cons (DV.chg hc h1 n1) (DTs.chg hc h2 n2)
theorem DFs.chg (hc : Γ'.cls = Γ.cls) {vs : List (Str × V)} {ds : List (Str × D)} (h : DFs Γ F as vs ds) (n : D.neF ds = true) : DFs Γ' F as vs ds := by
  cases h with
  | nil => exact .nil
  | cons h1 h2 => rw [D.neF] at n; obtain ⟨n1, n2⟩ := Bool.and_eq_true_iff.mp n; exact .cons (DV.chg hc h1 n1) (DFs.chg hc h2 n2)
end
theorem CellOk.noErr (h0 : Γ.err = none) {ad : Ad} {c : Cell} (k : CellOk Γ F H as ad c) : c.ne = true := by
  match c, k with
  | .dead, _ => rfl
  | .gd _ _, _ => rfl
  | .ts _ _ _, _ => rfl
  | .gl _ _ _, _ => rfl
  | .lst ds, ⟨k0, k1, vs, k2, k3⟩ => exact k3.noErr h0
  | .dct false lk kvs, ⟨k1, vs, k2, k3⟩ => exact k3.noErr h0
  | .dct true lk kvs, ⟨k1, vs, k2, k3⟩ => exact k3.noErr h0
  | .ins c fs, ⟨k0, k1, C, dx, vs, kc, k2, k3⟩ => exact k3.noErr h0
theorem CellOk.chg (hc : Γ'.cls = Γ.cls) {ad : Ad} {c : Cell} (k : CellOk Γ F H as ad c) (n : c.ne = true) : CellOk Γ' F H as ad c := by
  match c, k with
  | .dead, _ => trivial
  | .gd _ _, k => exact k
  | .ts _ _ _, k => exact k
  | .gl _ _ _, k => exact k
  | .lst ds, ⟨k0, k1, vs, k2, k3⟩ => exact ⟨k0, k1, vs, k2, k3.chg hc n⟩
  | .dct false lk kvs, ⟨k1, vs, k2, k3⟩ => exact ⟨k1, vs, k2, k3.chg hc n⟩
  | .dct true lk kvs, ⟨k1, vs, k2, k3⟩ => exact ⟨k1, vs, k2, k3.chg hc n⟩
  | .ins c fs, ⟨k0, k1, C, dx, vs, kc, k2, k3⟩ => exact ⟨k0, k1, C, dx, vs, by rw [hc]; exact kc, k2, k3.chg hc n⟩
theorem Wd.noErr (h0 : Γ.err = none) {μ : Mu} (W : Wd Γ F H as μ) : NE μ := fun j c h => by
  have hl : j < as.length := by rw [W.len]; exact (List.getElem?_eq_some_iff.mp h).1
  exact (W.ok j as[j] c (List.getElem?_eq_getElem hl) h).noErr h0
theorem Wd.chg (hc : Γ'.cls = Γ.cls) {μ : Mu} (W : Wd Γ F H as μ) (n : NE μ) : Wd Γ' F H as μ :=
  ⟨W.sub, W.nd, W.len, fun j ad c ha h => (W.ok j ad c ha h).chg hc (n j c h), W.seen⟩
theorem EnvOk.noErr (h0 : Γ.err = none) {env : En} {σ : L2.St} (h : EnvOk Γ F as env σ) : NEe env := fun j d e => by
  obtain ⟨v, _, r⟩ := h.2 j d e
  exact r.noErr h0
theorem EnvOk.chg (hc : Γ'.cls = Γ.cls) {env : En} {σ : L2.St} (h : EnvOk Γ F as env σ) (n : NEe env) : EnvOk Γ' F as env σ :=
  ⟨h.1, fun i d e => let ⟨v, h1, h2⟩ := h.2 i d e; ⟨v, h1, h2.chg hc (n i d e)⟩⟩
theorem EnvOk.clr {env : En} {σ : L2.St} (h : EnvOk Γ F as env σ) (i : Nat) : EnvOk Γ F as (env.set i none) (σ.set i none) := by
  refine ⟨by rw [List.length_set, List.length_set, h.1], fun k d e => ?_⟩
  rw [List.getElem?_set] at e ⊢
  by_cases hk : i = k
  · rw [if_pos hk] at e
    split at e <;> exact nomatch e
  · rw [if_neg hk] at e ⊢
    exact h.2 k d e
end

/-! ### raise -/
section
open PySem.W (Frag)
variable {X : Cx} {C fI : Addr} {nm fld : Str}
theorem relO_fld {v : V} {v' : Value} (r : RelV v v') (f : Str) : RelO (List.lookup f [(fld, v)]) (if f = fld then some v' else none) := by
  by_cases hw : f = fld
  · subst hw
    rw [if_pos rfl]
    have q : List.lookup f [(f, v)] = some v := by simp [List.lookup]
    rw [q]
    exact r
  · rw [if_neg hw]
    have qw : (f == fld) = false := by simpa using hw
    have q2 : List.lookup f [(fld, v)] = none := by simp [List.lookup, qw]
    rw [q2]
    trivial
def tMkErr (C : Addr) (fld : Str) (ta : TA) : L2.St → Hp → XK → Prop := fun σ H Q => ta σ H fun vs H1 => ∃ v, vs = [v] ∧ ∀ d, H1 d = none → Q (.ref C) (some d) (upd H1 d (.xd [(fld, v)]))
theorem pmk_err {a : Expr} {ta : TA} {p pos : Pos} {k : Nat} (T : Er.ErrTxt X.prog X.K X.mg nm fld C fI) (hr : L2H.RoomH k X.A) (ha : PA X [a] ta) (hg : Gl X nm)
    (hdb : (nm == ("__debug__" : Str)) = false) (he : starEach (a :: []) X.env = (false, eval a X.env) :: starEach [] X.env) (hpl : (backTo pos (starEach [] X.env)).any (·.1) = false) :
    PMk X (.Call (.Name nm p) [a] [] pos) (tMkErr C fld ta) := by
  intro pins s σ H Q I h
  refine wpAny_Call_Name_kw (ld_glob I hg T.gC ?_ hdb)
  refine PySem.W.callWith_K (h₀ := X.base) I.ok.mod.kin T.kC (thn (ha.run pos pins s σ H _ I h) fun us s1 hh => ?_) he hpl
  obtain ⟨vs, H1, I1, r1, v, ev, q1⟩ := hh
  subst ev
  refine ⟨I1.kIn, ?_⟩
  cases r1 with
  | cons rv rn =>
    rename_i v' us'
    cases rn
    show wpAny _ _ (call (.ref C) [v']) _ _ _
    have hlim := I1.nolimit
    have hgl := I1.mod.glob.keeps I1.bk
    have hbl : ∃ mb, s1.heap.Ns builtinsNs mb ∧ ∀ y : Str, y ≠ "__name__" → mb y = bootBuiltins y := let ⟨mb, h1, h2⟩ := I1.mod.blt; ⟨mb, h1.keeps I1.bk, h2⟩
    obtain ⟨hp, g, dr, tk, os⟩ := s1
    refine wpAny_call (Er.err_made T I1.kIn hgl hbl hlim (by have := hr.dp; omega) fun h' tk' e d M => ?_)
    show MkP X pins σ Q (.ref e) ⟨h', g, dr, tk', os⟩
    obtain ⟨oe, fv, hoe, hc, hd, hdat, h1⟩ := M.obj
    have hns := M.ns
    obtain ⟨G', g1, g2⟩ := restrict h' fun b => decide (b ≠ e)
    have gk : ∀ b, b ≠ e → G'.get? b = h'.get? b := fun b hb => g1 b (decide_eq_true hb)
    have ge : G'.get? e = none := g2 e (by simp)
    have old : ∀ b o, hp.get? b = some o → G'.get? b = some o := fun b o q => (gk b (Nat.ne_of_lt (Nat.lt_of_lt_of_le (Heap.lt_size q) M.new))).trans (M.keep b o q)
    have ob : ObjOk X.prog X.w (upd H1 d (.xd [(fld, v)])) G' d (.xd [(fld, v)]) :=
      ⟨_, hns.at (fun o q => (gk d M.dne).trans q), fun f => relO_fld rv f⟩
    have J : Inv X pins σ (upd H1 d (.xd [(fld, v)])) ⟨G', g, dr, tk', os⟩ := I1.laid (t' := tk') old M.dbig ob
    refine ⟨e, oe, fv, ⟨G', g, dr, tk', os⟩, _, .ref C, some d, rfl, J, fun b o q => ?_, ge, hoe, ⟨hc, hd⟩, hdat, h1, ?_, rfl, I1.bare, raises_own T.exC T.tyC, q1 d (I1.hok.fresh M.dbig)⟩
    · by_cases hb : b = e
      · have q' : G'.get? b = some o := q
        rw [hb, ge] at q'; cases q'
      · exact (gk b hb).symm.trans q
    · rw [upd_ne (Ne.symm M.dne)]
      exact I1.hok.fresh M.new
end
section
variable {S : Sc} {env : En} {μ : Mu} {a : Expr} {rest : List Stmt} {R : Out → Prop} {pos p0 p1 p2 : Pos} {nm fld : Str} {cn : String} {C fI : Addr}
/-- raise N(a) -/
theorem b_raise (T : Er.ErrTxt S.X.prog S.X.K S.X.mg nm fld C fI) (hC : S.Γ.cls cn = some C) (h : A S [a] env μ fun ds μ1 => ∃ d, ds = [d] ∧ S.Z ⟨cn, [(fld, d)]⟩ env μ1) (hc : S.X.calm = true := by rfl) (hg : Gl S.X nm := by rfl)
    (hdb : (nm == ("__debug__" : Str)) = false := by decide) (he : starEach (a :: []) S.X.env = (false, eval a S.X.env) :: starEach [] S.X.env := by rfl) (hpl : (backTo p1 (starEach [] S.X.env)).any (·.1) = false := by rfl) :
    B S (.Raise (some (.Call (.Name nm p0) [a] [] p1)) none p2 :: rest) env μ R := by
  refine b_cons (PS.imp (ps_raise hc takes_wk (pmk_err T S.rm pa_y hg hdb he hpl)) fun D σ H ⟨F, as, a1, k⟩ => ?_)
  refine h.go a1 fun ds μ1 vs F1 H1 as1 ⟨d, ed, z⟩ g1 W1 r1 => ?_
  subst ed
  cases r1 with
  | cons rv rn =>
    rename_i v' us'
    cases rn
    refine ⟨_, rfl, fun dx hdx => ?_⟩
    have hFx : F1 dx = none := by
      cases e : F1 dx with
      | none => rfl
      | some o => rw [W1.sub _ _ e] at hdx; exact nomatch hdx
    obtain ⟨W2, g2⟩ := W1.addF (o := .xd [(fld, v')]) hdx
    exact a1.k _ env μ1 σ _ _ _ _ _ z (g1.trans g2) ((a1.e.mono g1).mono g2) W2 ⟨C, hC, rfl, .inr ⟨dx, _, rfl, upd_same, .cons (DV.mono g2 rv) .nil⟩⟩
end
end Me

set_option maxHeartbeats 2000000
/-! Me42: try .. except N as e; what the suite may ask of e. -/
namespace Me
open PySem PySem.Spec PyProof.Rows L2
/-- with an exception held -/
def Gam.er (Γ : Gam) (e : Addr × Addr × Option Addr) : Gam := ⟨Γ.K, Γ.cls, some e⟩
/-- the body of a try -/
def trS (S : Sc) (pn : List (Addr × Obj)) (xe : Value → Shared → Prop) (hp : PassesOwn (model S.X.prog S.X.w) S.X.A S.X.env xe) (Z : Ex → En → Mu → Prop) : Sc :=
  { Γ := S.Γ, X := S.X.tr pn xe, Z := Z, hK := S.hK, hg := S.hg, hN := S.hN, hp := hp, hb := S.hb, k := S.k, rm := S.rm }
/-- a suite: the exception lies at a, its class is at C, its dict at d -/
def suS (S : Sc) (a : Addr) (oe : Obj) (C : Addr) (d : Option Addr) (pn : List (Addr × Obj)) : Sc :=
  { Γ := S.Γ.er (a, C, d), X := S.X.suite a ((a, oe) :: pn), Z := fun _ _ _ => False, hK := S.hK, hg := S.hg, hN := S.hN, hp := PassesOwn.never, hb := S.hb, k := S.k, rm := ⟨S.rm.dp, S.rm.un⟩ }
/-- what a suite's end must be -/
def SuR (i : Nat) (R : Out → Prop) : Out → Prop
  | .next env μ => NEe (env.set i none) ∧ NE μ ∧ R (.next (env.set i none) μ)
  | .ret d μ => d.ne = true ∧ NE μ ∧ R (.ret d μ)
  | .brk env μ => NEe (env.set i none) ∧ NE μ ∧ R (.brk (env.set i none) μ)
  | .cont env μ => NEe (env.set i none) ∧ NE μ ∧ R (.cont (env.set i none) μ)
/-- an exception that the clause takes, and the suite run with it -/
def Cat (S : Sc) (CE : Addr) (i : Nat) (suite : List Stmt) (R : Out → Prop) : Ex → En → Mu → Prop := fun ex env μ =>
  (∀ C, S.Γ.cls ex.c = some C → PySem.W.exmOne S.X.K (.ref C) (.ref CE) = some true) ∧
  ∀ (a : Addr) (oe : Obj) (C : Addr) (d : Option Addr) (pn : List (Addr × Obj)), S.Γ.cls ex.c = some C → Zc (.ref C) d oe → (∃ vs, oe.data = .fields vs) → NE μ → NEe env → D.neF ex.fs = true →
    B (suS S a oe C d pn) suite (env.set i (some (.err ex.c ex.fs))) μ (SuR i R)
theorem takesF {X : Cx} : Takes X (fun _ _ _ _ => False) := fun _ _ x => by
  obtain ⟨_, _, _, _, _, _, _, _, _, _, _, _, _, _, _, _, z⟩ := x
  exact z.elim
/-- the promise for exceptions, by a wish -/
def KoW (S : Sc) (Z : Ex → En → Mu → Prop) (W : WX) (F H : Hp) (as : List Ad) : Prop := ∀ x env μ σ cls dx F' H' as', Z x env μ → Go F H as F' H' as' → EnvOk S.Γ F' as' env σ → Wd S.Γ F' H' as' μ → XOk S.Γ F' H' as' cls dx x → W cls dx σ H'
def rdW (S : Sc) (Z : Ex → En → Mu → Prop) (env : En) (μ : Mu) (R : Out → Prop) (W : WX) : TS := fun D σ H => ∃ F as, EnvOk S.Γ F as env σ ∧ Wd S.Γ F H as μ ∧ KoW S Z W F H as ∧ Ed S F H as R D
def rdSu (S : Sc) (suite : List Stmt) (R : Out → Prop) (a : Addr) (cls : Value) (d : Option Addr) : TS := fun D σ H => ∃ C env μ F as, cls = .ref C ∧
  (∀ oe pn, Zc cls d oe → (∃ vs, oe.data = .fields vs) → B (suS S a oe C d pn) suite env μ R) ∧ EnvOk (S.Γ.er (a, C, d)) F as env σ ∧ Wd (S.Γ.er (a, C, d)) F H as μ ∧
  Ed (suS S a ⟨.none, none, .fields #[], #[]⟩ C d []) F H as R D
section
variable {S : Sc} {env : En} {μ : Mu} {body rest suite : List Stmt} {st0 : Stmt} {R : Out → Prop} {pos p0 p1 : Pos} {x n : Str} {CE : Addr}
/-- try: body / except x as n: suite -/
theorem b_try (i : Nat) (h0 : S.Γ.err = none) (hx : S.X.mg x = some (.ref CE))
    (h : ∀ pn xe hp, B (trS S pn xe hp (Cat S CE i (st0 :: suite) (Thn S rest R))) body env μ (Thn S rest R))
    (hs : S.X.stack = S.X.env :: S.X.outer := by rfl) (hf : S.X.env.frame = some S.X.env.locals := by rfl) (hi : S.X.N[i]? = some n := by rfl) (hln : S.X.env.kindOf n = some .local := by rfl) (hg : Gl S.X x := by rfl)
    (hdb : (x == ("__debug__" : Str)) = false := by decide) :
    B S (.Try body [.ExceptHandler (some (.Name x p0)) (some n) (st0 :: suite) p1] [] [] pos :: rest) env μ R := by
  refine b_cons ?_
  refine PS.imp (ps_try_as (i := i) (tb := rdW S (Cat S CE i (st0 :: suite) (Thn S rest R)) env μ (Thn S rest R)) (ts := rdSu S (st0 :: suite) (SuR i (Thn S rest R))) (Wout := fun _ _ _ _ => False)
    hs hf S.hN hi hln ⟨hg, hdb, .inl hx⟩ takesF (fun W pn xe tk hp => ?_) (fun a oe cls d pn hz hfl => ?_)) fun Dn σ H ⟨F, as, a, k⟩ => ?_
  · refine PSs.imp (h pn xe hp) fun D σ H ⟨F, as, e, w, ko, ed⟩ => ⟨F, as, ⟨e, w, fun x env μ σ cls dx F' H' as' z g e' w' xo => ?_⟩, ed.nx, ed.rt, ed.bk, ed.ct⟩
    exact Wk.of tk (ko x env μ σ cls dx F' H' as' z g e' w' xo)
  · refine ⟨fun pins s σ H D I q => ?_⟩
    obtain ⟨C, env1, μ1, F, as, rfl, hB, e, w, ed⟩ := q
    refine (hB oe pn hz hfl).run pins s σ H D I ⟨F, as, ⟨e, w, fun x env μ σ cls dx F' H' as' z => z.elim⟩, ed.nx, ed.rt, ed.bk, ed.ct⟩
  · refine ⟨F, as, a.e, a.w, fun ex env1 μ1 σ1 cls dx F1 H1 as1 z g1 e1 W1 xo => ?_, k⟩
    obtain ⟨C, hC, rfl, xf⟩ := xo
    obtain ⟨z1, z2⟩ := z
    refine ⟨true, z1 C hC, fun _ ax hax => ?_, fun q => nomatch q⟩
    have ne := W1.noErr h0
    have nee := e1.noErr h0
    have nf : D.neF ex.fs = true := by
      rcases xf with e | ⟨dx', vs, _, _, dfs⟩
      · rw [e]; rfl
      · exact dfs.noErr h0
    have dv : DV (S.Γ.er (ax, C, dx)) F1 as1 (.ref ax) (.err ex.c ex.fs) := by
      rcases xf with e | ⟨dx', vs, rfl, hxd, dfs⟩
      · rw [e]
        exact .err0 rfl hC
      · exact .err1 rfl hC hxd (DFs.chg (Γ := S.Γ) (Γ' := S.Γ.er (ax, C, some dx')) rfl dfs nf)
    refine ⟨C, env1.set i (some (.err ex.c ex.fs)), μ1, F1, as1, rfl, fun oe pn hz hfl => z2 ax oe C dx pn hC hz hfl ne nee nf, (EnvOk.chg (Γ := S.Γ) (Γ' := S.Γ.er (ax, C, dx)) rfl e1 nee).set dv i, Wd.chg (Γ := S.Γ) (Γ' := S.Γ.er (ax, C, dx)) rfl W1 ne, ?_⟩
    refine ⟨fun env' μ' σ' F' H' as' r g e' w' => ?_, fun d μ' v F' H' as' r g w' dv' => ?_, fun env' μ' σ' F' H' as' r g e' w' => ?_, fun env' μ' σ' F' H' as' r g e' w' => ?_⟩
    · obtain ⟨r1, r2, r3⟩ := r
      exact k.nx _ μ' _ F' H' as' r3 (g1.trans g) (EnvOk.chg (Γ := S.Γ.er (ax, C, dx)) (Γ' := S.Γ) rfl (e'.clr i) r1) (Wd.chg (Γ := S.Γ.er (ax, C, dx)) (Γ' := S.Γ) rfl w' r2)
    · obtain ⟨r1, r2, r3⟩ := r
      exact k.rt d μ' v F' H' as' r3 (g1.trans g) (Wd.chg (Γ := S.Γ.er (ax, C, dx)) (Γ' := S.Γ) rfl w' r2) (DV.chg (Γ := S.Γ.er (ax, C, dx)) (Γ' := S.Γ) rfl dv' r1)
    · obtain ⟨r1, r2, r3⟩ := r
      exact k.bk _ μ' _ F' H' as' r3 (g1.trans g) (EnvOk.chg (Γ := S.Γ.er (ax, C, dx)) (Γ' := S.Γ) rfl (e'.clr i) r1) (Wd.chg (Γ := S.Γ.er (ax, C, dx)) (Γ' := S.Γ) rfl w' r2)
    · obtain ⟨r1, r2, r3⟩ := r
      exact k.ct _ μ' _ F' H' as' r3 (g1.trans g) (EnvOk.chg (Γ := S.Γ.er (ax, C, dx)) (Γ' := S.Γ) rfl (e'.clr i) r1) (Wd.chg (Γ := S.Γ.er (ax, C, dx)) (Γ' := S.Γ) rfl w' r2)
end
/-! ### e.f in the suite -/
section
variable {S : Sc} {env : En} {μ : Mu} {e : Expr} {pos : Pos} {P : KD} {ax : Addr} {oe : Obj} {C : Addr} {d : Option Addr} {pn : List (Addr × Obj)} {f : Str}
theorem e_xf (hz : Zc (.ref C) d oe) (hf : ∃ vs, oe.data = .fields vs) (Tx : XfC S.X.K C) (hno : PySem.W.findIn S.X.K (.ref C) f = some none)
    (h : E (suS S ax oe C d pn) e env μ fun dv μ1 => ∃ c fs v, dv = .err c fs ∧ fs.lookup f = some v ∧ P v μ1) (hb : attributeBase e f S.X.env (eval e S.X.env) = eval e S.X.env := by rfl) :
    E (suS S ax oe C d pn) (.Attribute e f pos) env μ P := by
  refine PE.imp (pe_xf (X := S.X) (a := ax) (C := C) (cls := .ref C) (d := d) (pn := pn) Tx hno hz hf (pe_y (X := S.X.suite ax ((ax, oe) :: pn))) hb) fun σ H Q ⟨F, as, a1, kk⟩ => ?_
  refine E.go h a1 fun dv μ1 v F1 H1 as1 p1 g1 W1 r1 => ?_
  obtain ⟨c, fs, w, rfl, hl, p⟩ := p1
  cases r1 with
  | err0 h1 hc => exact nomatch hl
  | err1 h1 hc h2 h3 =>
    cases h1
    obtain ⟨u, hu, ru⟩ := h3.look hl
    exact ⟨rfl, rfl, _, _, u, rfl, W1.sub _ _ h2, hu, kk w μ1 u F1 H1 as1 p g1 W1 ru⟩
end
end Me
/-! ### isinstance(e, ..) -/
namespace PySem.W
open PySem PySem.Spec PySem.Calls PyProof.Rows
section
variable {prog : Program} {w : World} {A : Around} {E : Value → Shared → Prop} {s : Shared} {K : Frag} {x D : Addr} {ox : Obj} {od : Option Obj}
theorem me_findObj {C : Addr} {name : Str} {a g : Value} (hc : (clsIn K C).isSome = true) (ha : findIn K (.ref C) name = some (some a)) (hg : specialIn K a "__get__" = some (some g)) (ht : takesIn K a = some true) : findObj K C od name = some (.bind g a) := by
  obtain ⟨cd, hc⟩ := Option.isSome_iff_exists.mp hc
  unfold findObj
  rw [hc, Option.bind_some, ha, Option.bind_some]
  simp [hg, ht]
theorem me_classE {Q : Option Value → Shared → Prop} (hga : findIn K (.ref D) "__getattribute__" = some (some (.builtin "BaseException.__getattribute__"))) (hgt : findIn K (.ref D) "__getattr__" = some none) (hsub : subIn K (.ref D) (.type "BaseException") = some true)
    (hdct : hasDictIn K D = true) (ha : findIn K (.ref D) "__class__" = some (some (.builtin "object.__class__")))
    (hn : specialIn K (.builtin "object.__class__") "__get__" = some (some (.builtin "getset_descriptor.__get__"))) (htk : takesIn K (.builtin "object.__class__") = some true) (hm : mroIn K D (.type "object") = some true)
    (X : K.In s.heap) (I : InstAt s.heap x ox D od) (h : Q (some (.ref D)) { s with toks := s.toks + 1 }) : wpAny (model prog w) A (getAttr? (.ref x) "__class__") Q E s := by
  have hf : findObj K D od "__class__" = some (.bind (.builtin "getset_descriptor.__get__") (.builtin "object.__class__")) := me_findObj (by obtain ⟨cd, hc, _⟩ := any_some hdct; rw [hc]; rfl) ha hn htk
  obtain ⟨hp, g, d, t, os⟩ := s
  have L0 := I.type (M := model prog w)
  have L1 := looks_findIn (M := model prog w) X hga
  have L2 := looks_findIn (M := model prog w) X hgt
  have L3 := looks_find (M := model prog w) X I hf
  have sub : Looks (model prog w) hp (isInstance (.ref x) (.type "BaseException")) true := L0.andThen (looks_subIn X hsub)
  have hx0 : (false && onTheHeap (Value.builtin "BaseException.__getattribute__")) = false := rfl
  have hx2 : (Value.builtin "BaseException.__getattribute__" == Value.builtin "object.__getattribute__") = false := by decide +kernel
  have hx1 : (onTheHeap (Value.ref D) && Value.builtin "BaseException.__getattribute__" == Value.builtin "object.__getattribute__") = false := by rw [hx2]; rfl
  unfold getAttr? getAttrBy? getAttrBy
  refine wpAny_bind (wpAny_mkText (wpAny_bind (wpAny_attempt (wpAny_holding (wpAny_bind (L0.at (wpAny_bind (L1.at ?_))))))))
  show wpAny _ _ (if (onTheHeap (Value.ref D) && Value.builtin "BaseException.__getattribute__" == Value.builtin "object.__getattribute__") = true then _ else _) _ _ _
  rw [hx1, if_neg Bool.false_ne_true]
  unfold getAttrByItsOwn hookBefore
  refine wpAny_bind ?_
  rw [if_pos (show onTheHeap (Value.ref D) = true from rfl)]
  refine L2.at ?_
  refine wpAny_bind (wpAny_attempt (wpAny_holding ?_))
  unfold callGetattribute
  rw [hx0, if_neg Bool.false_ne_true]
  unfold boundAndCalled
  rw [PySem.F.excAttr_ValueError.ga.bind (.ref x)]
  refine wpAny_bind (wpAny_pure ?_)
  show wpAny _ _ (call (.builtin "BaseException.__getattribute__") [.ref x, .str "__class__" t]) _ _ _
  refine wpAny_call (codeAny_call_builtin PySem.F.excAttr_ValueError.ga.plain PySem.F.entry_bexc_ga ?_)
  refine @check_slot (model prog w) _ _ ⟨hp, g, d, t + 1, os⟩ "BaseException.__getattribute__" "BaseException" "__getattribute__" (.ref x) [.str "__class__" t] [] _ (by decide +kernel) (by decide +kernel) sub (PySem.F.args_bexc_ga (.ref x) (.str "__class__" t)) ?_
  unfold Builtin.«object.__getattribute__»
  refine wpAny_bind (wpAny_of_eq (a := ((Value.ref x : Value), [Value.str "__class__" t])) (by first | rfl | (simp only [slotArgs]; rfl)) ?_)
  refine wpAny_bind (wpAny_pure (wpAny_bind (L0.at (wpAny_bind (L3.at ?_)))))
  show wpAny _ _ (holding [Value.builtin "object.__class__"] (call (.builtin "getset_descriptor.__get__") [.builtin "object.__class__", .ref x, .ref D]) >>= ret) _ _ _
  refine wpAny_bind (wpAny_holding (wpAny_call (class_get (s := ⟨hp, g, d, t + 1, os⟩) (ox := ox) (od := od) X I hm ?_)))
  refine wpAny_pure ?_
  show wpAny _ _ (handedOut (.ref D)) _ _ _
  rw [handedOut_of (v := .ref D) rfl]
  first
    | exact wpAny_pure (wpAny_pure h)
    | exact wpAny_pure h
    | exact wpAny_pure (wpAny_bind (wpAny_pure (wpAny_pure h)))
theorem me_kitx (hga : findIn K (.ref D) "__getattribute__" = some (some (.builtin "BaseException.__getattribute__"))) (hgt : findIn K (.ref D) "__getattr__" = some none) (hsub : subIn K (.ref D) (.type "BaseException") = some true) (hdct : hasDictIn K D = true) (ha : findIn K (.ref D) "__class__" = some (some (.builtin "object.__class__")))
    (hn : specialIn K (.builtin "object.__class__") "__get__" = some (some (.builtin "getset_descriptor.__get__"))) (htk : takesIn K (.builtin "object.__class__") = some true) (hm : mroIn K D (.type "object") = some true) :
    KitX K (.ref x) (.ref D) (fun h => InstAt h x ox D od) where
  ty := fun _ _ _ I => I.type
  it := fun _ _ X _ => by
    obtain ⟨cdD, hcD, _⟩ := any_some hdct
    unfold clsIn at hcD
    split at hcD
    · rename_i c' d' cd' sl' ho
      intro A' Q' E' s' k q
      unfold isType loadHead
      exact wpAny_bind (wpAny_loadPart (k _ _ (X _ _ ho)) (wpAny_pure q))
    · cases hcD
  ne := fun h tp dd its n sl X htp => by
    obtain ⟨cdD, hcD, _⟩ := any_some hdct
    refine Bool.eq_false_iff.mpr fun q => ?_
    have e : D = tp := Value.ref.inj (beq_iff_eq.mp q)
    subst e
    unfold clsIn at hcD
    split at hcD
    · rename_i c' d' cd' sl' ho
      have z := (X _ _ ho).symm.trans htp
      cases z
    · cases hcD
  ca := fun X I k => me_classE hga hgt hsub hdct ha hn htk hm X I k
end
end PySem.W
namespace Me
open PySem PySem.Spec PyProof.Rows L2
section
variable {S : Sc} {env : En} {μ : Mu} {e : Expr} {pos : Pos} {P : KD} {ax : Addr} {oe : Obj} {C : Addr} {d : Option Addr} {pn : List (Addr × Obj)} {c : String} {fs : List (Str × D)}
/-- the exception that the suite holds, as an object -/
theorem err_at {X : Cx} {Γ : Gam} {F H : Hp} {as : List Ad} {v : V} {pins : List (Addr × Obj)} {σ : L2.St} {s : Shared} (hΓ : Γ.err = some (ax, C, d)) (hz : Zc (.ref C) d oe) (hf : ∃ vs, oe.data = .fields vs) (I : Inv (X.suite ax ((ax, oe) :: pn)) pins σ H s)
    (sub : Same F H) (r : DV Γ F as v (.err c fs)) (hne : fs ≠ []) : v = .ref ax ∧ ∃ od, PySem.W.InstAt s.heap ax oe C od := by
  obtain ⟨vs, hd⟩ := hf
  obtain ⟨ha, _⟩ := I.pin (ax, oe) (List.mem_append_left _ List.mem_cons_self)
  cases r with
  | err0 h1 hc => exact absurd rfl hne
  | err1 h1 hc h2 h3 =>
    rw [hΓ] at h1
    cases h1
    refine ⟨rfl, ?_⟩
    obtain ⟨mA, hns, hr⟩ := (show ObjOk X.prog X.w H s.heap _ (.xd _) from I.hok _ _ (sub _ _ h2))
    obtain ⟨od, ho, hl⟩ := lookIn_ns hns
    exact ⟨some od, ha, hz.1, by unfold PySem.W.notCls; rw [hd] <;> rfl, by rw [hz.2]; exact ho⟩
theorem c_isiE {u : Value} {q : Bool} {dc : D} (hz : Zc (.ref C) d oe) (hf : ∃ vs, oe.data = .fields vs) (Ec : ExcC S.X.K C) (hu : clsV S.Γ dc = some u) (hk : PySem.W.kitOne S.X.K (.ref C) u = some q) (hne : fs ≠ []) (k : P (.bl q) μ) :
    Cl (suS S ax oe C d pn) (.builtin "isinstance") [.err c fs, dc] env μ P := by
  intro pins s σ H xs us Q F as I rx a1 h1 kk
  obtain ⟨x, y, rfl, r1, r2⟩ := dvs2 h1
  obtain ⟨u1, u2, rfl, s1, s2⟩ := vals2 rx
  obtain ⟨rfl, od, J⟩ := err_at (Γ := (suS S ax oe C d pn).Γ) rfl hz hf I a1.w.sub r1 hne
  cases (show u1 = Value.ref ax from s1)
  have e2 := (clsV_of r2 (show clsV (suS S ax oe C d pn).Γ dc = some u from hu)).eq s2
  subst e2
  exact PySem.W.kia_one (PySem.W.me_kitx Ec.hg Ec.hk Ec.hs Ec.hd Ec.ha Ec.hn Ec.ht Ec.hm) I.kIn J hk (fun z => nomatch z) fun tk => ⟨.bl q, H, I.tok tk, rfl, kk _ μ _ F H as k (Go.refl F H as) a1.w (.bl q)⟩
theorem clsVs_er {Γ : Gam} {e : Addr × Addr × Option Addr} : ∀ ds : List D, clsVs (Γ.er e) ds = clsVs Γ ds
  | [] => rfl
  | d :: ds => by
    have h : clsV (Γ.er e) d = clsV Γ d := by cases d <;> rfl
    rw [clsVs, clsVs, clsVs_er ds, h]
theorem c_isiTE {us' : List Value} {q : Bool} {dcs : List D} (hz : Zc (.ref C) d oe) (hf : ∃ vs, oe.data = .fields vs) (Ec : ExcC S.X.K C) (hu : clsVs S.Γ dcs = some us') (hk : PySem.W.kitAny S.X.K (.ref C) us' = some q) (hne : fs ≠ []) (k : P (.bl q) μ) :
    Cl (suS S ax oe C d pn) (.builtin "isinstance") [.err c fs, .tup dcs] env μ P := by
  intro pins s σ H xs us Q F as I rx a1 h1 kk
  obtain ⟨x, y, rfl, r1, r2⟩ := dvs2 h1
  obtain ⟨u1, u2, rfl, s1, s2⟩ := vals2 rx
  obtain ⟨tp, vs, rfl, ht, dv⟩ := r2.tupV
  obtain ⟨rfl, od, J⟩ := err_at (Γ := (suS S ax oe C d pn).Γ) rfl hz hf I a1.w.sub r1 hne
  cases (show u1 = Value.ref ax from s1)
  cases (show u2 = Value.ref tp from s2)
  obtain ⟨_, its, rv, o, g1, g2, n, g3⟩ := (show ObjOk S.X.prog S.X.w H s.heap tp (.tup vs) from I.hok tp _ (a1.w.sub _ _ ht))
  have e3 := ClsV.all (clsVs_of dv ((clsVs_er dcs).trans hu)) rv
  subst e3
  obtain ⟨oc, odd, dt, sl⟩ := o
  simp only at g2 g3
  subst g2 g3
  exact PySem.W.kia_tup (PySem.W.me_kitx Ec.hg Ec.hk Ec.hs Ec.hd Ec.ha Ec.hn Ec.ht Ec.hm) I.kIn J g1 hk (fun z => nomatch z) fun tk => ⟨.bl q, H, I.tok tk, rfl, kk _ μ _ F H as k (Go.refl F H as) a1.w (.bl q)⟩
end
end Me

/-! Me43: the comprehension of a dict with two clauses. -/
namespace Me
open PySem PySem.Spec PyProof.Rows L2
section
variable {prog : Program} {w : World} {A : Around} {R : Result → Shared → Prop} {s : Shared} {kx vx t0 i0 t1 i1 : Expr} {ifs0 ifs1 : List Expr} {scope : Scope} {pos : Pos} {it acc : Value} {D0 : Addr} {env : Env}
end
section
variable {X : Cx}
def tDc2 (o0 : HO) (wi : TI) (g : TG) (tt : TT) (wi1 : TI) (g1 : TG) (tt1 : TT) (tk tv : TE) (vs vs1 : List Nat) : TE := fun σ H Q => wi σ H fun J H1 => ∀ D0, H1 D0 = none → ∃ Y : Nat → Nat → Hp → Prop, (∃ m, Y 0 m (upd H1 D0 o0)) ∧ ∀ i m H, Y i m H →
  (J.stop i H ∧ Q (.ref D0) H) ∨ (J.go i H ∧ ∃ Nx : Hp → Prop, (∀ H', Nx H' → ∃ m', m' < m ∧ Y (i + 1) m' H') ∧ ∀ x H', J.yld i H x H' → g x (wipe σ vs) H' fun σ2 H2 => wipe σ2 vs = wipe σ vs ∧ tt σ2 H2 fun b H3 =>
    if b = true then wi1 σ2 H3 fun J1 H4 => ∃ Y1 : Nat → Nat → Hp → Prop, (∃ m, Y1 0 m H4) ∧ ∀ j k H, Y1 j k H →
      (J1.stop j H ∧ Nx H) ∨ (J1.go j H ∧ ∃ Nx1 : Hp → Prop, (∀ H', Nx1 H' → ∃ k', k' < k ∧ Y1 (j + 1) k' H') ∧ ∀ x H', J1.yld j H x H' → g1 x (wipe σ2 vs1) H' fun σ3 H5 => wipe σ3 vs1 = wipe σ2 vs1 ∧ tt1 σ3 H5 fun b H6 =>
        if b = true then tk σ3 H6 fun y H7 => tv σ3 H7 fun z H8 => ∃ H9, DPut H8 D0 y z H9 ∧ Nx1 H9 else Nx1 H6)
    else Nx H3)
end
end Me

/-! Me44: {k: v for x in xs for y in ys}, by values. -/
namespace Me
open PySem PySem.Spec PyProof.Rows L2
section
variable {S : Sc} {env : En} {μ : Mu} {kx vx tg iter tg1 iter1 : Expr} {ifs ifs1 : List Expr} {pos p1 p2 : Pos} {x y : Str} {scope : Scope} {P : KD}
/-- the inner walk; the new dict is the cell n0 -/
structure CompI (S : Sc) (scope : Scope) (rel1 : D → En → En → Prop) (vs1 : List Nat) (kx vx : Expr) (ifs1 : List Expr) (env2 : En) (t : Bool) (n0 : Nat) (J : Nat → Mu → Prop) (ds1 : List D) (Sx1 : Mu → Prop) (m0 : Mu) (Dn : Mu → Prop) : Prop where
  start : J 0 m0
  stay : ∀ j m, J j m → Sx1 m
  turn : ∀ j d m, ds1[j]? = some d → J j m → ∃ env3 PB, rel1 d (wipeE env2 vs1) env3 ∧ AllB S scope (fun S' => Ts S' ifs1 env3 m PB) ∧
    ∀ q m1, PB q m1 → (q = true → ∃ PK, AllB S scope (fun S' => E S' kx env3 m1 PK) ∧ ∀ dk m2, PK dk m2 → ∃ key, asDK t dk = some key ∧ AllB S scope fun S' => E S' vx env3 m2 fun d' m3 => ∃ acc, m3[n0]? = some (.dct t none acc) ∧ acc.length < sizeLine ∧ J (j + 1) (m3.set n0 (.dct t none (putD acc key d')))) ∧ (q = false → J (j + 1) m1)
  done : ∀ m, J ds1.length m → Dn m
structure CompO (S : Sc) (scope : Scope) (rel rel1 : D → En → En → Prop) (vs vs1 : List Nat) (kx vx tg1 iter1 : Expr) (ifs ifs1 : List Expr) (env : En) (t : Bool) (n0 : Nat) (I : Nat → Mu → Prop) (ds : List D) (Sx : Mu → Prop) (m0 : Mu) (fin : Mu → Prop) : Prop where
  start : I 0 m0
  stay : ∀ k m, I k m → Sx m
  turn : ∀ k d m, ds[k]? = some d → I k m → ∃ env2 PB, rel d (wipeE env vs) env2 ∧ AllB S scope (fun S' => Ts S' ifs env2 m PB) ∧
    ∀ q m1, PB q m1 → (q = true → ∃ PI, AllB S scope (fun S' => Iter S' tg1 iter1 env2 m1 PI) ∧ ∀ ds1 Sx1 m2, PI ds1 Sx1 m2 → ∃ J, CompI S scope rel1 vs1 kx vx ifs1 env2 t n0 J ds1 Sx1 m2 (I (k + 1))) ∧ (q = false → I (k + 1) m1)
  done : ∀ m, I ds.length m → fin m
def rdII (S : Sc) (scope : Scope) (tg1 iter1 : Expr) : TI := fun σ H R => ∃ env m PI F as, AllB S scope (fun S' => Iter S' tg1 iter1 env m PI) ∧ EnvOk S.Γ F as env σ ∧ Wd S.Γ F H as m ∧
  ∀ ds Sx μ1 J F1 H1 as1, PI ds Sx μ1 → Go F H as F1 H1 as1 → Wd S.Γ F1 H1 as1 μ1 → IsWalk S ds Sx F1 H1 as1 J → R J H1
/-! ### nothing else changes -/
def foldD (ps : List (DK × D)) : List (DK × D) := ps.foldl (fun acc p => putD acc p.1 p.2) []
abbrev dcW (μ : Mu) (t : Bool) (ps : List (DK × D)) : Mu := μ ++ [.dct t none (foldD ps)]
end
end Me

/-! Me45: sum([], []), range with a step, rstrip, index of a text. -/
namespace Me
open PySem PySem.Spec PyProof.Rows L2
section
variable {prog : Program} {w : World} {A : Around}
end
section
variable {S : Sc} {env : En} {μ : Mu} {d d0 : D} {es0 : List D} {P : KD} {PI : KI} {e a b c o tg : Expr} {es : List Expr} {p0 pos apos cpos : Pos} {x y : Str}
/-- lo, lo + c, .. -/
def rangeC (lo c : Int) (n : Nat) : List D := (List.range n).map fun (i : Nat) => D.int (lo + i * c)
end
end Me

/-! Me46: y = {..}, a dict comprehension that goes to a plain local. -/
namespace Me
open PySem PySem.Spec PyProof.Rows L2
section
variable {X : Cx}
end
section
variable {S : Sc} {env : En} {μ : Mu} {kx vx tg iter tg1 iter1 : Expr} {ifs ifs1 : List Expr} {pos spos p0 p1 p2 : Pos} {x y z : Str} {scope : Scope} {P : KD} {rest : List Stmt} {R : Out → Prop}
end
end Me

/-! Me47: a local list becomes stable. -/
namespace Me
open PySem PySem.Spec PyProof.Rows L2
section
variable {S : Sc} {env : En} {μ : Mu} {rest : List Stmt} {R : Out → Prop}
end
end Me

/-! Me48: dicts beside tuples and lists: ==, in, repr of {}. -/
namespace PySem.SeqAt
open PySem PySem.Spec PyProof.Rows

open MeetsSeq
section
variable {prog : Program} {w : World} {A : Around} {E : Value → Shared → Prop} {s : Shared}
end
end PySem.SeqAt

namespace Me
open PySem PySem.Spec PyProof.Rows L2
section
variable {S : Sc} {env : En} {μ : Mu} {P : KD} {d d1 d2 : D} {ds : List D} {kvs : List (DK × D)}
/-! ### repr of {} -/
end
end Me

/-! Me49: a statement that walks over a dict. -/
namespace Me
open PySem PySem.Spec PyProof.Rows L2
def LkR (l : Nat) (t : Bool) (q : HO) (kvs : List (DK × D)) (R : Out → Prop) : Out → Prop
  | .next env m => m[l]? = some (.dct t (some q) kvs) ∧ R (.next env (m.set l (.dct t none kvs)))
  | .ret d m => m[l]? = some (.dct t (some q) kvs) ∧ R (.ret d (m.set l (.dct t none kvs)))
  | .brk env m => m[l]? = some (.dct t (some q) kvs) ∧ R (.brk env (m.set l (.dct t none kvs)))
  | .cont env m => m[l]? = some (.dct t (some q) kvs) ∧ R (.cont env (m.set l (.dct t none kvs)))
section
variable {S : Sc} {env : En} {μ : Mu} {elt tg iter : Expr} {ifs : List Expr} {st : Stmt} {rest : List Stmt} {R : Out → Prop} {pos spos p0 p1 : Pos} {x y : Str} {scope : Scope} {P : KD} {t : Bool} {kvs : List (DK × D)}
theorem lk_back {Γ : Gam} {F H : Hp} {as : List Ad} {μ : Mu} {l : Nat} {ad : Ad} {u : HO} (ha : as[l]? = some ad) (hm : μ[l]? = some (.dct t (some u) kvs)) (W : Wd Γ F H as μ) : ∃ o od, u = .frz od o ∧ H ad.a = some (.frz od o) ∧ Wd Γ F (upd H ad.a o) as (μ.set l (.dct t none kvs)) ∧ Go F H as F (upd H ad.a o) as := by
  cases t with
  | false =>
    obtain ⟨nF, vs, ⟨hv, od, rfl⟩, hk⟩ := W.ok l ad _ ha hm
    obtain ⟨W3, g3⟩ := W.setO (o := .dK vs) (c := .dct false none kvs) ha nF ⟨nF, vs, upd_same, hk⟩
    exact ⟨_, od, rfl, hv, W3, g3⟩
  | true =>
    obtain ⟨nF, vs, ⟨hv, od, rfl⟩, hk⟩ := W.ok l ad _ ha hm
    obtain ⟨W3, g3⟩ := W.setO (o := .dT vs) (c := .dct true none kvs) ha nF ⟨nF, vs, upd_same, hk⟩
    exact ⟨_, od, rfl, hv, W3, g3⟩
theorem b1_lock (l : Nat) (hl : μ[l]? = some (.dct t none kvs)) (h : ∀ q, B1 S.cold st env (μ.set l (.dct t (some q) kvs)) (LkR l t q kvs R)) : B1 S st env μ R := by
  have h2 : PS S.X st (fun Dx σ H => ∃ q, rdS S.cold env (μ.set l (.dct t (some q) kvs)) (LkR l t q kvs R) Dx σ H) := ⟨fun pins s σ H Dx I ⟨q, z⟩ => (h q).run pins s σ H Dx I z⟩
  refine PS.imp (ps_lock h2) fun Dx σ H ⟨F, as, a, k⟩ => ?_
  obtain ⟨ad, hat, ck⟩ := a.w.adAt hl
  obtain ⟨o0, hv, mu, lock⟩ : ∃ o0, H ad.a = some o0 ∧ Mut (some o0) ∧ ∀ od, Wd S.Γ F (upd H ad.a (.frz od o0)) as (μ.set l (.dct t (some (.frz od o0)) kvs)) ∧ Go F H as F (upd H ad.a (.frz od o0)) as := by
    cases t with
    | false =>
      obtain ⟨nF, vs, hv, hk⟩ := ck
      exact ⟨.dK vs, hv, trivial, fun od => a.w.setO (o := .frz od (.dK vs)) (c := .dct false (some (.frz od (.dK vs))) kvs) hat nF ⟨nF, vs, ⟨upd_same, od, rfl⟩, hk⟩⟩
    | true =>
      obtain ⟨nF, vs, hv, hk⟩ := ck
      exact ⟨.dT vs, hv, trivial, fun od => a.w.setO (o := .frz od (.dT vs)) (c := .dct true (some (.frz od (.dT vs))) kvs) hat nF ⟨nF, vs, ⟨upd_same, od, rfl⟩, hk⟩⟩
  refine ⟨ad.a, o0, hv, mu, fun od => ⟨.frz od o0, F, as, ?_⟩⟩
  obtain ⟨W1, g1⟩ := lock od
  refine ⟨⟨a.e.mono g1, W1, ko_cold⟩, ?_, ?_, ?_, ?_⟩
  · rintro env' m σ' F2 H2 as2 ⟨hm, r⟩ g2 e2 W2
    obtain ⟨o, od', e, hv2, W3, g3⟩ := lk_back (g2.at hat) hm W2
    injection e with e1 e2'
    subst e1 e2'
    exact ⟨hv2, k.nx _ _ _ _ _ _ r ((g1.trans g2).trans g3) (e2.mono g3) W3⟩
  · rintro d m v F2 H2 as2 ⟨hm, r⟩ g2 W2 r2
    obtain ⟨o, od', e, hv2, W3, g3⟩ := lk_back (g2.at hat) hm W2
    injection e with e1 e2'
    subst e1 e2'
    exact ⟨hv2, k.rt _ _ _ _ _ _ r ((g1.trans g2).trans g3) W3 (r2.mono g3)⟩
  · rintro env' m σ' F2 H2 as2 ⟨hm, r⟩ g2 e2 W2
    obtain ⟨o, od', e, hv2, W3, g3⟩ := lk_back (g2.at hat) hm W2
    injection e with e1 e2'
    subst e1 e2'
    exact ⟨hv2, k.bk _ _ _ _ _ _ r ((g1.trans g2).trans g3) (e2.mono g3) W3⟩
  · rintro env' m σ' F2 H2 as2 ⟨hm, r⟩ g2 e2 W2
    obtain ⟨o, od', e, hv2, W3, g3⟩ := lk_back (g2.at hat) hm W2
    injection e with e1 e2'
    subst e1 e2'
    exact ⟨hv2, k.ct _ _ _ _ _ _ r ((g1.trans g2).trans g3) (e2.mono g3) W3⟩
end
end Me

/-! Me50: == of lists of instances by an own __eq__ (alike ones). -/
namespace PySem.SeqAt
open PySem PySem.Spec PyProof.Rows
open MeetsSeq MeetsSeq2 MeetsSeq3 SeqRoads2
end PySem.SeqAt
namespace Me
open PySem PySem.Spec PyProof.Rows L2
theorem vals_refs : ∀ {vs : List V} {us us' : List Value}, (∀ v ∈ vs, ∃ a, v = V.ref a) → Vals vs us → Vals vs us' → us = us'
  | [], _, _, _, .nil, .nil => rfl
  | v :: vs, _, _, h, .cons r t, .cons r' t' => by
    obtain ⟨a, rfl⟩ := h v List.mem_cons_self
    cases r
    cases r'
    rw [vals_refs (fun x hx => h x (List.mem_cons_of_mem _ hx)) t t']
section
variable {S : Sc} {env : En} {μ : Mu} {P : KD} {ds es : List D} {c : String} {C : Ct} {k : Nat}
end
end Me

/-! Me51: instances beside tuples, == with [], pairs that hold {}. -/
namespace Me
open PySem PySem.Spec PyProof.Rows L2
section
variable {S : Sc} {env : En} {μ : Mu} {c : String} {P : KD} {d d1 d2 : D} {k : Nat} {C : Ct} {ds : List D} {x : Str} {j : Nat}
/-- a list == [] -/
theorem o_eqL0 (h1 : vw μ d1 = .lst ds) (h2 : vw μ d2 = .lst []) (k : P (.bl ds.isEmpty) μ) : Op2 S (compareOp .Eq) d1 d2 env μ P := by
  intro pins s σ H x y v u Q F as I rx ry a r1 r2 kk
  obtain ⟨p, vs, rfl, hp, dv⟩ := a.w.lst r1 h1
  obtain ⟨q, ws, rfl, hq, dv2⟩ := a.w.lst r2 h2
  cases dv2
  cases rx
  cases ry
  have hu := S.hu
  obtain ⟨its, rv, pl, hz⟩ := I.list (show SqL S.X.K H p vs from .inl (.inl hp))
  obtain ⟨its2, rv2, pl2, _⟩ := I.list (show SqL S.X.K H q [] from .inl (.inl hq))
  cases rv2
  have hlen : its.length = ds.length := by rw [rv.length.symm, dv.length]
  by_cases e : its = []
  · subst e
    refine SeqAt.eq_listAt (e := fun _ => true) pl.isList pl2.isList rfl (by omega) (fun j h => absurd h (by simp)) ⟨.bl true, H, I, rfl, ?_⟩
    cases ds with
    | nil => exact kk.now a.w k (.bl _)
    | cons => exact absurd hlen (by simp)
  · refine SeqAt.eq_list_lengthsAt pl.isList pl2.isList (by
      cases its with
      | nil => exact absurd rfl e
      | cons => rfl) (by omega) ⟨.bl false, H, I, rfl, ?_⟩
    cases ds with
    | nil => rw [List.length_nil] at hlen; exact absurd (List.length_eq_zero_iff.mp hlen) e
    | cons => exact kk.now a.w k (.bl _)
/-! ### repr of (x, {}) -/
/-! ### x in (..) -/
end
end Me

/-! set(tuple of names), by gen27.py. -/
namespace Me
open PySem PySem.Spec PyProof.Rows L2
section
variable {P : Program} {w : World} {A : Around} {E : Value → Shared → Prop} {s : Shared}
end
end Me

/-! Me52: len(set(x)) of a tuple of names; C(e, .., k = v) with the rest of the keywords by default. -/
namespace Me
open PySem PySem.Spec PyProof.Rows L2
section
variable {S : Sc} {env : En} {μ : Mu} {e : Expr} {P : KD} {p p2 q pos : Pos}
end
/-! ### C(e, .., k = v, ..) with defaults -/
structure MakKD (P : Program) (w : World) (K : PySem.W.Frag) (mg : Str → Option Value) (base : Heap) (Γ : Gam) (k : Nat) (c : String) (x : Str) (n : Nat) (ks : List Str) (ds0 : List D) (C : Ct) : Prop where
  ex : ∃ Ca f fd ps g gV vs0, Γ.cls c = some Ca ∧ Mk K Ca f ∧ mg x = some (.ref Ca) ∧ Gd.FnG P w K mg base (L2.CX P w) k f fd ps (spM Γ C) ∧ KBn K fd ps (n + 1) ks g gV ∧ (∀ vs zs : List V, vs.length = n + 1 → zs.length = ks.length → gV vs zs = vs ++ (zs ++ vs0)) ∧ ∀ F as, DVs Γ F as vs0 ds0
section
variable {S : Sc} {env : En} {μ : Mu} {a b e o : Expr} {es : List Expr} {kws : List Keyword} {pos p0 kpos : Pos} {x f : Str} {nm : Option Str} {c : String} {P : KD} {k n : Nat} {C : Ct} {ks : List Str} {ds0 : List D}
end
end Me

/-! Me53: sets of texts; sorted(set(texts)). -/
namespace Me
open PySem PySem.Spec PyProof.Rows L2
section
variable {P : Program} {w : World} {A : Around} {E : Value → Shared → Prop} {s : Shared} {h : Heap} {a : Addr} {l : List Str}
/-- what the first i texts have brought -/
structure Fed (xs : List Str) (i : Nat) (l : List Str) : Prop where
  mem : ∀ x, x ∈ l ↔ x ∈ xs.take i
  nd : l.Nodup
  len : l.length ≤ i
theorem Fed.next {xs l : List Str} {i : Nat} {x : Str} (g : Fed xs i l) (h : xs[i]? = some x) : Fed xs (i + 1) (if x ∈ l then l else x :: l) := by
  refine ⟨fun y => ?_, ?_, ?_⟩
  · rw [take_one h, List.mem_append, List.mem_singleton, ← g.mem]
    split
    · rename_i hx
      exact ⟨.inl, fun z => z.elim id fun e => e ▸ hx⟩
    · rw [List.mem_cons]
      exact Or.comm
  · split
    · exact g.nd
    · rename_i hx
      exact List.nodup_cons.mpr ⟨hx, g.nd⟩
  · split
    · exact Nat.le_succ_of_le g.len
    · exact Nat.succ_le_succ g.len
end
/-! ### texts ascending -/
abbrev strsD (xs : List Str) : List D := xs.map D.str
def sle (a b : Str) : Bool := decide (a.cps.toList ≤ b.cps.toList)
def slt (a b : Str) : Prop := a.cps.toList < b.cps.toList
theorem cps_inj {a b : Str} (h : a.cps.toList = b.cps.toList) : a = b := by
  cases a; cases b
  congr 1
  exact Array.toList_inj.mp h
theorem sle_slt {a b : Str} (h : sle a b = true) (hn : a ≠ b) : slt a b := by
  have h : a.cps.toList ≤ b.cps.toList := of_decide_eq_true h
  refine Classical.byContradiction fun hc => hn (cps_inj ?_)
  exact List.le_antisymm h (List.not_lt.mp hc)
def ascS (xs : List Str) : List Str := xs.mergeSort sle
section
variable {S : Sc} {env : En} {μ : Mu} {e : Expr} {P : KD} {p p2 q pos q2 : Pos}
end
end Me

/-! Me54: targets within targets; enumerate, zip, items; a dict made to be walked. -/
namespace Me
open PySem PySem.Spec PyProof.Rows L2
section
variable {S : Sc} {env : En} {μ : Mu} {e e2 iter tg : Expr} {P : KD} {PI : KI} {p pos tpos q0 : Pos} {x y z : Str} {d : D}
/-! ### targets -/
/-- (x, (y, z)) -/
def rNest (i j l : Nat) : D → En → En → Prop := fun d env env' => ∃ d1 d2 d3, d = .tup [d1, .tup [d2, d3]] ∧ env' = ((env.set i (some d1)).set j (some d2)).set l (some d3)
/-- ((x, y), z) -/
def rNestL (i j l : Nat) : D → En → En → Prop := fun d env env' => ∃ d1 d2 d3, d = .tup [.tup [d1, d2], d3] ∧ env' = ((env.set i (some d1)).set j (some d2)).set l (some d3)
/-! ### walks whose items are new pairs -/
def enumD (ds : List D) : List D := ds.mapIdx fun i d => .tup [.int (i : Int), d]
def zipD (ds es : List D) : List D := List.zipWith (fun a b => .tup [a, b]) ds es
end
end Me

/-! Me55: cells that are dicts by nested keys (None, tuples): {k: v}, k in d, d[k], d[k] = v. -/
namespace Me
open PySem PySem.Spec PyProof.Rows L2
section
variable {prog : Program} {w : World} {A : Around} {E : Value → Shared → Prop} {s : Shared} {d : Addr} {xs : List NEt} {k : NestedKey} {kv : Value}
theorem DictN.typeIs (hm : DictN w s.heap d xs) : s.TypeIs (.ref d) "dict" := let ⟨o, _, _, ho, hc, _⟩ := hm; ⟨o, ho, hc.1⟩
theorem disp1_n {kx vx : Expr} {env : Env} {pos : Pos} {Q : Value → Shared → Prop} (hu : A.units + 8 < cLine)
    (h : wpAny (model prog w) A (eval kx env) (fun kv s1 => wpAny (model prog w) A (eval vx env) (fun vv s2 => ∃ k, KeyAt s2.heap k kv ∧ DictN w s2.heap s.heap.objs.size [] ∧
      ∀ h', DictN w h' s.heap.objs.size [(k, kv, vv)] → Heap.SameBut s.heap.objs.size s2.heap h' → Q (.ref s.heap.objs.size) { s2 with heap := h', toks := s2.toks + k.draws }) E s1) E
      { s with heap := s.heap.push { cls := .type "dict", data := .dict #[] } }) :
    wpAny (model prog w) A (eval (.Dict [some kx] [vx] pos) env) Q E s := by
  rw [arm_eval_Dict, zip_pairTrees [some kx] [vx] env pos rfl rfl, dictDisplay_pairs _ (by simp [pairTrees]) (by simp [pairTrees])]
  refine wpAny_bind (wpAny_standAt (wpAny_bind ?_))
  unfold subDict
  refine wpAny_bind (wpAny_alloc ?_)
  refine wpAny_bind (wpAny_holding ?_)
  rw [if_pos (by simp [pairTrees])]
  refine wpAny_bind (pairTrees_cons_walk (wpAny_mono h (fun kv s1 h1 => wpAny_mono h1 (fun vv s2 h2 => ?_) fun _ _ e => e) fun _ _ e => e))
  refine pairTrees_nil_walk ?_
  obtain ⟨k, hk, hm, hQ⟩ := h2
  refine wpAny_holding ?_
  refine wpAny_bind ?_
  rw [List.forIn_cons]
  refine wpAny_bind (wpAny_bind (set_n hu hk hm ⟨(fun _ h => nomatch h), List.nodup_nil⟩ (fun h' hm' hs' => wpAny_pure ?_) (Nat.zero_le _)))
  dsimp only
  rw [List.forIn_nil]
  exact wpAny_pure (wpAny_pure (wpAny_pure (wpAny_pure (hQ h' hm' hs'))))
end
mutual
def nk : D → Option NestedKey
  | .non => some .none
  | .bl b => some (.num (if b = true then 1 else 0))
  | .int i => some (.num i)
  | .str x => some (.text x)
  | .tup ds => (nks ds).map .tup
  | _ => none
def nks : List D → Option (List NestedKey)
  | [] => some []
  | d :: ds => match nk d, nks ds with
    | some k, some ks => some (k :: ks)
    | _, _ => none
end
mutual
theorem DV.nk {Γ : Gam} {F : Hp} {as : List Ad} : ∀ {v : V} {d : D} {k : NestedKey}, DV Γ F as v d → Me.nk d = some k → NkV F k v
  | _, _, k, .non, h => by cases h; exact .none
  | _, _, k, .bl b, h => by cases h; exact .bool b
  | _, _, k, .int i, h => by cases h; exact .int i
  | _, _, k, .str x, h => by cases h; exact .text x
  | _, _, k, .tup h1 h2, h => by
    rw [Me.nk] at h
    obtain ⟨ks, e, rfl⟩ := Option.map_eq_some_iff.mp h
    exact .tup h1 (DVs.nks h2 e)
  | _, _, k, .lst _ _, h => by simp [Me.nk] at h
  | _, _, k, .dctK _ _, h => by simp [Me.nk] at h
  | _, _, k, .dctT _ _, h => by simp [Me.nk] at h
  | _, _, k, .ins _ _ _, h => by simp [Me.nk] at h
  | _, _, k, .err0 _ _, h => by simp [Me.nk] at h
  | _, _, k, .err1 _ _ _ _, h => by simp [Me.nk] at h
  | _, _, k, .ty _, h => by simp [Me.nk] at h
  | _, _, k, .cls _, h => by simp [Me.nk] at h
  | _, _, k, .cell _, h => by simp [Me.nk] at h
  | _, _, k, .tpx _ _, h => by simp [Me.nk] at h
theorem DVs.nks {Γ : Gam} {F : Hp} {as : List Ad} : ∀ {vs : List V} {ds : List D} {ks : List NestedKey}, DVs Γ F as vs ds → Me.nks ds = some ks → NkVs F ks vs
  | _, _, ks, .nil, h => by cases h; exact .nil
  | _, _, ks, .cons (d := d) (ds := ds) h1 h2, h => by
    rw [Me.nks] at h
    split at h
    · rename_i k' ks' e1 e2
      cases h
      exact .cons (DV.nk h1 e1) (DVs.nks h2 e2)
    · exact nomatch h
end
mutual
theorem NkV.at {P : Program} {w : World} {F H : Hp} {h : Heap} (ok : HOk P w H h) (sF : Same F H) : ∀ {k : NestedKey} {v : V} {u : Value}, NkV F k v → RelV v u → NestedIs h k u
  | _, _, u, .none, r => by cases r; exact .none
  | _, _, u, .bool b, r => by cases r; exact .bool rfl
  | _, _, u, .int i, r => by obtain ⟨t, rfl⟩ := r; exact .int i t
  | _, _, u, .text x, r => by obtain ⟨t, rfl⟩ := r; exact .text x t
  | _, _, u, .tup (a := a) h1 h2, r => by
    cases r
    obtain ⟨_, its, rel, o, ho, hc, n, hd⟩ := ok a _ (sF _ _ h1)
    exact .tup ho hc hd (NkVs.at ok sF h2 (by simpa using rel))
theorem NkVs.at {P : Program} {w : World} {F H : Hp} {h : Heap} (ok : HOk P w H h) (sF : Same F H) : ∀ {ks : List NestedKey} {vs : List V} {us : List Value}, NkVs F ks vs → Vals vs us → NestedAll h ks us
  | _, _, us, .nil, r => by cases r; exact .nil
  | _, _, us, .cons h1 h2, r => by
    cases r with
    | cons r1 r2 => exact .cons (NkV.at ok sF h1 r1) (NkVs.at ok sF h2 r2)
end
/-- the numbers by keys -/
def gval (kvs : List (NestedKey × Int)) (k : NestedKey) : Option Int := (kvs.find? fun p => decide (p.1 = k)).map (·.2)
def gput (kvs : List (NestedKey × Int)) (k : NestedKey) (i : Int) : List (NestedKey × Int) := if (gval kvs k).isSome then kvs.map (fun p => if p.1 = k then (p.1, i) else p) else kvs ++ [(k, i)]
abbrev relN (x : NV) (u : NEt) : Prop := x.1 = u.1 ∧ RelV x.2.1 u.2.1 ∧ RelV (.int x.2.2) u.2.2
def putV (xs : List NV) (k : NestedKey) (v : V) (i : Int) : List NV := if (gval (xs.map fun x => (x.1, x.2.2)) k).isSome then xs.map (fun x => if x.1 = k then (x.1, x.2.1, i) else x) else xs ++ [(k, v, i)]
theorem relN_keys : ∀ {xs : List NV} {us : List NEt}, Paired relN xs us → us.map (·.1) = xs.map (·.1)
  | _, _, .nil => rfl
  | _, _, .cons r t => by rw [List.map_cons, List.map_cons, relN_keys t, r.1]
theorem gval_mem {kvs : List (NestedKey × Int)} {k : NestedKey} (h : ¬ (gval kvs k).isSome = true) : k ∉ kvs.map (·.1) := fun hm => by
  obtain ⟨p, hp, e⟩ := List.mem_map.mp hm
  refine h ?_
  unfold gval
  rw [Option.isSome_map, List.find?_isSome]
  exact ⟨p, hp, by simp [e]⟩
theorem GKeys.put {F : Hp} {xs : List NV} {k : NestedKey} {v : V} {i : Int} (g : GKeys F xs) (h : NkV F k v) (hh : hdK k = true) (hd : k.depth ≤ 8) : GKeys F (putV xs k v i) := by
  unfold putV
  split
  · refine ⟨fun x hx => ?_, ?_⟩
    · obtain ⟨y, hy, rfl⟩ := List.mem_map.mp hx
      have := g.key y hy
      split <;> exact this
    · have : (xs.map fun x => if x.1 = k then (x.1, x.2.1, i) else x).map (·.1) = xs.map (·.1) := by
        rw [List.map_map]
        refine List.map_congr_left fun x _ => ?_
        simp only [Function.comp]
        split <;> rfl
      rw [this]; exact g.nd
  · rename_i hn
    refine ⟨fun x hx => ?_, ?_⟩
    · rcases List.mem_append.mp hx with z | z
      · exact g.key x z
      · rw [List.mem_singleton.mp z]; exact ⟨h, hh, hd⟩
    · rw [List.map_append, List.nodup_append]
      refine ⟨g.nd, by simp, fun x hx y hy => ?_⟩
      obtain rfl : y = k := by simpa using hy
      have := gval_mem hn
      rw [List.map_map] at this
      exact fun e => this (e ▸ hx)
theorem DictN.stay {w : World} {h h' : Heap} {a : Addr} {us : List NEt} (m : DictN w h a us) (k : ∀ o, h.get? a = some o → h'.get? a = some o) : DictN w h' a us := by
  obtain ⟨o, es, ep, ho, r⟩ := m
  exact ⟨o, es, ep, k _ ho, r⟩
theorem gdo_ok {P : Program} {w : World} {H : Hp} {h : Heap} {a : Addr} {xs : List NV} {us : List NEt} (hs : (a == sysModules) = false) (m : DictN w h a us) (r : Paired relN xs us) : ObjOk P w H h a (GDo w a xs) :=
  ⟨⟨hs, us, m, r⟩, let ⟨o, _, _, ho, _⟩ := m; ⟨o, ho⟩, fun _ _ ⟨e, us', m', r'⟩ k => ⟨e, us', m'.stay k, r'⟩⟩
structure GdAt (S : Sc) (F H : Hp) (h : Heap) (a : Addr) (kvs : List (NestedKey × Int)) (xs : List NV) (us : List NEt) : Prop where
  hH : H a = some (GDo S.X.w a xs)
  gk : GKeys F xs
  eq : xs.map (fun x => (x.1, x.2.2)) = kvs
  sy : (a == sysModules) = false
  m : DictN S.X.w h a us
  r : Paired relN xs us
  ak : AllKey h us
section
variable {S : Sc} {env : En} {μ : Mu} {P : KD} {d d1 d2 d3 : D} {kvs : List (NestedKey × Int)} {k : NestedKey} {pos : Pos} {m : Nat}
theorem NkV.keyAt {S : Sc} {F H : Hp} {h : Heap} {v : V} {u : Value} (ok : HOk S.X.prog S.X.w H h) (sF : Same F H) (x : NkV F k v) (r : RelV v u) (hh : hdK k = true) (hd : k.depth ≤ 8) : KeyAt h k u :=
  ⟨x.at ok sF r, hh, hd⟩
theorem gd_open {pins : List (Addr × Obj)} {s : Shared} {σ : L2.St} {F H : Hp} {as : List Ad} {ad : Ad} (I : Inv S.X pins σ H s) (W : Wd S.Γ F H as μ) (ha : as[m]? = some ad) (hm : μ[m]? = some (.gd S.X.w kvs)) : ∃ xs us, GdAt S F H s.heap ad.a kvs xs us := by
  obtain ⟨_, _, xs, h1, h2, h3⟩ := W.ok m ad _ ha hm
  obtain ⟨⟨hs, us, hm', hr⟩, _⟩ := I.hok _ _ h1
  refine ⟨xs, us, h1, h2, h3, hs, hm', hr, ?_, by rw [relN_keys hr]; exact h2.nd⟩
  have : ∀ {xs : List NV} {us : List NEt}, Paired relN xs us → (∀ x ∈ xs, NkV F x.1 x.2.1 ∧ hdK x.1 = true ∧ x.1.depth ≤ 8) → ∀ u ∈ us, KeyAt s.heap u.1 u.2.1 := fun r => by
    induction r with
    | nil => intro _ u hu; exact nomatch hu
    | @cons x u xs us q t ih =>
      intro hx y hy
      rcases List.mem_cons.mp hy with rfl | hy
      · obtain ⟨g1, g2, g3⟩ := hx x List.mem_cons_self
        rw [← q.1]
        exact g1.keyAt (S := S) I.hok W.sub q.2.1 g2 g3
      · exact ih (fun z hz => hx z (List.mem_cons_of_mem _ hz)) y hy
  exact this hr h2.key
/-- {a: b} -/
theorem e_disp1G {a b : Expr} (h : E S a env (μ ++ [.gd S.X.w []]) fun d1 μ1 => E S b env μ1 fun d2 μ2 => ∃ k i, nk d1 = some k ∧ hdK k = true ∧ k.depth ≤ 8 ∧ d2 = .int i ∧
    μ2[μ.length]? = some (.gd S.X.w []) ∧ P (.cell μ.length) (μ2.set μ.length (.gd S.X.w [(k, i)]))) : E S (.Dict [some a] [b] pos) env μ P := by
  refine ⟨fun pins s σ H Q I ⟨F, as, a1, kk⟩ => disp1_n (by have := S.hu; omega) ?_⟩
  have np := I.hok.fresh (Nat.le_refl s.heap.objs.size)
  have hsy : (s.heap.objs.size == sysModules) = false := beq_eq_false_iff_ne.mpr (Ne.symm (Nat.ne_of_lt I.big))
  have hnew : DictN S.X.w (s.heap.push { cls := .type "dict", data := .dict #[] }) s.heap.objs.size [] := ⟨_, #[], 0, Heap.get?_push_size _ rfl, ⟨rfl, rfl, rfl⟩, rfl, rfl⟩
  have I1 := I.laid (a := s.heap.objs.size) (o := GDo S.X.w s.heap.objs.size []) (h' := s.heap.push { cls := .type "dict", data := .dict #[] }) (t' := s.toks) (fun _ _ q => Heap.get?_push_of_some _ q) (Nat.le_refl _) (gdo_ok hsy hnew .nil)
  obtain ⟨W3, g3⟩ := a1.w.addO (o := GDo S.X.w s.heap.objs.size []) (c := .gd S.X.w []) np fun nF => ⟨rfl, nF, [], upd_same, ⟨(fun _ z => nomatch z), List.nodup_nil⟩, rfl⟩
  have a2 := a1.go g3 W3
  have k2 := kk.go g3
  have had := a1.w.last (⟨s.heap.objs.size, none⟩ : Ad)
  generalize s.heap.objs.size = p at *
  refine thn (h.run pins _ σ _ (fun x H1 => ∃ d1 μ1 F1 as1, At S env μ1 σ H1 F1 as1 ∧ DV S.Γ F1 as1 x d1 ∧ Kv S F1 H1 as1 P Q ∧ as1[μ.length]? = some ⟨p, none⟩ ∧ E S b env μ1 fun d2 μ2 => ∃ k i, nk d1 = some k ∧ hdK k = true ∧ k.depth ≤ 8 ∧ d2 = .int i ∧
    μ2[μ.length]? = some (.gd S.X.w []) ∧ P (.cell μ.length) (μ2.set μ.length (.gd S.X.w [(k, i)]))) I1 ⟨_, _, a2, fun d μ' v F' H' as' hp g W r => ⟨d, μ', F', as', a2.go g W, r, k2.go g, g.at had, hp⟩⟩) fun kv s1 ⟨x, H1, I2, rx, d1, μ1, F1, as1, a3, r1, k3, had1, hb⟩ => ?_
  refine thn (hb.run pins _ σ _ (fun y H2 => ∃ d2 μ2 F2 as2, At S env μ2 σ H2 F2 as2 ∧ DV S.Γ F2 as2 x d1 ∧ DV S.Γ F2 as2 y d2 ∧ Kv S F2 H2 as2 P Q ∧ as2[μ.length]? = some ⟨p, none⟩ ∧ ∃ k i, nk d1 = some k ∧ hdK k = true ∧ k.depth ≤ 8 ∧ d2 = .int i ∧
    μ2[μ.length]? = some (.gd S.X.w []) ∧ P (.cell μ.length) (μ2.set μ.length (.gd S.X.w [(k, i)]))) I2 ⟨_, _, a3, fun d μ' v F' H' as' hp g W r => ⟨d, μ', F', as', a3.go g W, r1.mono g, r, k3.go g, g.at had1, hp⟩⟩) fun vv s2 ⟨y, H2, I3, ry, d2, μ2, F2, as2, a4, r1', r2, k4, had2, k, i, hk, hh, hd, e2, hm, hP⟩ => ?_
  subst e2
  cases r2
  obtain ⟨xs, us, G⟩ := gd_open I3 a4.w had2 hm
  have kx := r1'.nk hk
  have exs : xs = [] := by have := congrArg List.length G.eq; simpa using this
  subst exs
  have eus : us = [] := by have := congrArg List.length (relN_keys G.r); simpa using this
  subst eus
  obtain ⟨nl, nF, _⟩ := a4.w.ok _ _ _ had2 hm
  obtain ⟨W5, g5⟩ := a4.w.setO (o := GDo S.X.w p [(k, x, i)]) (c := .gd S.X.w [(k, i)]) had2 nF ⟨nl, nF, _, upd_same, G.gk.put (xs := []) kx hh hd, rfl⟩
  refine ⟨k, kx.keyAt (S := S) I3.hok a4.w.sub rx hh hd, G.m, fun h' hm' hs' => ⟨.ref p, _, ?_, rfl, k4 _ _ _ _ _ _ hP g5 W5 (.cell (ad := ⟨p, none⟩) (g5.at had2))⟩⟩
  exact d_write I3 (by rw [G.hH]; exact True.intro) hs' (let ⟨o, _, _, ho, _⟩ := hm'; ⟨o, ho⟩) (gdo_ok G.sy hm' (.cons ⟨rfl, rx, ry⟩ .nil))
end
end Me

/-! Me56: the comprehension of a set of texts with two clauses. -/
namespace Me
open PySem PySem.Spec PyProof.Rows L2
section
variable {prog : Program} {w : World} {A : Around} {R : Result → Shared → Prop} {s : Shared} {kx t0 i0 t1 i1 : Expr} {ifs0 ifs1 : List Expr} {scope : Scope} {pos : Pos} {it acc : Value} {D0 : Addr} {env : Env}
end
section
variable {X : Cx} {pins : List (Addr × Obj)} {σ : L2.St} {H : Hp} {s : Shared}
end
section
variable {X : Cx}
def tSc2 (P : Program) (w : World) (wi : TI) (g : TG) (tt : TT) (wi1 : TI) (g1 : TG) (tt1 : TT) (te : TE) (vs vs1 : List Nat) : TE := fun σ H Q => wi σ H fun J H1 => ∀ D0, H1 D0 = none → ∃ Y : Nat → Nat → Hp → Prop, (∃ m, Y 0 m (upd H1 D0 (TSo P w D0 []))) ∧ ∀ i m H, Y i m H →
  (J.stop i H ∧ Q (.ref D0) H) ∨ (J.go i H ∧ ∃ Nx : Hp → Prop, (∀ H', Nx H' → ∃ m', m' < m ∧ Y (i + 1) m' H') ∧ ∀ x H', J.yld i H x H' → g x (wipe σ vs) H' fun σ2 H2 => wipe σ2 vs = wipe σ vs ∧ tt σ2 H2 fun b H3 =>
    if b = true then wi1 σ2 H3 fun J1 H4 => ∃ Y1 : Nat → Nat → Hp → Prop, (∃ m, Y1 0 m H4) ∧ ∀ j k H, Y1 j k H →
      (J1.stop j H ∧ Nx H) ∨ (J1.go j H ∧ ∃ Nx1 : Hp → Prop, (∀ H', Nx1 H' → ∃ k', k' < k ∧ Y1 (j + 1) k' H') ∧ ∀ x H', J1.yld j H x H' → g1 x (wipe σ2 vs1) H' fun σ3 H5 => wipe σ3 vs1 = wipe σ2 vs1 ∧ tt1 σ3 H5 fun b H6 =>
        if b = true then te σ3 H6 fun y H7 => ∃ (k : Str) (l : List Str), y = .str k ∧ H7 D0 = some (TSo P w D0 l) ∧ l.length < 4000 ∧ Nx1 (upd H7 D0 (TSo P w D0 (if k ∈ l then l else k :: l))) else Nx1 H6)
    else Nx H3)
end
end Me

/-! Me57: {e for x in xs for y in ys}, texts; sorted of it. -/
namespace Me
open PySem PySem.Spec PyProof.Rows L2
section
variable {S : Sc} {env : En} {μ : Mu} {kx tg iter tg1 iter1 : Expr} {ifs ifs1 : List Expr} {pos p1 p2 : Pos} {x y : Str} {scope : Scope} {P : KD}
/-- the inner walk; the new dict is the cell n0 -/
structure CmpI (S : Sc) (scope : Scope) (rel1 : D → En → En → Prop) (vs1 : List Nat) (kx : Expr) (ifs1 : List Expr) (env2 : En) (n0 : Nat) (J : Nat → Mu → Prop) (ds1 : List D) (Sx1 : Mu → Prop) (m0 : Mu) (Dn : Mu → Prop) : Prop where
  start : J 0 m0
  stay : ∀ j m, J j m → Sx1 m
  turn : ∀ j d m, ds1[j]? = some d → J j m → ∃ env3 PB, rel1 d (wipeE env2 vs1) env3 ∧ AllB S scope (fun S' => Ts S' ifs1 env3 m PB) ∧
    ∀ q m1, PB q m1 → (q = true → AllB S scope fun S' => E S' kx env3 m1 fun dk m2 => ∃ (x : Str) (acc : List Str), dk = .str x ∧ m2[n0]? = some (.ts S.X.prog S.X.w acc) ∧ acc.length < 4000 ∧ J (j + 1) (m2.set n0 (.ts S.X.prog S.X.w (if x ∈ acc then acc else x :: acc)))) ∧ (q = false → J (j + 1) m1)
  done : ∀ m, J ds1.length m → Dn m
structure CmpO (S : Sc) (scope : Scope) (rel rel1 : D → En → En → Prop) (vs vs1 : List Nat) (kx tg1 iter1 : Expr) (ifs ifs1 : List Expr) (env : En) (n0 : Nat) (I : Nat → Mu → Prop) (ds : List D) (Sx : Mu → Prop) (m0 : Mu) (fin : Mu → Prop) : Prop where
  start : I 0 m0
  stay : ∀ k m, I k m → Sx m
  turn : ∀ k d m, ds[k]? = some d → I k m → ∃ env2 PB, rel d (wipeE env vs) env2 ∧ AllB S scope (fun S' => Ts S' ifs env2 m PB) ∧
    ∀ q m1, PB q m1 → (q = true → ∃ PI, AllB S scope (fun S' => Iter S' tg1 iter1 env2 m1 PI) ∧ ∀ ds1 Sx1 m2, PI ds1 Sx1 m2 → ∃ J, CmpI S scope rel1 vs1 kx ifs1 env2 n0 J ds1 Sx1 m2 (I (k + 1))) ∧ (q = false → I (k + 1) m1)
  done : ∀ m, I ds.length m → fin m
/-! ### nothing else changes -/
def insT (l : List Str) (x : Str) : List Str := if x ∈ l then l else x :: l
def insA (xs : List Str) : List Str := xs.foldl insT []
abbrev scW (S : Sc) (μ : Mu) (xs : List Str) : Mu := μ ++ [.ts S.X.prog S.X.w (insA xs)]
end
end Me

/-! Me58: a walk over a fresh dict, list(dict by plain keys), t[::-1], t.index(x), t * 0, t * 1. -/
namespace RvT
open PySem PySem.Spec PyProof.Rows L2 HT
section
variable {prog : Program} {w : World} {A : Around} {E : Value → Shared → Prop} {s : Shared}
end
end RvT
namespace Me
open PySem PySem.Spec PyProof.Rows L2
section
variable {S : Sc} {env : En} {μ : Mu} {e iter tg o a b : Expr} {pos p p1 p2 p3 apos cpos : Pos} {P : KD} {PI : KI} {d x : D} {ds : List D} {kk : Nat}
/-! ### a tuple of texts whose object is known -/
theorem Wd.tpx {Γ : Gam} {F H : Hp} {as : List Ad} {v : V} {xs : List Str} (W : Wd Γ F H as μ) (r : DV Γ F as v (.tpx xs)) : ∃ a od, v = .ref a ∧ H a = some (.frz od (.tup (xs.map V.str))) ∧ od.dict = none := by
  cases r with
  | tpx h1 h2 => exact ⟨_, _, rfl, W.sub _ _ h1, h2⟩
end
end Me

namespace Lm
open PySem PySem.Spec PyProof.Rows L2 Me
def topS (i : Nat) : Stmt := PySem.Challenge.pw_listnames_k17_zones_refused.main.body.getD i (.Pass ⟨0, 0, 0, 0⟩)
abbrev sPWall : Stmt := topS 0
abbrev nPWall : List Str := ["k"]
abbrev pPWall : List Str := ["k"]
abbrev sPIsInteger : Stmt := topS 10
abbrev nPIsInteger : List Str := ["thing"]
abbrev pPIsInteger : List Str := ["thing"]
theorem scPIsInteger : FnScope nPIsInteger pPIsInteger (defScope sPIsInteger) := ⟨rfl, rfl, rfl, by decide +kernel, rfl, by decide +kernel, by decide +kernel⟩
abbrev sPIsNumber : Stmt := topS 11
abbrev nPIsNumber : List Str := ["many", "thing"]
abbrev pPIsNumber : List Str := ["many", "thing"]
theorem scPIsNumber : FnScope nPIsNumber pPIsNumber (defScope sPIsNumber) := ⟨rfl, rfl, rfl, by decide +kernel, rfl, by decide +kernel, by decide +kernel⟩
abbrev sPIsLabel : Stmt := topS 12
abbrev nPIsLabel : List Str := ["thing", "letter"]
abbrev pPIsLabel : List Str := ["thing"]
theorem scPIsLabel : FnScope nPIsLabel pPIsLabel (defScope sPIsLabel) := ⟨rfl, rfl, rfl, by decide +kernel, rfl, by decide +kernel, by decide +kernel⟩
abbrev sPIsName : Stmt := topS 13
abbrev nPIsName : List Str := ["thing", "label"]
abbrev pPIsName : List Str := ["thing"]
theorem scPIsName : FnScope nPIsName pPIsName (defScope sPIsName) := ⟨rfl, rfl, rfl, by decide +kernel, rfl, by decide +kernel, by decide +kernel⟩
abbrev sPIsFull : Stmt := topS 14
abbrev nPIsFull : List Str := ["thing"]
abbrev pPIsFull : List Str := ["thing"]
theorem scPIsFull : FnScope nPIsFull pPIsFull (defScope sPIsFull) := ⟨rfl, rfl, rfl, by decide +kernel, rfl, by decide +kernel, by decide +kernel⟩
abbrev sPIsValue : Stmt := topS 15
abbrev nPIsValue : List Str := ["thing"]
abbrev pPIsValue : List Str := ["thing"]
theorem scPIsValue : FnScope nPIsValue pPIsValue (defScope sPIsValue) := ⟨rfl, rfl, rfl, by decide +kernel, rfl, by decide +kernel, by decide +kernel⟩
abbrev sPAreValues : Stmt := topS 18
abbrev nPAreValues : List Str := ["thing", "name"]
abbrev pPAreValues : List Str := ["thing"]
theorem scPAreValues : FnScope nPAreValues pPAreValues (defScope sPAreValues) := ⟨rfl, rfl, rfl, by decide +kernel, rfl, by decide +kernel, by decide +kernel⟩
abbrev sZone_init : Stmt := inClass (topS 19) 0
abbrev nZone_init : List Str := ["self", "values", "name"]
abbrev pZone_init : List Str := ["self", "values"]
theorem scZone_init : FnScope nZone_init pZone_init (defScope sZone_init) := ⟨rfl, rfl, rfl, by decide +kernel, rfl, by decide +kernel, by decide +kernel⟩
abbrev sZone_len : Stmt := inClass (topS 19) 1
abbrev nZone_len : List Str := ["self"]
abbrev pZone_len : List Str := ["self"]
abbrev sZone_contains : Stmt := inClass (topS 19) 2
abbrev nZone_contains : List Str := ["self", "name"]
abbrev pZone_contains : List Str := ["self", "name"]
abbrev sZone_getitem : Stmt := inClass (topS 19) 3
abbrev nZone_getitem : List Str := ["self", "name"]
abbrev pZone_getitem : List Str := ["self", "name"]
theorem scZone_getitem : FnScope nZone_getitem pZone_getitem (defScope sZone_getitem) := ⟨rfl, rfl, rfl, by decide +kernel, rfl, by decide +kernel, by decide +kernel⟩
abbrev sZone_setitem : Stmt := inClass (topS 19) 4
abbrev nZone_setitem : List Str := ["self", "name", "value"]
abbrev pZone_setitem : List Str := ["self", "name", "value"]
abbrev sZone_iter : Stmt := inClass (topS 19) 5
abbrev nZone_iter : List Str := ["self"]
abbrev pZone_iter : List Str := ["self"]
abbrev sZone_take : Stmt := inClass (topS 19) 6
abbrev nZone_take : List Str := ["self", "name"]
abbrev pZone_take : List Str := ["self", "name"]
abbrev sZone_names : Stmt := inClass (topS 19) 7
abbrev nZone_names : List Str := ["self"]
abbrev pZone_names : List Str := ["self"]
theorem scZone_names : FnScope nZone_names pZone_names (defScope sZone_names) := ⟨rfl, rfl, rfl, by decide +kernel, rfl, by decide +kernel, by decide +kernel⟩
abbrev sZone_under : Stmt := inClass (topS 19) 8
abbrev nZone_under : List Str := ["self", "top"]
abbrev pZone_under : List Str := ["self", "top"]
abbrev sZone_state : Stmt := inClass (topS 19) 9
abbrev nZone_state : List Str := ["self", "name"]
abbrev pZone_state : List Str := ["self", "name"]
abbrev sZone_copied : Stmt := inClass (topS 19) 10
abbrev nZone_copied : List Str := ["self"]
abbrev pZone_copied : List Str := ["self"]
abbrev sZone_or : Stmt := inClass (topS 19) 11
abbrev nZone_or : List Str := ["self", "other", "rows", "values"]
abbrev pZone_or : List Str := ["self", "other"]
abbrev sZone_ior : Stmt := inClass (topS 19) 12
abbrev nZone_ior : List Str := ["self", "other", "fresh", "name"]
abbrev pZone_ior : List Str := ["self", "other"]
abbrev sZone_and : Stmt := inClass (topS 19) 13
abbrev nZone_and : List Str := ["self", "other", "name"]
abbrev pZone_and : List Str := ["self", "other"]
abbrev sZone_sub : Stmt := inClass (topS 19) 14
abbrev nZone_sub : List Str := ["self", "other", "name"]
abbrev pZone_sub : List Str := ["self", "other"]
abbrev sZone_eq : Stmt := inClass (topS 19) 15
abbrev nZone_eq : List Str := ["self", "other"]
abbrev pZone_eq : List Str := ["self", "other"]
abbrev sBag : Stmt := topS 21
abbrev nBag : List Str := ["_law_script", "_law_cell"]
abbrev pBag : List Str := ["_law_script"]
theorem scBag : FnScope nBag pBag (defScope sBag) := ⟨rfl, rfl, rfl, by decide +kernel, rfl, by decide +kernel, by decide +kernel⟩
abbrev sTake : Stmt := topS 22
abbrev nTake : List Str := ["_law_bag_here", "_law_many", "_law_cell", "_law_more", "_law_drawn"]
abbrev pTake : List Str := ["_law_bag_here", "_law_many"]
theorem scTake : FnScope nTake pTake (defScope sTake) := ⟨rfl, rfl, rfl, by decide +kernel, rfl, by decide +kernel, by decide +kernel⟩
abbrev sAlike : Stmt := topS 23
abbrev nAlike : List Str := ["_law_found", "_law_right"]
abbrev pAlike : List Str := ["_law_found", "_law_right"]
theorem scAlike : FnScope nAlike pAlike (defScope sAlike) := ⟨rfl, rfl, rfl, by decide +kernel, rfl, by decide +kernel, by decide +kernel⟩
abbrev sPick : Stmt := topS 24
abbrev nPick : List Str := ["_law_bag_here", "_law_some"]
abbrev pPick : List Str := ["_law_bag_here", "_law_some"]
theorem scPick : FnScope nPick pPick (defScope sPick) := ⟨rfl, rfl, rfl, by decide +kernel, rfl, by decide +kernel, by decide +kernel⟩
abbrev sLMix : Stmt := topS 25
abbrev nLMix : List Str := ["_law_bag_here", "_law_some", "_law_found", "_law_one"]
abbrev pLMix : List Str := ["_law_bag_here", "_law_some"]
theorem scLMix : FnScope nLMix pLMix (defScope sLMix) := ⟨rfl, rfl, rfl, by decide +kernel, rfl, by decide +kernel, by decide +kernel⟩
abbrev sLabels : Stmt := topS 26
abbrev nLabels : List Str := ["_law_bag_here", "_law_many", "_law_turn", "_law_stem", "_law_letters", "_law_k"]
abbrev pLabels : List Str := ["_law_bag_here", "_law_many"]
theorem scLabels : FnScope nLabels pLabels (defScope sLabels) := ⟨rfl, rfl, rfl, by decide +kernel, rfl, by decide +kernel, by decide +kernel⟩
abbrev sWord : Stmt := topS 27
abbrev nWord : List Str := ["_law_bag_here", "_law_labels_here", "_law_least", "_law_most", "_law_k"]
abbrev pWord : List Str := ["_law_bag_here", "_law_labels_here", "_law_least", "_law_most"]
theorem scWord : FnScope nWord pWord (defScope sWord) := ⟨rfl, rfl, rfl, by decide +kernel, rfl, by decide +kernel, by decide +kernel⟩
abbrev sLNames : Stmt := topS 28
abbrev nLNames : List Str := ["_law_bag_here", "_law_labels_here", "_law_many", "_law_most", "_law_found", "_law_k", "_law_name"]
abbrev pLNames : List Str := ["_law_bag_here", "_law_labels_here", "_law_many", "_law_most"]
theorem scLNames : FnScope nLNames pLNames (defScope sLNames) := ⟨rfl, rfl, rfl, by decide +kernel, rfl, by decide +kernel, by decide +kernel⟩
abbrev sLValues : Stmt := topS 29
abbrev nLValues : List Str := ["_law_bag_here", "_law_names_here", "_law_name"]
abbrev pLValues : List Str := ["_law_bag_here", "_law_names_here"]
theorem scLValues : FnScope nLValues pLValues (defScope sLValues) := ⟨rfl, rfl, rfl, by decide +kernel, rfl, by decide +kernel, by decide +kernel⟩
abbrev sLTried : Stmt := topS 30
abbrev nLTried : List Str := ["_law_thing", "_law_zone", "e", "_law_name"]
abbrev pLTried : List Str := ["_law_thing"]
theorem scLTried : FnScope nLTried pLTried (defScope sLTried) := ⟨rfl, rfl, rfl, by decide +kernel, rfl, by decide +kernel, by decide +kernel⟩
abbrev sLDue : Stmt := topS 31
abbrev nLDue : List Str := ["_law_thing", "_law_letters", "_law_name", "_law_lengths", "_law_label", "_law_sign"]
abbrev pLDue : List Str := ["_law_thing"]
theorem scLDue : FnScope nLDue pLDue (defScope sLDue) := ⟨rfl, rfl, rfl, by decide +kernel, rfl, by decide +kernel, by decide +kernel⟩
abbrev sLaw : Stmt := topS 32
abbrev nLaw : List Str := ["_law_script", "_law_bag_here", "_law_labels_here", "_law_turn", "_law_names_here", "_law_values_here", "_law_way", "_law_odd", "_law_handed", "_law_name", "_law_shown", "_law_again", "_law_deep", "_law_some", "_law_thing"]
abbrev pLaw : List Str := ["_law_script"]
theorem scLaw : FnScope nLaw pLaw (defScope sLaw) := ⟨rfl, rfl, rfl, by decide +kernel, rfl, by decide +kernel, by decide +kernel⟩
end Lm


namespace Lm
open PySem PySem.Spec PyProof.Rows L2 Me
section
local macro_rules | `(tactic| walk_at "ev") => `(tactic| first
  | refine e_var 0 rfl ?_ | refine e_var 1 rfl ?_ | refine e_var 2 rfl ?_ | refine e_var 3 rfl ?_ | refine e_var 4 rfl ?_ | refine e_var 5 rfl ?_ | refine e_var 6 rfl ?_ | refine e_var 7 rfl ?_ | refine e_var 8 rfl ?_ | refine e_var 9 rfl ?_
  | refine e_var 10 rfl ?_ | refine e_var 11 rfl ?_ | refine e_var 12 rfl ?_ | refine e_var 13 rfl ?_ | refine e_var 14 rfl ?_ | refine e_var 15 rfl ?_ | refine e_var 16 rfl ?_ | refine e_var 17 rfl ?_ | refine e_var 18 rfl ?_ | refine e_var 19 rfl ?_ | refine e_var 20 rfl ?_)
local macro_rules | `(tactic| walk_at "ec") => `(tactic| first
  | refine k_len ?_ | refine k_int ?_ | refine k_tuple ?_ | refine k_list ?_ | refine k_repr ?_ | refine k_sorted ?_ | refine k_dict ?_ | refine k_all ?_ | refine k_min ?_ | refine k_abs ?_ | refine k_isinstance ?_)
local macro_rules | `(tactic| walk_at "ee") => `(tactic| first
  | ((with_reducible show Me.E _ (Expr.Name _ _) _ _ _); walk_at "ev")
  | ((with_reducible show Me.E _ (Expr.Constant _ _ _) _ _ _); first | refine e_int ?_ | refine e_str ?_ | refine e_bl ?_ | refine e_non ?_)
  | ((with_reducible show Me.E _ (Expr.BinOp _ _ _ _) _ _ _); refine e_bin ?_)
  | ((with_reducible show Me.E _ (Expr.Compare _ _ _ _) _ _ _); refine e_cmp ?_)
  | ((with_reducible show Me.E _ (Expr.Subscript _ (Expr.Slice _ _ _ _) _) _ _ _); refine e_sl ?_)
  | ((with_reducible show Me.E _ (Expr.Subscript _ _ _) _ _ _); refine e_ix ?_)
  | ((with_reducible show Me.E _ (Expr.Tuple _ _ _) _ _ _); refine e_tup ?_)
  | ((with_reducible show Me.E _ (Expr.UnaryOp UnaryOp.Not _ _) _ _ _); refine e_not ?_)
  | ((with_reducible show Me.E _ (Expr.UnaryOp _ _ _) _ _ _); refine e_un ?_)
  | ((with_reducible show Me.E _ (Expr.IfExp _ _ _ _) _ _ _); refine e_ite ?_)
  | ((with_reducible show Me.E _ (Expr.BoolOp _ _ _) _ _ _); first | refine e_one ?_ | refine e_and ?_ | refine e_or ?_)
  | ((with_reducible show Me.E _ (Expr.Call (Expr.Name _ _) _ _ _) _ _ _); walk_at "ec"))
local macro_rules | `(tactic| walk_at "bb") => `(tactic| first
  | refine b_nil ?_ | refine b_ret ?_ | refine b_setIx ?_ | refine b_expr ?_
  | refine b_set 0 ?_ | refine b_set 1 ?_ | refine b_set 2 ?_ | refine b_set 3 ?_ | refine b_set 4 ?_ | refine b_set 5 ?_ | refine b_set 6 ?_ | refine b_set 7 ?_ | refine b_set 8 ?_ | refine b_set 9 ?_ | refine b_set 10 ?_ | refine b_set 11 ?_ | refine b_set 12 ?_ | refine b_set 13 ?_ | refine b_set 14 ?_ | refine b_set 15 ?_ | refine b_set 16 ?_ | refine b_set 17 ?_ | refine b_set 18 ?_)
local macro_rules | `(tactic| walk_at "oo") => `(tactic| first
  | ((with_reducible show Op2 _ (binaryOp _) _ _ _ _ _); first
    | (with_reducible refine o_add ?_) | (with_reducible refine o_sub ?_)
    | ((with_reducible show Op2 _ (binaryOp Operator.Mod) (D.int _) (D.int _) _ _ _); refine o_mod (by first | decide | assumption | omega) ?_)
    | ((with_reducible show Op2 _ (binaryOp Operator.FloorDiv) (D.int _) (D.int _) _ _ _); refine o_fdiv (by first | decide | assumption | omega) ?_)
    | ((with_reducible show Op2 _ (binaryOp Operator.Mult) (D.int _) (D.int _) _ _ _); first | refine o_mul (Or.inr ⟨by decide, by decide⟩) ?_ | refine o_mul (Or.inl ⟨by decide, by decide⟩) ?_))
  | ((with_reducible show Op2 _ (compareOp _) _ _ _ _ _); first
    | (with_reducible refine o_lt ?_) | (with_reducible refine o_le ?_) | (with_reducible refine o_gt ?_) | (with_reducible refine o_ge ?_) | (with_reducible refine o_eqI ?_) | (with_reducible refine o_neI ?_) | (with_reducible refine o_eqS ?_) | (with_reducible refine o_neS ?_) | (with_reducible refine o_isN ?_) | (with_reducible refine o_isntN ?_))
  | (with_reducible refine o_neg ?_)
  | ((with_reducible show Cl _ (Value.type "int") _ _ _ _); refine c_int ?_)
  | ((with_reducible show Cl _ (Value.builtin "len") _ _ _ _); first | (with_reducible refine c_lenN ?_) | (with_reducible refine c_lenT ?_) | refine c_lenL rfl ?_)
  | ((with_reducible show Ix2 _ (D.tup _) _ _ _ _); refine x_tup rfl ?_)
  | ((with_reducible show Ix2 _ _ _ _ _ _); refine x_lst rfl rfl ?_))
local macro_rules | `(tactic| walk_at "me") => `(tactic| first
  | ((with_reducible show Me.E _ _ _ _ _); walk_at "ee")
  | ((with_reducible show Me.A _ _ _ _ _); first | refine a_cons ?_ | refine a_nil ?_)
  | ((with_reducible show Me.Thn _ _ _ (Out.next _ _)); refine thn_n ?_)
  | ((with_reducible show Me.B _ _ _ _ _); walk_at "bb")
  | ((with_reducible show Me.T _ _ _ _ _); first | refine t_cmp ?_ | refine t_bop ?_ | refine t_not ?_)
  | ((with_reducible show Me.W _ _ _ _ _); first | refine w_and1 ?_ | refine w_or1 ?_ | refine w_and ?_ | refine w_or ?_)
  | ((with_reducible show Me.OI _ _ _ _ _); first | refine o_none ?_ | refine o_some ?_)
  | walk_at "oo"
  | (with_reducible refine asT_i ?_)
  | (with_reducible refine ⟨_, rfl, ?_⟩))
local macro_rules | `(tactic| walk_at "go") => `(tactic| repeat (walk_at "me"))
variable {w : World} {P : Program} {base : Heap} {mg : Str → Option Value} {K : PySem.W.Frag} {Γ : Gam}
set_option maxHeartbeats 4000000 in
theorem ok_take (hK : Γ.K = K) {f : Addr} {fd : FuncData} {k : Nat} (F : Fun K "_law_take" "_law_take" sTake f fd) (hb : Bi mg) : Gd.FnG P w K mg base (L2.CX P w) (k + 1) f fd pTake (spM Γ CTake) := by
  refine okM hK hb F scTake (by rintro _ _ _ _ ⟨b, n, m, rfl, _⟩; rfl) ?_
  rintro cdv A outer s H E hg rm _ _ Q Z ⟨b, n, m, rfl, rfl, gb, hn, hn2, q⟩
  have last : ∀ (x2 x3 : Option D) (z : Bag), z = fill b → B (bodyS P w K mg base Γ hK nTake "_law_take" sTake f cdv A outer s H E (ZR (bagC b :: m) Z) hg scTake.nd hb k rm) ((defBody sTake).drop 1) [some (.cell 0), some (.int n), x2, x3, none] (bagC z :: m)
      (RetR Γ (bagC b :: m) Q) := by
    intro x2 x3 z hz
    refine b_if ?_
    walk_at "go"
    refine ⟨fun h => ?_, fun h => ?_⟩
    · have hz0 : 0 < z.a := of_decide_eq_true h
      walk_at "go"
      refine t_setL (n := 0) rfl (by show 0 < 4; decide) ?_
      walk_at "go"
      refine rt ?_
      have e1 : takeV b n = z.a % n := by unfold takeV; rw [← hz, if_pos hz0]
      have e2 : bagC (takeS b n) = .lst ((bagD z).set 0 (.int (z.a / n))) := by unfold takeS; rw [← hz, if_pos hz0]; rfl
      rw [e1, e2] at q
      exact q
    · have hz0 : ¬ 0 < z.a := of_decide_eq_false h
      refine b_nil ?_
      walk_at "go"
      refine t_setL (n := 1) rfl (by show 1 < 4; decide) ?_
      walk_at "go"
      refine rt ?_
      have e1 : takeV b n = (z.seed * 48271 + 11) % 2147483647 / 64 % n := by unfold takeV; rw [← hz, if_neg hz0]
      have e2 : bagC (takeS b n) = .lst ((bagD z).set 1 (.int ((z.seed * 48271 + 11) % 2147483647))) := by unfold takeS; rw [← hz, if_neg hz0]; rfl
      rw [e1, e2] at q
      exact q
  refine b_if ?_
  walk_at "go"
  refine ⟨fun h => ?_, fun h => ?_⟩
  · have h0 : b.a = 0 := of_decide_eq_true h
    have fin : ∀ c : Int, c = cellOf b → B (bodyS P w K mg base Γ hK nTake "_law_take" sTake f cdv A outer s H E (ZR (bagC b :: m) Z) hg scTake.nd hb k rm) (((match (defBody sTake).head? with | some (.If _ t _ _) => t | _ => [])).drop 2) [some (.cell 0), some (.int n), some (.int c), none, none] (bagC b :: m)
        (Thn (bodyS P w K mg base Γ hK nTake "_law_take" sTake f cdv A outer s H E (ZR (bagC b :: m) Z) hg scTake.nd hb k rm) ((defBody sTake).drop 1) (RetR Γ (bagC b :: m) Q)) := by
      intro c hc
      refine b_augIx ?_
      walk_at "go"
      refine ⟨0, 2, b.i, bagD b, rfl, rfl, rfl, rfl, ?_⟩
      walk_at "go"
      refine ⟨1, bagD b, rfl, rfl, by show 2 < 4; decide, ?_⟩
      refine b_if ?_
      walk_at "go"
      refine ⟨fun h => ?_, fun h => ?_⟩
      · have h1 : 1000000000000000000 ≤ c := of_decide_eq_true h
        walk_at "go"
        refine t_setL (n := 0) rfl (by show 0 < 4; decide) ?_
        walk_at "go"
        refine t_setL (n := 1) rfl (by show 1 < 4; decide) ?_
        walk_at "go"
        refine last _ _ ⟨c, (b.seed * 48271 + (c % 2147483647 + 7919 * (b.i + 1))) % 2147483647, b.i + 1, b.cells⟩ ?_
        unfold fill
        rw [if_pos h0, ← hc, if_pos h1]
      · have h1 : ¬ 1000000000000000000 ≤ c := of_decide_eq_false h
        walk_at "go"
        refine t_setL (n := 1) rfl (by show 1 < 4; decide) ?_
        walk_at "go"
        refine last _ _ ⟨b.a, (b.seed * 48271 + (c % 2147483647 + 7919 * (b.i + 1))) % 2147483647, b.i + 1, b.cells⟩ ?_
        unfold fill
        rw [if_pos h0, ← hc, if_neg h1, h0]
    refine b_set 2 ?_
    refine e_int ?_
    refine b_if ?_
    walk_at "go"
    refine ⟨fun h => ?_, fun h => ?_⟩
    · have h1 : b.i < ((b.cells.map D.int).length : Int) := of_decide_eq_true h
      rw [List.length_map] at h1
      have i0 := gb.i0
      walk_at "go"
      refine x_lst rfl (at_ints i0 h1) ?_
      refine b_nil ?_
      exact fin _ (by unfold cellOf; rw [if_pos h1])
    · have h1 : ¬ b.i < ((b.cells.map D.int).length : Int) := of_decide_eq_false h
      rw [List.length_map] at h1
      refine b_nil ?_
      exact fin 0 (by unfold cellOf; rw [if_neg h1])
  · have h0 : ¬ b.a = 0 := of_decide_eq_false h
    refine b_nil ?_
    exact last none none b (by unfold fill; rw [if_neg h0])
end
end Lm

namespace Lm
open PySem PySem.Spec PyProof.Rows L2 Me
section
local macro_rules | `(tactic| walk_at "ev") => `(tactic| first
  | refine e_var 0 rfl ?_ | refine e_var 1 rfl ?_ | refine e_var 2 rfl ?_ | refine e_var 3 rfl ?_ | refine e_var 4 rfl ?_ | refine e_var 5 rfl ?_ | refine e_var 6 rfl ?_ | refine e_var 7 rfl ?_ | refine e_var 8 rfl ?_ | refine e_var 9 rfl ?_
  | refine e_var 10 rfl ?_ | refine e_var 11 rfl ?_ | refine e_var 12 rfl ?_ | refine e_var 13 rfl ?_ | refine e_var 14 rfl ?_ | refine e_var 15 rfl ?_ | refine e_var 16 rfl ?_ | refine e_var 17 rfl ?_ | refine e_var 18 rfl ?_ | refine e_var 19 rfl ?_ | refine e_var 20 rfl ?_)
local macro_rules | `(tactic| walk_at "ec") => `(tactic| first
  | refine k_len ?_ | refine k_int ?_ | refine k_tuple ?_ | refine k_list ?_ | refine k_repr ?_ | refine k_sorted ?_ | refine k_dict ?_ | refine k_all ?_ | refine k_min ?_ | refine k_abs ?_ | refine k_isinstance ?_)
local macro_rules | `(tactic| walk_at "ee") => `(tactic| first
  | ((with_reducible show Me.E _ (Expr.Name _ _) _ _ _); walk_at "ev")
  | ((with_reducible show Me.E _ (Expr.Constant _ _ _) _ _ _); first | refine e_int ?_ | refine e_str ?_ | refine e_bl ?_ | refine e_non ?_)
  | ((with_reducible show Me.E _ (Expr.BinOp _ _ _ _) _ _ _); refine e_bin ?_)
  | ((with_reducible show Me.E _ (Expr.Compare _ _ _ _) _ _ _); refine e_cmp ?_)
  | ((with_reducible show Me.E _ (Expr.Subscript _ (Expr.Slice _ _ _ _) _) _ _ _); refine e_sl ?_)
  | ((with_reducible show Me.E _ (Expr.Subscript _ _ _) _ _ _); refine e_ix ?_)
  | ((with_reducible show Me.E _ (Expr.Tuple _ _ _) _ _ _); refine e_tup ?_)
  | ((with_reducible show Me.E _ (Expr.UnaryOp UnaryOp.Not _ _) _ _ _); refine e_not ?_)
  | ((with_reducible show Me.E _ (Expr.UnaryOp _ _ _) _ _ _); refine e_un ?_)
  | ((with_reducible show Me.E _ (Expr.IfExp _ _ _ _) _ _ _); refine e_ite ?_)
  | ((with_reducible show Me.E _ (Expr.BoolOp _ _ _) _ _ _); first | refine e_one ?_ | refine e_and ?_ | refine e_or ?_)
  | ((with_reducible show Me.E _ (Expr.Call (Expr.Name _ _) _ _ _) _ _ _); walk_at "ec"))
local macro_rules | `(tactic| walk_at "bb") => `(tactic| first
  | refine b_nil ?_ | refine b_ret ?_ | refine b_setIx ?_ | refine b_expr ?_
  | refine b_set 0 ?_ | refine b_set 1 ?_ | refine b_set 2 ?_ | refine b_set 3 ?_ | refine b_set 4 ?_ | refine b_set 5 ?_ | refine b_set 6 ?_ | refine b_set 7 ?_ | refine b_set 8 ?_ | refine b_set 9 ?_ | refine b_set 10 ?_ | refine b_set 11 ?_ | refine b_set 12 ?_ | refine b_set 13 ?_ | refine b_set 14 ?_ | refine b_set 15 ?_ | refine b_set 16 ?_ | refine b_set 17 ?_ | refine b_set 18 ?_)
local macro_rules | `(tactic| walk_at "oo") => `(tactic| first
  | ((with_reducible show Op2 _ (binaryOp _) _ _ _ _ _); first
    | (with_reducible refine o_add ?_) | (with_reducible refine o_sub ?_)
    | ((with_reducible show Op2 _ (binaryOp Operator.Mod) (D.int _) (D.int _) _ _ _); refine o_mod (by first | decide | assumption | omega) ?_)
    | ((with_reducible show Op2 _ (binaryOp Operator.FloorDiv) (D.int _) (D.int _) _ _ _); refine o_fdiv (by first | decide | assumption | omega) ?_)
    | ((with_reducible show Op2 _ (binaryOp Operator.Mult) (D.int _) (D.int _) _ _ _); first | refine o_mul (Or.inr ⟨by decide, by decide⟩) ?_ | refine o_mul (Or.inl ⟨by decide, by decide⟩) ?_))
  | ((with_reducible show Op2 _ (compareOp _) _ _ _ _ _); first
    | (with_reducible refine o_lt ?_) | (with_reducible refine o_le ?_) | (with_reducible refine o_gt ?_) | (with_reducible refine o_ge ?_) | (with_reducible refine o_eqI ?_) | (with_reducible refine o_neI ?_) | (with_reducible refine o_eqS ?_) | (with_reducible refine o_neS ?_) | (with_reducible refine o_isN ?_) | (with_reducible refine o_isntN ?_))
  | (with_reducible refine o_neg ?_)
  | ((with_reducible show Cl _ (Value.type "int") _ _ _ _); refine c_int ?_)
  | ((with_reducible show Cl _ (Value.builtin "len") _ _ _ _); first | (with_reducible refine c_lenN ?_) | (with_reducible refine c_lenT ?_) | refine c_lenL rfl ?_)
  | ((with_reducible show Ix2 _ (D.tup _) _ _ _ _); refine x_tup rfl ?_)
  | ((with_reducible show Ix2 _ _ _ _ _ _); refine x_lst rfl rfl ?_))
local macro_rules | `(tactic| walk_at "me") => `(tactic| first
  | ((with_reducible show Me.E _ _ _ _ _); walk_at "ee")
  | ((with_reducible show Me.A _ _ _ _ _); first | refine a_cons ?_ | refine a_nil ?_)
  | ((with_reducible show Me.Thn _ _ _ (Out.next _ _)); refine thn_n ?_)
  | ((with_reducible show Me.B _ _ _ _ _); walk_at "bb")
  | ((with_reducible show Me.T _ _ _ _ _); first | refine t_cmp ?_ | refine t_bop ?_ | refine t_not ?_)
  | ((with_reducible show Me.W _ _ _ _ _); first | refine w_and1 ?_ | refine w_or1 ?_ | refine w_and ?_ | refine w_or ?_)
  | ((with_reducible show Me.OI _ _ _ _ _); first | refine o_none ?_ | refine o_some ?_)
  | walk_at "oo"
  | (with_reducible refine asT_i ?_)
  | (with_reducible refine ⟨_, rfl, ?_⟩))
local macro_rules | `(tactic| walk_at "go") => `(tactic| repeat (walk_at "me"))
variable {w : World} {P : Program} {base : Heap} {mg : Str → Option Value} {K : PySem.W.Frag} {Γ : Gam}
theorem ok_alike (hK : Γ.K = K) {f : Addr} {fd : FuncData} {k : Nat} (F : Fun K "_law_alike" "_law_alike" sAlike f fd) (hb : Bi mg) : Gd.FnG P w K mg base (L2.CX P w) (k + 1) f fd pAlike (spM Γ CAlike) := by
  refine okM hK hb F scAlike (by rintro _ _ _ _ ⟨d1, d2, e, h, n, rfl, _⟩; rfl) ?_
  rintro cdv A outer s H E hg rm _ μ Q Z ⟨d1, d2, e, h, n, rfl, v1, v2, o, hh, hn, q⟩
  walk_at "go"
  refine o_eqV v1 v2 ⟨o.shaped hh, o.shaped hh⟩ ?_
  have e1 : eqv e e = true := SeqAt.eqv_refl _ o.lay
  rw [e1]
  have hrp : RpOk e := ⟨o.shw, noDict o.lay, Nat.le_trans o.dep hh, Nat.le_trans o.txt hn⟩
  refine ⟨true, rfl, fun _ => ?_, fun z => nomatch z⟩
  walk_at "go"
  refine c_reprV v1 hrp ?_
  walk_at "go"
  refine c_reprV v2 hrp ?_
  walk_at "go"
  refine rt ?_
  rw [decide_eq_true rfl]
  exact q
theorem ok_pick (hK : Γ.K = K) {f : Addr} {fd : FuncData} {k j : Nat} (F : Fun K "_law_pick" "_law_pick" sPick f fd) (hb : Bi mg) (FT : Fn P w K mg base Γ j "_law_take" CTake) (hj : j ≤ k) : Gd.FnG P w K mg base (L2.CX P w) (k + 1) f fd pPick (spM Γ (CBag APick RPick)) := by
  refine okM hK hb F scPick (by rintro _ _ _ _ ⟨b, m, r, rfl, _, _, ⟨ds, rfl, _⟩, _⟩; rfl) ?_
  rintro cdv A outer s H E hg rm _ _ Q Z ⟨b, m, _, rfl, rfl, gb, ⟨ds, rfl, hd, hl, hr⟩, q⟩
  have hl0 : 0 < ds.length := List.length_pos_iff.mpr hd
  obtain ⟨d, hm, ha⟩ := at_draw (b := b) hd
  walk_at "go"
  refine e_call FT ?_
  walk_at "go"
  refine ctake gb (by omega) ?_
  refine x_lst (ds := ds) rfl (at_i (takeV_nonneg (by omega)) ha) (rt ?_)
  exact q d _ ⟨ds, rfl, hm⟩ (takeS_good gb (by omega))
theorem stems_ok : ∀ d ∈ ([.str "", .str "a", .str "zzzzzzz", .str "aaaaaaa"] : List D), ∃ x, d = .str x ∧ Stem x := by
  intro d hd
  simp only [List.mem_cons, List.not_mem_nil, or_false] at hd
  rcases hd with rfl | rfl | rfl | rfl
  · exact ⟨_, rfl, by decide, by decide⟩
  · exact ⟨_, rfl, by decide, by decide⟩
  · exact ⟨_, rfl, by decide, by decide⟩
  · exact ⟨_, rfl, by decide, by decide⟩
theorem ok_labels (hK : Γ.K = K) {f : Addr} {fd : FuncData} {k j : Nat} (F : Fun K "_law_labels" "_law_labels" sLabels f fd) (hb : Bi mg) (FT : Fn P w K mg base Γ j "_law_take" CTake) (hj : j ≤ k) : Gd.FnG P w K mg base (L2.CX P w) (k + 1) f fd pLabels (spM Γ (CBag ALabels RLabels)) := by
  refine okM hK hb F scLabels (by rintro _ _ _ _ ⟨b, m, r, rfl, _, _, ⟨n, rfl, _⟩, _⟩; rfl) ?_
  rintro cdv A outer s H E hg rm _ _ Q Z ⟨b, m, _, rfl, rfl, gb, ⟨n, rfl, hn⟩, q⟩
  have g1 := takeS_good (n := 26) gb (by decide)
  have g2 := takeS_good (n := 4) g1 (by decide)
  obtain ⟨d, hm, ha⟩ := at_draw (b := takeS b 26) (ds := [.str "", .str "a", .str "zzzzzzz", .str "aaaaaaa"]) (by simp)
  obtain ⟨stem, rfl, hst⟩ := stems_ok d hm
  have t0 := takeV_nonneg (s := b) (n := 26) (by decide)
  refine b_asg (g_tup2 2 3 rfl) ?_
  walk_at "go"
  refine e_call FT ?_
  walk_at "go"
  refine ctake gb (by omega) ?_
  walk_at "go"
  refine e_lst ?_
  walk_at "go"
  refine ⟨by show 4 ≤ sizeLine; decide, ?_⟩
  refine e_call FT ?_
  walk_at "go"
  refine ctake g1 (by omega) ?_
  refine x_lst (ds := [.str "", .str "a", .str "zzzzzzz", .str "aaaaaaa"]) rfl (at_i (takeV_nonneg (by decide)) ha) ?_
  walk_at "go"
  refine ⟨by show 2 ≤ sizeLine; decide, _, ⟨_, _, rfl, rfl⟩, ?_⟩
  walk_at "go"
  refine e_lc 5 rfl (blkOk_by (N := nLabels) (sc := defScope sLabels) (by decide +kernel)) (i_range1 hb.range ?_)
  walk_at "go"
  refine ⟨by omega, fun k acc m' => m' = bagC (takeS (takeS b 26) 4) :: m ∧ ∃ ls : List Str, acc = ls.map D.str ∧ ls.length = k ∧ ∀ x ∈ ls, Lab x ∧ x.length ≤ 8, ?_⟩
  refine ⟨by rw [rangeD_len, sizeLine_eq]; omega, ⟨rfl, [], rfl, rfl, fun x hx => nomatch hx⟩, fun _ _ _ _ => trivial, ?_, ?_⟩
  · rintro i d acc m' hd ⟨rfl, ls, rfl, hl, hls⟩
    have hi := (List.getElem?_eq_some_iff.mp hd).1
    rw [rangeD_len] at hi
    rw [rangeD_get hi] at hd
    obtain rfl := Option.some.inj hd
    obtain ⟨c, hc1, hc2⟩ := letter_at (i := (takeV b 26 + 3 * (0 + (i : Int))) % 26) (Int.emod_nonneg _ (by decide)) (Int.emod_lt_of_pos _ (by decide))
    obtain ⟨mk, ms⟩ := mul_bit hst (n := (0 + (i : Int)) % 2) (Int.emod_nonneg _ (by decide)) (Int.emod_lt_of_pos _ (by decide))
    have lb := lab_of ms hc2
    have ml := ms.len
    refine ⟨_, fun q m => q = true ∧ m = bagC (takeS (takeS b 26) 4) :: _, rfl, fun _ _ _ _ _ => ts_nil ⟨rfl, rfl⟩, ?_⟩
    rintro _ _ ⟨rfl, rfl⟩
    refine ⟨fun _ s H C cl fp => ?_, fun z => nomatch z⟩
    walk_at "go"
    refine o_mulS mk ?_
    walk_at "go"
    refine x_str (by rw [sizeLine_eq]; decide) (at_i (Int.emod_nonneg _ (by decide)) hc1) ?_
    refine o_cat ?_ ⟨rfl, ls ++ [_], by rw [List.map_append]; rfl, by rw [List.length_append, hl]; rfl, fun x hx => ?_⟩
    · rw [sizeLine_eq]
      have : (⟨#[c]⟩ : Str).length = 1 := rfl
      omega
    · rcases List.mem_append.mp hx with z | z
      · exact hls x z
      · rw [List.mem_singleton.mp z]
        exact lb
  · rintro acc m' ⟨rfl, ls, rfl, hl, hls⟩
    rw [rangeD_len] at hl
    refine rt (q _ _ ⟨n, ls, rfl, rfl, by omega, hls⟩ g2)
theorem ok_word (hK : Γ.K = K) {f : Addr} {fd : FuncData} {k j j2 : Nat} (F : Fun K "_law_word" "_law_word" sWord f fd) (hb : Bi mg) (FT : Fn P w K mg base Γ j "_law_take" CTake) (hj : j ≤ k) (FP : Fn P w K mg base Γ j2 "_law_pick" (CBag APick RPick)) (hj2 : j2 ≤ k) :
    Gd.FnG P w K mg base (L2.CX P w) (k + 1) f fd pWord (spM Γ (CBag AWord RWord)) := by
  refine okM hK hb F scWord (by rintro _ _ _ _ ⟨b, m, r, rfl, _, _, ⟨ls, x, y, rfl, _⟩, _⟩; rfl) ?_
  rintro cdv A outer s H E hg rm _ _ Q Z ⟨b, m, _, rfl, rfl, gb, ⟨ls, lo, hi, rfl, hl, hl2, h0, h1, h2⟩, q⟩
  have t0 := takeV_nonneg (s := b) (n := hi - lo + 1) (by omega)
  have t1 := takeV_lt (s := b) (n := hi - lo + 1) (by omega)
  have g1 := takeS_good (n := hi - lo + 1) gb (by omega)
  walk_at "go"
  refine e_lc 4 rfl (blkOk_by (N := nWord) (sc := defScope sWord) (by decide +kernel)) (i_range1 hb.range ?_)
  walk_at "go"
  refine e_call FT ?_
  walk_at "go"
  refine ctake gb (by omega) ?_
  walk_at "go"
  refine ⟨by omega, fun k acc m' => ∃ s', Good s' ∧ m' = bagC s' :: m ∧ ∃ n : List Str, acc = n.map D.str ∧ n.length = k ∧ ∀ x ∈ n, x ∈ ls, ?_⟩
  refine ⟨by rw [rangeD_len, sizeLine_eq]; omega, ⟨_, g1, rfl, [], rfl, rfl, fun x hx => nomatch hx⟩, fun _ _ _ _ => trivial, ?_, ?_⟩
  · rintro i d acc _ hd ⟨s', gs, rfl, n, rfl, hn, hx⟩
    refine ⟨_, fun q m' => q = true ∧ m' = bagC s' :: m, rfl, fun _ _ _ _ _ => ts_nil ⟨rfl, rfl⟩, ?_⟩
    rintro _ _ ⟨rfl, rfl⟩
    refine ⟨fun _ s H C cl fp => ?_, fun z => nomatch z⟩
    refine e_call FP ?_
    walk_at "go"
    refine cbag gs ⟨ls.map D.str, rfl, by simpa using hl, by rw [List.length_map]; omega, refs_strs ls⟩ ?_
    rintro d s2 ⟨ds, e1, e2⟩ g2
    cases e1
    obtain ⟨x, hx1, rfl⟩ := List.mem_map.mp e2
    refine ⟨s2, g2, rfl, n ++ [x], by rw [List.map_append]; rfl, by rw [List.length_append, hn]; rfl, fun y hy => ?_⟩
    rcases List.mem_append.mp hy with z | z
    · exact hx y z
    · rw [List.mem_singleton.mp z]; exact hx1
  · rintro acc _ ⟨s', gs, rfl, n, rfl, hn, hx⟩
    rw [rangeD_len] at hn
    refine a_nil ?_
    refine c_tupL rfl (rt ?_)
    exact q _ _ ⟨ls, lo, hi, n, rfl, rfl, by omega, by omega, hx⟩ gs
end
end Lm

namespace Lm
open PySem PySem.Spec PyProof.Rows L2 Me
abbrev letS : Str := "abcdefghijklmnopqrstuvwxyz"
def rInt : List D → D → Prop := fun ds d => ∃ i, ds = [.int i] ∧ d = .bl true
def rNumb : List D → D → Prop := fun ds d => ∃ m i, ds = [.int m, .int i] ∧ d = .bl (decide (0 ≤ i) && decide (i < m))
def rLabel : List D → D → Prop := fun ds d => ∃ x, ds = [.str x] ∧ L8 x ∧ d = .bl true
def rName' : List D → D → Prop := fun ds d => ∃ n : List Str, ds = [nameD n] ∧ n.length ≤ 1000 ∧ (∀ x ∈ n, L8 x) ∧ d = .bl true
def rFull : List D → D → Prop := fun ds d => ∃ n : List Str, ds = [nameD n] ∧ n.length ≤ 1000 ∧ (∀ x ∈ n, L8 x) ∧ d = .bl (decide (n ≠ []))
def rValue : List D → D → Prop := fun ds d => ∃ i, ds = [.int i] ∧ 0 ≤ i ∧ i < 1000 ∧ d = .bl true
section
local macro_rules | `(tactic| walk_at "ev") => `(tactic| first
  | refine e_var 0 rfl ?_ | refine e_var 1 rfl ?_ | refine e_var 2 rfl ?_ | refine e_var 3 rfl ?_ | refine e_var 4 rfl ?_ | refine e_var 5 rfl ?_ | refine e_var 6 rfl ?_ | refine e_var 7 rfl ?_ | refine e_var 8 rfl ?_ | refine e_var 9 rfl ?_
  | refine e_var 10 rfl ?_ | refine e_var 11 rfl ?_ | refine e_var 12 rfl ?_ | refine e_var 13 rfl ?_ | refine e_var 14 rfl ?_ | refine e_var 15 rfl ?_ | refine e_var 16 rfl ?_ | refine e_var 17 rfl ?_ | refine e_var 18 rfl ?_ | refine e_var 19 rfl ?_ | refine e_var 20 rfl ?_)
local macro_rules | `(tactic| walk_at "ec") => `(tactic| first
  | refine k_len ?_ | refine k_int ?_ | refine k_tuple ?_ | refine k_list ?_ | refine k_repr ?_ | refine k_sorted ?_ | refine k_dict ?_ | refine k_all ?_ | refine k_min ?_ | refine k_abs ?_ | refine k_isinstance ?_)
local macro_rules | `(tactic| walk_at "ee") => `(tactic| first
  | ((with_reducible show Me.E _ (Expr.Name _ _) _ _ _); walk_at "ev")
  | ((with_reducible show Me.E _ (Expr.Constant _ _ _) _ _ _); first | refine e_int ?_ | refine e_str ?_ | refine e_bl ?_ | refine e_non ?_)
  | ((with_reducible show Me.E _ (Expr.BinOp _ _ _ _) _ _ _); refine e_bin ?_)
  | ((with_reducible show Me.E _ (Expr.Compare _ _ _ _) _ _ _); refine e_cmp ?_)
  | ((with_reducible show Me.E _ (Expr.Subscript _ (Expr.Slice _ _ _ _) _) _ _ _); refine e_sl ?_)
  | ((with_reducible show Me.E _ (Expr.Subscript _ _ _) _ _ _); refine e_ix ?_)
  | ((with_reducible show Me.E _ (Expr.Tuple _ _ _) _ _ _); refine e_tup ?_)
  | ((with_reducible show Me.E _ (Expr.UnaryOp UnaryOp.Not _ _) _ _ _); refine e_not ?_)
  | ((with_reducible show Me.E _ (Expr.UnaryOp _ _ _) _ _ _); refine e_un ?_)
  | ((with_reducible show Me.E _ (Expr.IfExp _ _ _ _) _ _ _); refine e_ite ?_)
  | ((with_reducible show Me.E _ (Expr.BoolOp _ _ _) _ _ _); first | refine e_one ?_ | refine e_and ?_ | refine e_or ?_)
  | ((with_reducible show Me.E _ (Expr.Call (Expr.Name _ _) _ _ _) _ _ _); walk_at "ec"))
local macro_rules | `(tactic| walk_at "bb") => `(tactic| first
  | refine b_nil ?_ | refine b_ret ?_ | refine b_setIx ?_ | refine b_expr ?_
  | refine b_set 0 ?_ | refine b_set 1 ?_ | refine b_set 2 ?_ | refine b_set 3 ?_ | refine b_set 4 ?_ | refine b_set 5 ?_ | refine b_set 6 ?_ | refine b_set 7 ?_ | refine b_set 8 ?_ | refine b_set 9 ?_ | refine b_set 10 ?_ | refine b_set 11 ?_ | refine b_set 12 ?_ | refine b_set 13 ?_ | refine b_set 14 ?_ | refine b_set 15 ?_ | refine b_set 16 ?_ | refine b_set 17 ?_ | refine b_set 18 ?_)
local macro_rules | `(tactic| walk_at "oo") => `(tactic| first
  | ((with_reducible show Op2 _ (binaryOp _) _ _ _ _ _); first
    | (with_reducible refine o_add ?_) | (with_reducible refine o_sub ?_)
    | ((with_reducible show Op2 _ (binaryOp Operator.Mod) (D.int _) (D.int _) _ _ _); refine o_mod (by first | decide | assumption | omega) ?_)
    | ((with_reducible show Op2 _ (binaryOp Operator.FloorDiv) (D.int _) (D.int _) _ _ _); refine o_fdiv (by first | decide | assumption | omega) ?_)
    | ((with_reducible show Op2 _ (binaryOp Operator.Mult) (D.int _) (D.int _) _ _ _); first | refine o_mul (Or.inr ⟨by decide, by decide⟩) ?_ | refine o_mul (Or.inl ⟨by decide, by decide⟩) ?_))
  | ((with_reducible show Op2 _ (compareOp _) _ _ _ _ _); first
    | (with_reducible refine o_lt ?_) | (with_reducible refine o_le ?_) | (with_reducible refine o_gt ?_) | (with_reducible refine o_ge ?_) | (with_reducible refine o_eqI ?_) | (with_reducible refine o_neI ?_) | (with_reducible refine o_eqS ?_) | (with_reducible refine o_neS ?_) | (with_reducible refine o_isN ?_) | (with_reducible refine o_isntN ?_))
  | (with_reducible refine o_neg ?_)
  | ((with_reducible show Cl _ (Value.type "int") _ _ _ _); refine c_int ?_)
  | ((with_reducible show Cl _ (Value.builtin "len") _ _ _ _); first | (with_reducible refine c_lenN ?_) | (with_reducible refine c_lenT ?_) | refine c_lenL rfl ?_)
  | ((with_reducible show Ix2 _ (D.tup _) _ _ _ _); refine x_tup rfl ?_)
  | ((with_reducible show Ix2 _ _ _ _ _ _); refine x_lst rfl rfl ?_))
local macro_rules | `(tactic| walk_at "me") => `(tactic| first
  | ((with_reducible show Me.E _ _ _ _ _); walk_at "ee")
  | ((with_reducible show Me.A _ _ _ _ _); first | refine a_cons ?_ | refine a_nil ?_)
  | ((with_reducible show Me.Thn _ _ _ (Out.next _ _)); refine thn_n ?_)
  | ((with_reducible show Me.B _ _ _ _ _); walk_at "bb")
  | ((with_reducible show Me.T _ _ _ _ _); first | refine t_cmp ?_ | refine t_bop ?_ | refine t_not ?_)
  | ((with_reducible show Me.W _ _ _ _ _); first | refine w_and1 ?_ | refine w_or1 ?_ | refine w_and ?_ | refine w_or ?_)
  | ((with_reducible show Me.OI _ _ _ _ _); first | refine o_none ?_ | refine o_some ?_)
  | walk_at "oo"
  | (with_reducible refine asT_i ?_)
  | (with_reducible refine ⟨_, rfl, ?_⟩))
local macro_rules | `(tactic| walk_at "go") => `(tactic| repeat (walk_at "me"))
variable {w : World} {P : Program} {base : Heap} {mg : Str → Option Value} {K : PySem.W.Frag} {Γ : Gam}
theorem ok_label (hK : Γ.K = K) {f : Addr} {fd : FuncData} {k : Nat} {t1 t2 : Tok} (F : Fun K "is_label" "is_label" sPIsLabel f fd) (hb : Bi mg) (hL : mg "LETTERS" = some (.str letS t1)) (hM : mg "MOST_LETTERS" = some (.int 8 t2)) : Gd.FnG P w K mg base (L2.CX P w) (k + 1) f fd pPIsLabel (spM Γ (CPure rLabel)) := by
  refine okM hK hb F scPIsLabel (by rintro _ _ _ _ ⟨d, ⟨x, rfl, _⟩, _⟩; rfl) ?_
  rintro cdv A outer s H E hg rm _ μ Q Z ⟨_, ⟨x, rfl, ⟨hl, h8⟩, rfl⟩, q⟩
  refine b_if ?_
  walk_at "go"
  refine t_val ?_
  walk_at "go"
  refine e_ty hb.str Me.boot_str ?_
  walk_at "go"
  refine c_isi (ty_dat (Tn := "str") rfl) rfl (q := true) (by rfl) ?_
  walk_at "go"
  refine ⟨(fun z => nomatch z), fun _ => ?_⟩
  refine w_or1 (t_not (t_chLe ?_))
  walk_at "go"
  refine c_lenS (by rw [sizeLine_eq]; omega) ?_
  have hp := hl.pos
  refine ⟨1, _, rfl, rfl, fun _ => ?_, fun z => absurd (by omega) z⟩
  refine e_gint hM ?_
  refine ⟨8, rfl, ?_⟩
  rw [decide_eq_true (show (x.length : Int) ≤ 8 by omega)]
  refine ⟨(fun z => nomatch z), fun _ => ?_⟩
  walk_at "go"
  refine e_lc 1 rfl (blkOk_by (N := nPIsLabel) (sc := defScope sPIsLabel) (by decide +kernel)) (i_str ?_)
  walk_at "go"
  refine Comp.filt (fun _ => false) (by unfold signsD; rw [List.length_map, sizeLine_eq]; have : x.cps.toList.length = x.length := rfl; omega) trivial (fun i d hd => ?_) ?_
  · unfold signsD at hd
    rw [List.getElem?_map] at hd
    obtain ⟨c, hc, rfl⟩ := Option.map_eq_some_iff.mp hd
    have hcl := hl.let_ c (List.mem_of_getElem? hc)
    refine ⟨_, rfl, fun s H C cl fp => ?_, fun z => nomatch z⟩
    walk_at "go"
    refine e_gstr hL ?_
    refine o_notInS ?_
    have : c ∈ letS.cps.toList := by
      have h26 : ∀ c : Nat, c < 123 → 97 ≤ c → c ∈ letS.cps.toList := by decide
      exact h26 c (by omega) hcl.1
    rw [decide_eq_true this]
    exact asT_i ⟨rfl, rfl⟩
  · rw [show (signsD x).filter (fun _ => false) = [] by simp]
    refine e_lst (a_nil ⟨Nat.zero_le _, ?_⟩)
    refine o_eq (e1 := .lst []) (e2 := .lst []) rfl rfl ⟨rfl, rfl, rfl, rfl⟩ (rt ?_)
    exact q
theorem ok_name (hK : Γ.K = K) {f : Addr} {fd : FuncData} {k j : Nat} (F : Fun K "is_name" "is_name" sPIsName f fd) (hb : Bi mg) (FL : Fn P w K mg base Γ j "is_label" (CPure rLabel)) (hj : j ≤ k) : Gd.FnG P w K mg base (L2.CX P w) (k + 1) f fd pPIsName (spM Γ (CPure rName')) := by
  refine okM hK hb F scPIsName (by rintro _ _ _ _ ⟨d, ⟨n, rfl, _⟩, _⟩; rfl) ?_
  rintro cdv A outer s H E hg rm _ μ Q Z ⟨_, ⟨n, rfl, hl, h8, rfl⟩, q⟩
  walk_at "go"
  refine e_ty hb.tuple Me.boot_tuple ?_
  walk_at "go"
  refine c_isi (ty_dat (Tn := "tuple") rfl) rfl (q := true) (by rfl) ⟨true, rfl, fun _ => ?_, fun z => nomatch z⟩
  walk_at "go"
  refine e_lc 1 rfl (blkOk_by (N := nPIsName) (sc := defScope sPIsName) (by decide +kernel)) (i_tup ?_)
  walk_at "go"
  refine Comp.filt (fun _ => false) (by rw [List.length_map, sizeLine_eq]; omega) trivial (fun i d hd => ?_) ?_
  · rw [List.getElem?_map] at hd
    obtain ⟨x, hx, rfl⟩ := Option.map_eq_some_iff.mp hd
    refine ⟨_, rfl, fun s H C cl fp => ?_, fun z => nomatch z⟩
    walk_at "go"
    refine t_val (e_call FL ?_)
    walk_at "go"
    exact ⟨_, ⟨x, rfl, h8 x (List.mem_of_getElem? hx), rfl⟩, asT_i ⟨rfl, rfl⟩⟩
  · rw [show (n.map D.str).filter (fun _ => false) = [] by simp]
    refine e_lst (a_nil ⟨Nat.zero_le _, ?_⟩)
    refine o_eq (e1 := .lst []) (e2 := .lst []) rfl rfl ⟨rfl, rfl, rfl, rfl⟩ (rt ?_)
    exact q
theorem ok_full (hK : Γ.K = K) {f : Addr} {fd : FuncData} {k j : Nat} (F : Fun K "is_full" "is_full" sPIsFull f fd) (hb : Bi mg) (FN : Fn P w K mg base Γ j "is_name" (CPure rName')) (hj : j ≤ k) : Gd.FnG P w K mg base (L2.CX P w) (k + 1) f fd pPIsFull (spM Γ (CPure rFull)) := by
  refine okM hK hb F scPIsFull (by rintro _ _ _ _ ⟨d, ⟨n, rfl, _⟩, _⟩; rfl) ?_
  rintro cdv A outer s H E hg rm _ μ Q Z ⟨_, ⟨n, rfl, hl, h8, rfl⟩, q⟩
  walk_at "go"
  refine e_call FN ?_
  walk_at "go"
  refine ⟨_, ⟨n, rfl, hl, h8, rfl⟩, true, rfl, fun _ => ?_, fun z => nomatch z⟩
  walk_at "go"
  refine rt ?_
  rw [show decide ((0 : Int) < (n.length : Int)) = decide (n ≠ []) by cases n <;> simp]
  exact q
end
end Lm

namespace Lm
open PySem PySem.Spec PyProof.Rows L2 Me
def CVals : Ct := fun args μ P _ => ∃ (j : Nat) (ps : Zp), args = [.cell j] ∧ μ[j]? = some (.dct true none (zk ps)) ∧ Zn ps 10 30 ∧ P (.bl true) μ
abbrev zfs (j : Nat) : List (Str × D) := [("its_values", .cell j)]
/-- Zone(values): the new cell is the last, its dict behind it -/
def CZInit : Ct := fun args μ P _ => ∃ (i j : Nat) (ps : Zp), args = [.cell i, .cell j] ∧ μ[j]? = some (.dct true none (zk ps)) ∧ μ[i]? = some (.ins "Zone" []) ∧ Zn ps 10 30 ∧ P .non ((μ ++ [Cell.dct true none (zk ps)]).set i (.ins "Zone" (zfs μ.length)))
/-- a zone of these pairs -/
def ZoneAt (μ : Mu) (d : D) (ps : Zp) : Prop := ∃ i j, d = .cell i ∧ μ[i]? = some (.ins "Zone" (zfs j)) ∧ μ[j]? = some (.dct true none (zk ps)) ∧ Zn ps 10 30
section
local macro_rules | `(tactic| walk_at "ev") => `(tactic| first
  | refine e_var 0 rfl ?_ | refine e_var 1 rfl ?_ | refine e_var 2 rfl ?_ | refine e_var 3 rfl ?_ | refine e_var 4 rfl ?_ | refine e_var 5 rfl ?_ | refine e_var 6 rfl ?_ | refine e_var 7 rfl ?_ | refine e_var 8 rfl ?_ | refine e_var 9 rfl ?_
  | refine e_var 10 rfl ?_ | refine e_var 11 rfl ?_ | refine e_var 12 rfl ?_ | refine e_var 13 rfl ?_ | refine e_var 14 rfl ?_ | refine e_var 15 rfl ?_ | refine e_var 16 rfl ?_ | refine e_var 17 rfl ?_ | refine e_var 18 rfl ?_ | refine e_var 19 rfl ?_ | refine e_var 20 rfl ?_)
local macro_rules | `(tactic| walk_at "ec") => `(tactic| first
  | refine k_len ?_ | refine k_int ?_ | refine k_tuple ?_ | refine k_list ?_ | refine k_repr ?_ | refine k_sorted ?_ | refine k_dict ?_ | refine k_all ?_ | refine k_min ?_ | refine k_abs ?_ | refine k_isinstance ?_)
local macro_rules | `(tactic| walk_at "ee") => `(tactic| first
  | ((with_reducible show Me.E _ (Expr.Name _ _) _ _ _); walk_at "ev")
  | ((with_reducible show Me.E _ (Expr.Constant _ _ _) _ _ _); first | refine e_int ?_ | refine e_str ?_ | refine e_bl ?_ | refine e_non ?_)
  | ((with_reducible show Me.E _ (Expr.BinOp _ _ _ _) _ _ _); refine e_bin ?_)
  | ((with_reducible show Me.E _ (Expr.Compare _ _ _ _) _ _ _); refine e_cmp ?_)
  | ((with_reducible show Me.E _ (Expr.Subscript _ (Expr.Slice _ _ _ _) _) _ _ _); refine e_sl ?_)
  | ((with_reducible show Me.E _ (Expr.Subscript _ _ _) _ _ _); refine e_ix ?_)
  | ((with_reducible show Me.E _ (Expr.Tuple _ _ _) _ _ _); refine e_tup ?_)
  | ((with_reducible show Me.E _ (Expr.UnaryOp UnaryOp.Not _ _) _ _ _); refine e_not ?_)
  | ((with_reducible show Me.E _ (Expr.UnaryOp _ _ _) _ _ _); refine e_un ?_)
  | ((with_reducible show Me.E _ (Expr.IfExp _ _ _ _) _ _ _); refine e_ite ?_)
  | ((with_reducible show Me.E _ (Expr.BoolOp _ _ _) _ _ _); first | refine e_one ?_ | refine e_and ?_ | refine e_or ?_)
  | ((with_reducible show Me.E _ (Expr.Call (Expr.Name _ _) _ _ _) _ _ _); walk_at "ec"))
local macro_rules | `(tactic| walk_at "bb") => `(tactic| first
  | refine b_nil ?_ | refine b_ret ?_ | refine b_setIx ?_ | refine b_expr ?_
  | refine b_set 0 ?_ | refine b_set 1 ?_ | refine b_set 2 ?_ | refine b_set 3 ?_ | refine b_set 4 ?_ | refine b_set 5 ?_ | refine b_set 6 ?_ | refine b_set 7 ?_ | refine b_set 8 ?_ | refine b_set 9 ?_ | refine b_set 10 ?_ | refine b_set 11 ?_ | refine b_set 12 ?_ | refine b_set 13 ?_ | refine b_set 14 ?_ | refine b_set 15 ?_ | refine b_set 16 ?_ | refine b_set 17 ?_ | refine b_set 18 ?_)
local macro_rules | `(tactic| walk_at "oo") => `(tactic| first
  | ((with_reducible show Op2 _ (binaryOp _) _ _ _ _ _); first
    | (with_reducible refine o_add ?_) | (with_reducible refine o_sub ?_)
    | ((with_reducible show Op2 _ (binaryOp Operator.Mod) (D.int _) (D.int _) _ _ _); refine o_mod (by first | decide | assumption | omega) ?_)
    | ((with_reducible show Op2 _ (binaryOp Operator.FloorDiv) (D.int _) (D.int _) _ _ _); refine o_fdiv (by first | decide | assumption | omega) ?_)
    | ((with_reducible show Op2 _ (binaryOp Operator.Mult) (D.int _) (D.int _) _ _ _); first | refine o_mul (Or.inr ⟨by decide, by decide⟩) ?_ | refine o_mul (Or.inl ⟨by decide, by decide⟩) ?_))
  | ((with_reducible show Op2 _ (compareOp _) _ _ _ _ _); first
    | (with_reducible refine o_lt ?_) | (with_reducible refine o_le ?_) | (with_reducible refine o_gt ?_) | (with_reducible refine o_ge ?_) | (with_reducible refine o_eqI ?_) | (with_reducible refine o_neI ?_) | (with_reducible refine o_eqS ?_) | (with_reducible refine o_neS ?_) | (with_reducible refine o_isN ?_) | (with_reducible refine o_isntN ?_))
  | (with_reducible refine o_neg ?_)
  | ((with_reducible show Cl _ (Value.type "int") _ _ _ _); refine c_int ?_)
  | ((with_reducible show Cl _ (Value.builtin "len") _ _ _ _); first | (with_reducible refine c_lenN ?_) | (with_reducible refine c_lenT ?_) | refine c_lenL rfl ?_)
  | ((with_reducible show Ix2 _ (D.tup _) _ _ _ _); refine x_tup rfl ?_)
  | ((with_reducible show Ix2 _ _ _ _ _ _); refine x_lst rfl rfl ?_))
local macro_rules | `(tactic| walk_at "me") => `(tactic| first
  | ((with_reducible show Me.E _ _ _ _ _); walk_at "ee")
  | ((with_reducible show Me.A _ _ _ _ _); first | refine a_cons ?_ | refine a_nil ?_)
  | ((with_reducible show Me.Thn _ _ _ (Out.next _ _)); refine thn_n ?_)
  | ((with_reducible show Me.B _ _ _ _ _); walk_at "bb")
  | ((with_reducible show Me.T _ _ _ _ _); first | refine t_cmp ?_ | refine t_bop ?_ | refine t_not ?_)
  | ((with_reducible show Me.W _ _ _ _ _); first | refine w_and1 ?_ | refine w_or1 ?_ | refine w_and ?_ | refine w_or ?_)
  | ((with_reducible show Me.OI _ _ _ _ _); first | refine o_none ?_ | refine o_some ?_)
  | walk_at "oo"
  | (with_reducible refine asT_i ?_)
  | (with_reducible refine ⟨_, rfl, ?_⟩))
local macro_rules | `(tactic| walk_at "go") => `(tactic| repeat (walk_at "me"))
variable {w : World} {P : Program} {base : Heap} {mg : Str → Option Value} {K : PySem.W.Frag} {Γ : Gam}
end
end Lm

namespace Lm
open PySem PySem.Spec PyProof.Rows L2 Me
def CZHas : Ct := fun args μ P _ => ∃ d n ps, args = [d, nameD n] ∧ ZoneAt μ d ps ∧ N8 n 10 ∧ P (.bl (decide (n ∈ keysZ ps))) μ
def CZSet : Ct := fun args μ P _ => ∃ (i j : Nat) (n : List Str) (v : Int) (ps : Zp), args = [.cell i, nameD n, .int v] ∧ μ[i]? = some (.ins "Zone" (zfs j)) ∧ μ[j]? = some (.dct true none (zk ps)) ∧ Zn ps 10 29 ∧ N8 n 10 ∧ n ≠ [] ∧ 0 ≤ v ∧ v < 1000 ∧ P .non (μ.set j (.dct true none (zk (putZ ps n v))))
def CZNames : Ct := fun args μ P _ => ∃ d ps, args = [d] ∧ ZoneAt μ d ps ∧ P (.lst (nmsD (asc (keysZ ps)))) μ
def CZEq : Ct := fun args μ P _ => ∃ d1 d2 ps qs, args = [d1, d2] ∧ ZoneAt μ d1 ps ∧ ZoneAt μ d2 qs ∧ P (.bl (sameZ ps qs)) μ
section
local macro_rules | `(tactic| walk_at "ev") => `(tactic| first
  | refine e_var 0 rfl ?_ | refine e_var 1 rfl ?_ | refine e_var 2 rfl ?_ | refine e_var 3 rfl ?_ | refine e_var 4 rfl ?_ | refine e_var 5 rfl ?_ | refine e_var 6 rfl ?_ | refine e_var 7 rfl ?_ | refine e_var 8 rfl ?_ | refine e_var 9 rfl ?_
  | refine e_var 10 rfl ?_ | refine e_var 11 rfl ?_ | refine e_var 12 rfl ?_ | refine e_var 13 rfl ?_ | refine e_var 14 rfl ?_ | refine e_var 15 rfl ?_ | refine e_var 16 rfl ?_ | refine e_var 17 rfl ?_ | refine e_var 18 rfl ?_ | refine e_var 19 rfl ?_ | refine e_var 20 rfl ?_)
local macro_rules | `(tactic| walk_at "ec") => `(tactic| first
  | refine k_len ?_ | refine k_int ?_ | refine k_tuple ?_ | refine k_list ?_ | refine k_repr ?_ | refine k_sorted ?_ | refine k_dict ?_ | refine k_all ?_ | refine k_min ?_ | refine k_abs ?_ | refine k_isinstance ?_)
local macro_rules | `(tactic| walk_at "ee") => `(tactic| first
  | ((with_reducible show Me.E _ (Expr.Name _ _) _ _ _); walk_at "ev")
  | ((with_reducible show Me.E _ (Expr.Constant _ _ _) _ _ _); first | refine e_int ?_ | refine e_str ?_ | refine e_bl ?_ | refine e_non ?_)
  | ((with_reducible show Me.E _ (Expr.BinOp _ _ _ _) _ _ _); refine e_bin ?_)
  | ((with_reducible show Me.E _ (Expr.Compare _ _ _ _) _ _ _); refine e_cmp ?_)
  | ((with_reducible show Me.E _ (Expr.Subscript _ (Expr.Slice _ _ _ _) _) _ _ _); refine e_sl ?_)
  | ((with_reducible show Me.E _ (Expr.Subscript _ _ _) _ _ _); refine e_ix ?_)
  | ((with_reducible show Me.E _ (Expr.Tuple _ _ _) _ _ _); refine e_tup ?_)
  | ((with_reducible show Me.E _ (Expr.UnaryOp UnaryOp.Not _ _) _ _ _); refine e_not ?_)
  | ((with_reducible show Me.E _ (Expr.UnaryOp _ _ _) _ _ _); refine e_un ?_)
  | ((with_reducible show Me.E _ (Expr.IfExp _ _ _ _) _ _ _); refine e_ite ?_)
  | ((with_reducible show Me.E _ (Expr.BoolOp _ _ _) _ _ _); first | refine e_one ?_ | refine e_and ?_ | refine e_or ?_)
  | ((with_reducible show Me.E _ (Expr.Call (Expr.Name _ _) _ _ _) _ _ _); walk_at "ec"))
local macro_rules | `(tactic| walk_at "bb") => `(tactic| first
  | refine b_nil ?_ | refine b_ret ?_ | refine b_setIx ?_ | refine b_expr ?_
  | refine b_set 0 ?_ | refine b_set 1 ?_ | refine b_set 2 ?_ | refine b_set 3 ?_ | refine b_set 4 ?_ | refine b_set 5 ?_ | refine b_set 6 ?_ | refine b_set 7 ?_ | refine b_set 8 ?_ | refine b_set 9 ?_ | refine b_set 10 ?_ | refine b_set 11 ?_ | refine b_set 12 ?_ | refine b_set 13 ?_ | refine b_set 14 ?_ | refine b_set 15 ?_ | refine b_set 16 ?_ | refine b_set 17 ?_ | refine b_set 18 ?_)
local macro_rules | `(tactic| walk_at "oo") => `(tactic| first
  | ((with_reducible show Op2 _ (binaryOp _) _ _ _ _ _); first
    | (with_reducible refine o_add ?_) | (with_reducible refine o_sub ?_)
    | ((with_reducible show Op2 _ (binaryOp Operator.Mod) (D.int _) (D.int _) _ _ _); refine o_mod (by first | decide | assumption | omega) ?_)
    | ((with_reducible show Op2 _ (binaryOp Operator.FloorDiv) (D.int _) (D.int _) _ _ _); refine o_fdiv (by first | decide | assumption | omega) ?_)
    | ((with_reducible show Op2 _ (binaryOp Operator.Mult) (D.int _) (D.int _) _ _ _); first | refine o_mul (Or.inr ⟨by decide, by decide⟩) ?_ | refine o_mul (Or.inl ⟨by decide, by decide⟩) ?_))
  | ((with_reducible show Op2 _ (compareOp _) _ _ _ _ _); first
    | (with_reducible refine o_lt ?_) | (with_reducible refine o_le ?_) | (with_reducible refine o_gt ?_) | (with_reducible refine o_ge ?_) | (with_reducible refine o_eqI ?_) | (with_reducible refine o_neI ?_) | (with_reducible refine o_eqS ?_) | (with_reducible refine o_neS ?_) | (with_reducible refine o_isN ?_) | (with_reducible refine o_isntN ?_))
  | (with_reducible refine o_neg ?_)
  | ((with_reducible show Cl _ (Value.type "int") _ _ _ _); refine c_int ?_)
  | ((with_reducible show Cl _ (Value.builtin "len") _ _ _ _); first | (with_reducible refine c_lenN ?_) | (with_reducible refine c_lenT ?_) | refine c_lenL rfl ?_)
  | ((with_reducible show Ix2 _ (D.tup _) _ _ _ _); refine x_tup rfl ?_)
  | ((with_reducible show Ix2 _ _ _ _ _ _); refine x_lst rfl rfl ?_))
local macro_rules | `(tactic| walk_at "me") => `(tactic| first
  | ((with_reducible show Me.E _ _ _ _ _); walk_at "ee")
  | ((with_reducible show Me.A _ _ _ _ _); first | refine a_cons ?_ | refine a_nil ?_)
  | ((with_reducible show Me.Thn _ _ _ (Out.next _ _)); refine thn_n ?_)
  | ((with_reducible show Me.B _ _ _ _ _); walk_at "bb")
  | ((with_reducible show Me.T _ _ _ _ _); first | refine t_cmp ?_ | refine t_bop ?_ | refine t_not ?_)
  | ((with_reducible show Me.W _ _ _ _ _); first | refine w_and1 ?_ | refine w_or1 ?_ | refine w_and ?_ | refine w_or ?_)
  | ((with_reducible show Me.OI _ _ _ _ _); first | refine o_none ?_ | refine o_some ?_)
  | walk_at "oo"
  | (with_reducible refine asT_i ?_)
  | (with_reducible refine ⟨_, rfl, ?_⟩))
local macro_rules | `(tactic| walk_at "go") => `(tactic| repeat (walk_at "me"))
variable {w : World} {P : Program} {base : Heap} {mg : Str → Option Value} {K : PySem.W.Frag} {Γ : Gam}
theorem ok_znames (hK : Γ.K = K) {f : Addr} {fd : FuncData} {k : Nat} (F : Fun K "names" "Zone.names" sZone_names f fd) (hb : Bi mg) (hf : Fld Γ "Zone" "its_values") :
    Gd.FnG P w K mg base (L2.CX P w) (k + 1) f fd pZone_names (spM Γ CZNames) := by
  refine okM hK hb F scZone_names (by rintro _ _ _ _ ⟨d, ps, rfl, _⟩; rfl) ?_
  rintro cdv A outer s H E hg rm _ μ Q Z ⟨_, ps, rfl, ⟨i, j, rfl, hi, hj, hz⟩, q⟩
  walk_at "go"
  refine e_fld "Zone" hf ?_
  walk_at "go"
  refine ⟨_, _, vw_ins hi, rfl, ?_⟩
  walk_at "go"
  refine c_lstDT (vw_dct hj) rfl (.l ?_)
  rw [zk_keys]
  walk_at "go"
  refine c_sortedL (ds := nmsD (keysZ ps)) rfl (hz.ns.srtOk (by decide)) (.l (rt ?_))
  rw [srt_nms]
  exact q
end
end Lm

/-! Me59: a cell is returned, the cells ahead of it dropped. -/
namespace Me
open PySem PySem.Spec PyProof.Rows L2
section
variable {Γ : Gam} {F H : Hp} {as : List Ad} {μ μ0 ext : Mu} {j : Nat} {c : Cell} {P : KD}
end
end Me

/-! Me60: l == [], l != [], whatever the list holds. -/
namespace Me
open PySem PySem.Spec PyProof.Rows L2
section
variable {S : Sc} {env : En} {μ : Mu} {P : KD} {d1 d2 : D} {ds : List D}
theorem o_neNil (h1 : vw μ d1 = .lst ds) (h2 : vw μ d2 = .lst []) (k : P (.bl (!ds.isEmpty)) μ) : Op2 S (compareOp .NotEq) d1 d2 env μ P := by
  intro pins s σ H x y v u Q F as I rx ry a r1 r2 kk
  obtain ⟨p, vs, rfl, hp, dv⟩ := a.w.lst r1 h1
  obtain ⟨q, ws, rfl, hq, dw⟩ := a.w.lst r2 h2
  cases rx
  cases ry
  cases dw
  obtain ⟨its, rv, pl, hz⟩ := I.list (.inl (.inl hp))
  obtain ⟨its2, rv2, pl2, hz2⟩ := I.list (.inl (.inl hq))
  cases rv2
  have hu : S.X.A.units < cLine := by have := S.hu; omega
  have fin : EP S.X pins σ Q (.bool (!ds.isEmpty)) s := ⟨.bl _, H, I, rfl, kk.now a.w k (.bl _)⟩
  cases dv with
  | nil =>
    cases rv
    exact SeqAt.RcNeAt.lists (e := fun _ => true) pl.isList pl2.isList rfl hu (fun j h1 _ => absurd h1 (Nat.not_lt_zero _)) _ _ _ _ fin
  | cons c cs =>
    cases rv with
    | cons r rs => exact SeqAt.RcNeAt.lists_lengths pl.isList pl2.isList (by simp) hu _ _ _ _ fin
theorem o_eqNil (h1 : vw μ d1 = .lst ds) (h2 : vw μ d2 = .lst []) (k : P (.bl ds.isEmpty) μ) : Op2 S (compareOp .Eq) d1 d2 env μ P := by
  intro pins s σ H x y v u Q F as I rx ry a r1 r2 kk
  obtain ⟨p, vs, rfl, hp, dv⟩ := a.w.lst r1 h1
  obtain ⟨q, ws, rfl, hq, dw⟩ := a.w.lst r2 h2
  cases rx
  cases ry
  cases dw
  obtain ⟨its, rv, pl, hz⟩ := I.list (.inl (.inl hp))
  obtain ⟨its2, rv2, pl2, hz2⟩ := I.list (.inl (.inl hq))
  cases rv2
  have hu : S.X.A.units < cLine := by have := S.hu; omega
  have fin : EP S.X pins σ Q (.bool ds.isEmpty) s := ⟨.bl _, H, I, rfl, kk.now a.w k (.bl _)⟩
  cases dv with
  | nil =>
    cases rv
    exact SeqAt.RcAt.lists (e := fun _ => true) pl.isList pl2.isList rfl hu (fun j h1 _ => absurd h1 (Nat.not_lt_zero _)) _ _ _ _ fin
  | cons c cs =>
    cases rv with
    | cons r rs => exact SeqAt.RcAt.lists_lengths pl.isList pl2.isList (by simp) hu _ _ _ _ fin
end
end Me

/-! Me61: bool(x) of an instance with its own __bool__. -/
namespace Me
open PySem PySem.Spec PyProof.Rows L2
section
variable {S : Sc} {env : En} {μ : Mu} {P : KD} {d : D} {c : String} {k : Nat} {C : Ct}
end
end Me

set_option maxHeartbeats 4000000
/-! Me62: tuple * 0, tuple * 1. -/
namespace L2
open PySem PySem.Spec PyProof.Rows
theorem tuple_mul1 (l : Addr) (items : Array Value) (n : Nat) (dd : Option Addr) (sl : Array (Option Value)) (u : Tok) :
    Meets (Builtin.«tuple.__mul__» ⟨[.ref l, .int 1 u], []⟩) (fun _ R s => s.heap.get? l = some { cls := .type "tuple", dict := dd, data := .seq items n, slots := sl } ∧
      R (.ok (.ret (Value.ref l))) s) :=
  .of_wp fun prog w A R s h => by
    obtain ⟨hp, g, d, tk, os⟩ := s
    obtain ⟨hl, h⟩ := h
    have f1 := AutoSeq1.idx_int
    wp_walk using wpAny_loadPart' hl
    repeat (first
      | (refine wpAny_ite_false (decide_eq_false (by decide)) ?_; wp_walk using wpAny_loadPart' hl)
      | (refine wpAny_ite_true (decide_eq_true (by simp)) ?_; wp_walk using wpAny_loadPart' hl))
    exact ⟨_, rfl, h⟩
theorem tuple_mul0 (l : Addr) (items : Array Value) (n : Nat) (dd : Option Addr) (sl : Array (Option Value)) (u : Tok) (hi : items.isEmpty = false) :
    Meets (Builtin.«tuple.__mul__» ⟨[.ref l, .int 0 u], []⟩) (fun _ R s => s.heap.get? l = some { cls := .type "tuple", dict := dd, data := .seq items n, slots := sl } ∧
      R (.ok (.ret (Value.ref s.heap.objs.size))) { s with heap := s.heap.push { cls := Value.type "tuple", data := Data.seq #[] }, toks := s.toks }) :=
  .of_wp fun prog w A R s h => by
    obtain ⟨hp, g, d, tk, os⟩ := s
    obtain ⟨hl, h⟩ := h
    have f1 := AutoSeq1.idx_int
    wp_walk using wpAny_loadPart' hl
    exact ⟨_, rfl, h⟩
def rRepT1 (K : PySem.W.Frag) : R2 := fun x y H Q => ∃ l xs, x = .ref l ∧ y = .int 1 ∧ SqT K H l xs ∧ Q (.ref l) H
def rRepT0 (K : PySem.W.Frag) : R2 := fun x y H Q => ∃ l xs, x = .ref l ∧ y = .int 0 ∧ SqT K H l xs ∧ xs ≠ [] ∧ ∀ p, H p = none → Q (.ref p) (upd H p (.tup []))
section
variable {X : Cx}
theorem op_repT1 : OpR X (binaryOp .Mult) (rRepT1 X.K) := by
  intro pins s σ H x y v u Q I rx ry h
  obtain ⟨l, xs, rfl, rfl, hT, q⟩ := h
  cases rx
  obtain ⟨t, rfl⟩ := ry
  obtain ⟨its, r, ⟨⟨cls, dd, data, sl⟩, ho, hc, n, hd⟩, hs⟩ := I.tuple hT
  simp only at hc hd
  subst hc hd
  refine wpAny_binaryOp_repeat_ref (T := "tuple") (U := "int") (by decide) ⟨_, ho, rfl⟩ (fun s' => typeIs_int s' 1 t) noFill_tuple_mul F.fills_int_mul F.slot_int_rmul repeat_tuple F.slot_int_index.lookup
    (call_meets F.slot_int_rmul (typeIs_int s 1 t) F.entry_int_rmul (F.args_int_rmul_2 _ _) (int_rmul_tuple 1 t l its.toArray n dd sl)
      ⟨ho, rfl, ⟨_, ho, rfl⟩, call_meets F.slot_tuple_mul ⟨_, ho, rfl⟩ F.entry_tuple_mul (F.args_tuple_mul_2 _ _) (tuple_mul1 l its.toArray n dd sl t) ⟨ho, ?_⟩⟩)
  exact ⟨.ref l, H, I, rfl, q⟩
theorem op_repT0 : OpR X (binaryOp .Mult) (rRepT0 X.K) := by
  intro pins s σ H x y v u Q I rx ry h
  obtain ⟨l, xs, rfl, rfl, hT, hne, q⟩ := h
  cases rx
  obtain ⟨t, rfl⟩ := ry
  obtain ⟨its, r, ⟨⟨cls, dd, data, sl⟩, ho, hc, n, hd⟩, hs⟩ := I.tuple hT
  simp only at hc hd
  subst hc hd
  have hle : its.length = xs.length := r.length.symm
  have hn : its ≠ [] := fun e => hne (by
    rw [e] at hle
    exact List.eq_nil_of_length_eq_zero hle.symm)
  have hi : its.toArray.isEmpty = false := by
    cases its with
    | nil => exact absurd rfl hn
    | cons a b => rfl
  refine wpAny_binaryOp_repeat_ref (T := "tuple") (U := "int") (by decide) ⟨_, ho, rfl⟩ (fun s' => typeIs_int s' 0 t) noFill_tuple_mul F.fills_int_mul F.slot_int_rmul repeat_tuple F.slot_int_index.lookup
    (call_meets F.slot_int_rmul (typeIs_int s 0 t) F.entry_int_rmul (F.args_int_rmul_2 _ _) (int_rmul_tuple 0 t l its.toArray n dd sl)
      ⟨ho, rfl, ⟨_, ho, rfl⟩, call_meets F.slot_tuple_mul ⟨_, ho, rfl⟩ F.entry_tuple_mul (F.args_tuple_mul_2 _ _) (tuple_mul0 l its.toArray n dd sl t hi) ⟨ho, ?_⟩⟩)
  refine ⟨.ref s.heap.objs.size, _, I.laid (t' := s.toks) (o := .tup []) (fun b ob q => Heap.get?_push_of_some _ q) (Nat.le_refl _) ?_, rfl, q _ (I.hok.fresh (Nat.le_refl _))⟩
  exact ⟨Nat.zero_le _, [], .nil, IsTup.new _ _⟩
end
end L2
namespace Me
open PySem PySem.Spec PyProof.Rows L2
section
variable {S : Sc} {env : En} {μ : Mu} {ds : List D} {i : Int} {P : KD}
/-- tuple * number, of any few -/
theorem o_mulTA (h0 : ds ≠ []) (hi : 0 ≤ i ∧ i ≤ 1000) (hl : ds.length ≤ 1000) (k : P (.tup (List.replicate i.toNat ds).flatten) μ) : Op2 S (binaryOp .Mult) (.tup ds) (.int i) env μ P := by
  by_cases h2 : 2 ≤ i
  · exact o_mulT h0 ⟨h2, hi.2⟩ hl k
  · by_cases h1 : i = 1
    · subst h1
      refine Op2.of op_repT1 fun F H as x y Q W r1 r2 kk => ?_
      have r1' := r1
      obtain ⟨a, vs, rfl, e1, q1⟩ := r1.tupV
      cases r2
      refine ⟨a, vs, rfl, rfl, .inl (.inl (W.sub _ _ e1)), kk.now W (by simpa using k) r1'⟩
    · obtain rfl : i = 0 := by omega
      refine Op2.of op_repT0 fun F H as x y Q W r1 r2 kk => ?_
      obtain ⟨a, vs, rfl, e1, q1⟩ := r1.tupV
      cases r2
      exact ⟨a, vs, rfl, rfl, .inl (.inl (W.sub _ _ e1)), fun z => h0 (by subst z; cases q1; rfl), fun p np => kk.newT W np k .nil⟩
end
end Me

/-! Me63: f(). -/
namespace Me
open PySem PySem.Spec PyProof.Rows L2
section
variable {S : Sc} {env : En} {μ : Mu} {P : KD} {pos p0 : Pos} {x : Str} {k : Nat} {C : Ct}
end
end Me

/-! Me64: a text not in texts; list.extend, list.pop. -/
namespace Me
open PySem PySem.Spec PyProof.Rows L2
section
variable {S : Sc} {env : En} {μ : Mu} {P : KD} {o e : Expr} {cpos apos : Pos}
end
end Me

/-! Me65: list(text). -/
namespace Me
open PySem PySem.Spec PyProof.Rows L2
section
variable {prog : Program} {w : World} {A : Around} {E : Value → Shared → Prop} {s : Shared} {x : Str} {t : Tok}
end
section
variable {S : Sc} {env : En} {μ : Mu} {P : KD} {x : Str}
end
end Me

/-! Me66: o ⊕ t with o's own method and a tuple t; ~o with o's own __invert__. -/
namespace Me
open PySem PySem.Spec PyProof.Rows L2
section
variable {prog : Program} {w : World} {A : Around} {E : Value → Shared → Prop} {s : Shared} {K : PySem.W.Frag} {x C L f : Addr} {h₀ : Heap} {m : Str → Option Value} {ox : Obj} {od : Option Obj}
end
section
variable {S : Sc} {env : En} {μ : Mu} {c : String} {P : KD} {d d1 d2 : D} {k : Nat} {C : Ct} {ds : List D}
end
end Me

/-! Me67: a module's own tuple, known by a name of Γ. -/
namespace Me
open PySem PySem.Spec PyProof.Rows L2
/-- the name c of Γ stands for a module's tuple of these -/
def KTab (Γ : Gam) (c : String) (ds : List D) : Prop := ∃ (a : Addr) (vs : List V) (o : Obj) (its : Array Value) (n : Nat), Γ.cls c = some a ∧ Γ.K.lookup a = some o ∧ o.cls = .type "tuple" ∧ o.data = .seq its n ∧ its.size ≤ sizeLine ∧ Vals vs its.toList ∧ ∀ F as, DVs Γ F as vs ds
section
variable {S : Sc} {env : En} {μ : Mu} {P : KD} {c : String} {ds : List D} {d : D} {i : Int}
end
/-- a table of two rows -/
structure Tab2 (Γ : Gam) (c c0 c1 : String) (tb : Bool → Bool → Bool) : Prop where
  t : KTab Γ c [.cls c0, .cls c1]
  t0 : KTab Γ c0 [.bl (tb false false), .bl (tb false true)]
  t1 : KTab Γ c1 [.bl (tb true false), .bl (tb true true)]
theorem KTab.two {Γ : Gam} {c : String} {a : Addr} {o : Obj} {n : Nat} {x y : Value} {u v : V} {d e : D} (h1 : Γ.cls c = some a) (h2 : Γ.K.lookup a = some o) (h3 : o.cls = .type "tuple") (h4 : o.data = .seq #[x, y] n) (hx : RelV u x) (hy : RelV v y) (hd : ∀ F as, DV Γ F as u d) (he : ∀ F as, DV Γ F as v e) : KTab Γ c [d, e] :=
  ⟨a, [u, v], o, #[x, y], n, h1, h2, h3, h4, by rw [sizeLine_eq]; show 2 ≤ _; decide, .cons hx (.cons hy .nil), fun F as => .cons (hd F as) (.cons (he F as) .nil)⟩
end Me

/-! Me68: {k: v}, a dict by texts or ints with one item. -/
namespace Me
open PySem PySem.Spec PyProof.Rows L2
section
variable {S : Sc} {env : En} {μ : Mu} {P : KD} {pos : Pos}
theorem e_disp1K {a b : Expr} (h : E S a env (μ ++ [.dct false none []]) fun d1 μ1 => E S b env μ1 fun d2 μ2 => ∃ k, asKey d1 = some k ∧ μ2[μ.length]? = some (.dct false none []) ∧ P (.cell μ.length) (μ2.set μ.length (.dct false none [(.k k, d2)]))) : E S (.Dict [some a] [b] pos) env μ P := by
  refine PE.imp (pe_disp (trs := [(yE S.X a, yE S.X b)]) (pps_cons pe_y pe_y pps_nil) rfl rfl (by simp) (by simp)) fun σ H Q ⟨F, as, a1, kk⟩ p np => ?_
  obtain ⟨W3, g3⟩ := a1.w.addO (o := .dK []) (c := .dct false none []) np fun nF => ⟨nF, [], upd_same, .nil⟩
  have a2 := a1.go g3 W3
  have k2 := kk.go g3
  have had := a1.w.last (⟨p, none⟩ : Ad)
  refine ⟨_, h, _, _, a2, fun d1 μ1 x F1 H1 as1 hb g1 W1 r1 => ⟨_, hb, _, _, a2.go g1 W1, fun d2 μ2 y F2 H2 as2 q g2 W2 r2 => ?_⟩⟩
  obtain ⟨k, hk, hm, hP⟩ := q
  have had2 := g2.at (g1.at had)
  obtain ⟨nF, vs, h1, h2⟩ := W2.ok _ _ _ had2 hm
  cases h2
  obtain ⟨W5, g5⟩ := W2.setD (o := .dK [(k, y)]) (kvs := [(.k k, d2)]) had2 hm fun nF => ⟨nF, _, upd_same, .cons r2 .nil⟩
  refine ⟨h1, [(k, y)], ?_, by simp, ?_⟩
  · rw [(r1.mono g2).key hk]; rfl
  · exact k2 _ _ _ _ _ _ hP (g1.trans (g2.trans g5)) W5 (.cell (ad := ⟨p, none⟩) (g5.at had2))
end
end Me

/-! Me71: d == {} and d != {}; xs[-2::-1]. -/
namespace Me
open PySem PySem.Spec PyProof.Rows L2
section
variable {prog : Program} {w : World} {K : Type} [DecidableEq K] {knd : KeyKind prog w K} {A : Around} {s : Shared}
end
section
variable {S : Sc} {env : En} {μ : Mu} {P : KD} {d1 d2 : D} {kvs : List (DK × D)}
end
/-! ### xs[-2::-1] -/
section
variable {X : Cx}
def tBackL (K : PySem.W.Frag) (te : TE) : TE := fun σ H Q => te σ H fun x H1 => ∃ a xs, x = .ref a ∧ SqL K H1 a xs ∧ ∀ p, H1 p = none → Q (.ref p) (upd H1 p (.lst xs.dropLast.reverse))
end
section
variable {S : Sc} {env : En} {μ : Mu} {e : Expr} {P : KD} {k1 k2 : Nat} {p1 p2 p3 p4 p5 pos : Pos}
end
end Me

/-! Me72: len(set(list of numbers)). -/
namespace Me
open PySem PySem.Spec PyProof.Rows L2
section
variable {S : Sc} {env : En} {μ : Mu} {e : Expr} {P : KD} {p p2 q pos : Pos}
/-- how many numbers a list has, each once -/
def metN (ns : List Int) : Nat := (PyProof.Rows.firstMet (fun i => ns.getD i 0) ns.length).length
end
end Me

/-! Me73: names compared, the least name of a list; a dict by numbers sorted. -/
namespace Me
open PySem PySem.Spec PyProof.Rows L2
/-- the order of names -/
def nlt : List Str → List Str → Bool
  | [], [] => false
  | [], _ :: _ => true
  | _ :: _, [] => false
  | x :: xs, y :: ys => if x = y then nlt xs ys else decide (x.cps.toList < y.cps.toList)
theorem py_strsT (n : List Str) : D.pys (n.map D.str) = n.map PyData.str := by rw [pys_map, List.map_map]; rfl
theorem dataLt_strsT : ∀ n m : List Str, PyProof.Rows.lexLt itemOrd (PySem.W.keyToksAll (n.map PyData.str)) (PySem.W.keyToksAll (m.map PyData.str)) = nlt n m
  | [], [] => by decide
  | [], y :: m => rfl
  | x :: n, [] => rfl
  | x :: n, y :: m => by
    have al : PySem.W.alike (PyData.str x) (PyData.str y) = true := rfl
    have ev : PyData.eqv (.str x) (.str y) = decide (x = y) := by
      show (x == y) = _
      by_cases h : x = y
      · subst h; simp
      · simp [h]
    rw [List.map_cons, List.map_cons]
    unfold nlt
    by_cases h : x = y
    · rw [if_pos h, PySem.W.dataLt_all_yes al (by rw [ev, decide_eq_true h]), dataLt_strsT n m]
    · rw [if_neg h, PySem.W.dataLt_all_no al (by rw [ev, decide_eq_false h]), PySem.W.dataLt_str]
theorem dataLt_nm (n m : List Str) : PySem.W.dataLt (D.tup (n.map D.str)).py (D.tup (m.map D.str)).py = nlt n m := by
  show PySem.W.dataLt (.tuple (D.pys (n.map D.str))) (.tuple (D.pys (m.map D.str))) = _
  rw [py_strsT, py_strsT, PySem.W.dataLt_tuple, dataLt_strsT]
def rLtD (K : PySem.W.Frag) : R2 := fun x y H Q => ∃ d e, Dp K H x d ∧ Dp K H y e ∧ PySem.W.alike d e = true ∧ d ≠ .none ∧ d.depth ≤ 60 ∧ Q (.bl (PySem.W.dataLt d e)) H
section
variable {S : Sc} {env : En} {μ : Mu} {d : D} {P : KD}
end
section
variable {S : Sc} {env : En} {μ : Mu} {d : D} {P : KD} {kvs : List (DK × D)}
end
/-! ### min of a list of names -/
def minN : List Str → List (List Str) → List Str
  | x, [] => x
  | x, y :: ys => minN (if nlt y x then y else x) ys
section
variable {S : Sc} {env : En} {μ : Mu} {d : D} {P : KD}
end
end Me

/-! Me74: a tuple of texts whose object is known, walked. -/
namespace Me
open PySem PySem.Spec PyProof.Rows L2
section
variable {S : Sc} {env : En} {μ : Mu} {iter tg : Expr} {PI : List D → (Mu → Prop) → Mu → Prop}
end
end Me

/-! Me75: enumerate(tuple). -/
namespace Me
open PySem PySem.Spec PyProof.Rows L2
section
variable {prog : Program} {w : World} {A : Around} {E : Value → Shared → Prop} {s : Shared}
end
/-- the tuple at a, each item in a new pair -/
def IteT (K : PySem.W.Frag) (a : Addr) : It :=
  ⟨fun i H => ∃ (xs : List V) (x : V), SqT K H a xs ∧ xs[i]? = some x, fun i H v H' => ∃ T x, v = .ref T ∧ H T = none ∧ H' = upd H T (.tup [.int (i : Nat), x]) ∧ ∀ xs, SqT K H a xs → xs[i]? = some x, fun i H => ∃ xs : List V, SqT K H a xs ∧ xs.length = i⟩
def iEnumT (K : PySem.W.Frag) (ta : TA) : L2.TI := fun σ H R => ta σ H fun vs H1 => ∃ a xs, vs = [.ref a] ∧ SqT K H1 a xs ∧ R (IteT K a) H1
section
variable {S : Sc} {env : En} {μ : Mu} {e : Expr} {PI : KI} {p pos tpos : Pos}
end
end Me

/-! Me76: d.get(k, x); for k, v in d.items(). -/
namespace Me
open PySem PySem.Spec PyProof.Rows L2
section
variable {S : Sc} {env : En} {μ : Mu} {o e f : Expr} {apos cpos tpos : Pos} {P : KD} {PI : KI}
def itemsD (kvs : List (DK × D)) : List D := kvs.map fun p => .tup [dkD p.1, p.2]
end
end Me

/-! MA1: machines that read columns; lists without repetitions. -/
namespace Mc
/-! ### the first places of things -/
section
variable {α β : Type} [DecidableEq α] [DecidableEq β]
def ddA (acc xs : List α) : List α := xs.foldl (fun acc x => if x ∈ acc then acc else acc ++ [x]) acc
def dd (xs : List α) : List α := ddA [] xs
theorem ddA_nil (acc : List α) : ddA acc [] = acc := rfl
theorem ddA_cons (acc : List α) (x : α) (xs : List α) : ddA acc (x :: xs) = ddA (if x ∈ acc then acc else acc ++ [x]) xs := rfl
theorem mem_ddA : ∀ (xs acc : List α) (x : α), x ∈ ddA acc xs ↔ x ∈ acc ∨ x ∈ xs
  | [], acc, x => by simp [ddA_nil]
  | y :: ys, acc, x => by
    rw [ddA_cons, mem_ddA ys]
    split
    · rename_i h
      constructor
      · rintro (z | z)
        · exact .inl z
        · exact .inr (List.mem_cons_of_mem _ z)
      · rintro (z | z)
        · exact .inl z
        · rcases List.mem_cons.mp z with rfl | z
          · exact .inl h
          · exact .inr z
    · rw [List.mem_append, List.mem_singleton, List.mem_cons]
      constructor
      · rintro ((z | z) | z)
        · exact .inl z
        · exact .inr (.inl z)
        · exact .inr (.inr z)
      · rintro (z | z | z)
        · exact .inl (.inl z)
        · exact .inl (.inr z)
        · exact .inr z
theorem mem_dd {xs : List α} {x : α} : x ∈ dd xs ↔ x ∈ xs := by
  rw [dd, mem_ddA]
  simp
theorem nodup_ddA : ∀ (xs acc : List α), acc.Nodup → (ddA acc xs).Nodup
  | [], acc, h => h
  | y :: ys, acc, h => by
    rw [ddA_cons]
    refine nodup_ddA ys _ ?_
    split
    · exact h
    · rename_i hy
      rw [List.nodup_append]
      refine ⟨h, by simp, fun a ha b hb => ?_⟩
      rw [List.mem_singleton.mp hb]
      rintro rfl
      exact hy ha
theorem nodup_dd (xs : List α) : (dd xs).Nodup := nodup_ddA xs [] List.nodup_nil
theorem ddA_len : ∀ (xs acc : List α), (ddA acc xs).length ≤ acc.length + xs.length
  | [], acc => Nat.le_refl _
  | y :: ys, acc => by
    rw [ddA_cons]
    refine Nat.le_trans (ddA_len ys _) ?_
    split
    · simp only [List.length_cons]; omega
    · simp only [List.length_cons, List.length_append, List.length_nil]; omega
theorem dd_len (xs : List α) : (dd xs).length ≤ xs.length := by
  have := ddA_len xs []
  simpa [dd] using this
theorem ddA_map (f : α → β) : ∀ (xs acc : List α), (∀ a ∈ acc ++ xs, ∀ b ∈ acc ++ xs, f a = f b → a = b) → ddA (acc.map f) (xs.map f) = (ddA acc xs).map f
  | [], acc, h => rfl
  | y :: ys, acc, h => by
    rw [List.map_cons, ddA_cons, ddA_cons]
    have e : (if f y ∈ acc.map f then acc.map f else acc.map f ++ [f y]) = (if y ∈ acc then acc else acc ++ [y]).map f := by
      by_cases hy : y ∈ acc
      · rw [if_pos hy, if_pos (List.mem_map_of_mem hy)]
      · rw [if_neg hy, if_neg, List.map_append]
        · rfl
        · intro z
          obtain ⟨a, ha, e⟩ := List.mem_map.mp z
          exact hy (h a (List.mem_append_left _ ha) y (List.mem_append_right _ (List.mem_cons_self ..)) e ▸ ha)
    rw [e]
    refine ddA_map f ys _ fun a ha b hb => h a ?_ b ?_
    · have : ∀ c, c ∈ (if y ∈ acc then acc else acc ++ [y]) ++ ys → c ∈ acc ++ y :: ys := fun c hc => by
        split at hc
        · rcases List.mem_append.mp hc with z | z
          · exact List.mem_append_left _ z
          · exact List.mem_append_right _ (List.mem_cons_of_mem _ z)
        · simpa using hc
      exact this a ha
    · have : ∀ c, c ∈ (if y ∈ acc then acc else acc ++ [y]) ++ ys → c ∈ acc ++ y :: ys := fun c hc => by
        split at hc
        · rcases List.mem_append.mp hc with z | z
          · exact List.mem_append_left _ z
          · exact List.mem_append_right _ (List.mem_cons_of_mem _ z)
        · simpa using hc
      exact this b hb
theorem dd_map (f : α → β) (xs : List α) (h : ∀ a ∈ xs, ∀ b ∈ xs, f a = f b → a = b) : dd (xs.map f) = (dd xs).map f := ddA_map f xs [] (by simpa using h)
theorem sub_len {l k : List α} (hl : l.Nodup) (h : ∀ x ∈ l, x ∈ k) : l.length ≤ k.length := by
  induction l generalizing k with
  | nil => exact Nat.zero_le _
  | cons a l ih =>
    obtain ⟨h1, h2⟩ := List.nodup_cons.mp hl
    have ha := h a (List.mem_cons_self ..)
    have : l.length ≤ (k.erase a).length := ih h2 fun x hx => (List.mem_erase_of_ne fun (e : x = a) => h1 (e ▸ hx)).mpr (h x (List.mem_cons_of_mem _ hx))
    rw [List.length_erase_of_mem ha] at this
    have : 0 < k.length := List.length_pos_of_mem ha
    simp only [List.length_cons]
    omega
theorem ddA_full : ∀ (xs acc : List α), acc.Nodup → (ddA acc xs).length = acc.length + xs.length → (acc ++ xs).Nodup
  | [], acc, h, _ => by simpa using h
  | y :: ys, acc, h, e => by
    rw [ddA_cons] at e
    split at e
    · have := ddA_len ys acc
      simp only [List.length_cons] at e
      omega
    · rename_i hy
      have h' : (acc ++ [y]).Nodup := by
        rw [List.nodup_append]
        refine ⟨h, by simp, fun a ha b hb => ?_⟩
        rw [List.mem_singleton.mp hb]
        rintro rfl
        exact hy ha
      have := ddA_full ys (acc ++ [y]) h' (by simp only [List.length_append, List.length_cons, List.length_nil] at e ⊢; omega)
      simpa using this
theorem dd_full {xs : List α} (h : (dd xs).length = xs.length) : xs.Nodup := by
  have := ddA_full xs [] List.nodup_nil (by simpa [dd] using h)
  simpa using this
end
section
variable {α β : Type} [BEq α] [LawfulBEq α] [BEq β] [LawfulBEq β]
theorem idx_inj {l : List α} {a b : α} (ha : a ∈ l) (h : l.idxOf a = l.idxOf b) : a = b := by
  have h1 := List.idxOf_lt_length_iff.mpr ha
  have h2 : l.idxOf b < l.length := h ▸ h1
  have e1 := List.getElem_idxOf h1
  have e2 := List.getElem_idxOf h2
  rw [← e1, ← e2]
  congr 1
theorem idx_get : ∀ {l : List α}, l.Nodup → ∀ {i : Nat} {a : α}, l[i]? = some a → l.idxOf a = i
  | [], _, i, a, h => by simp at h
  | b :: l, hl, 0, a, h => by
    have e : b = a := by simpa using h
    subst e
    exact List.idxOf_cons_self
  | b :: l, hl, i + 1, a, h => by
    obtain ⟨h1, h2⟩ := List.nodup_cons.mp hl
    have h : l[i]? = some a := by simpa using h
    have hne : b ≠ a := fun e => h1 (e ▸ List.mem_of_getElem? h)
    rw [List.idxOf_cons, idx_get h2 h, show (b == a) = false from beq_false_of_ne hne]
    rfl
theorem get_idx {l : List α} {a : α} (ha : a ∈ l) : l[l.idxOf a]? = some a := by
  have h1 := List.idxOf_lt_length_iff.mpr ha
  rw [List.getElem?_eq_getElem h1, List.getElem_idxOf h1]
end
/-! ### machines -/
abbrev Row := Bool × List Nat
def acc (rows : List Row) (s : Nat) : Bool := (rows.getD s (false, [])).1
def gls (rows : List Row) (s : Nat) : List Nat := (rows.getD s (false, [])).2
def go (rows : List Row) (s c : Nat) : Nat := (gls rows s).getD c 0
def run (rows : List Row) (s : Nat) (cs : List Nat) : Nat := cs.foldl (go rows) s
/-- rows with k columns and one more -/
structure WF (k : Nat) (rows : List Row) : Prop where
  ne : 0 < rows.length
  len : ∀ s, s < rows.length → (gls rows s).length = k + 1
  lt : ∀ s, s < rows.length → ∀ g ∈ gls rows s, g < rows.length
section
variable {k : Nat} {rows : List Row}
theorem run_cons (s c : Nat) (cs : List Nat) : run rows s (c :: cs) = run rows (go rows s c) cs := rfl
theorem run_app (s : Nat) (cs ds : List Nat) : run rows s (cs ++ ds) = run rows (run rows s cs) ds := List.foldl_append
theorem WF.go (h : WF k rows) {s c : Nat} (hs : s < rows.length) (hc : c ≤ k) : go rows s c < rows.length := by
  have hl := h.len s hs
  unfold Mc.go
  rw [List.getD_eq_getElem?_getD, List.getElem?_eq_getElem (by omega)]
  exact h.lt s hs _ (List.getElem_mem _)
theorem WF.go_at (h : WF k rows) {s c : Nat} (hs : s < rows.length) (hc : c ≤ k) : (gls rows s)[c]? = some (Mc.go rows s c) := by
  have hl := h.len s hs
  unfold Mc.go
  rw [List.getD_eq_getElem?_getD, List.getElem?_eq_getElem (by omega)]
  rfl
theorem WF.run (h : WF k rows) : ∀ {cs : List Nat} {s : Nat}, s < rows.length → (∀ c ∈ cs, c ≤ k) → run rows s cs < rows.length
  | [], _, hs, _ => hs
  | c :: cs, s, hs, hc => by
    rw [run_cons]
    exact WF.run h (h.go hs (hc c (List.mem_cons_self ..))) fun x hx => hc x (List.mem_cons_of_mem _ hx)
/-- the same is accepted behind the same columns -/
def Eqv (k : Nat) (rows : List Row) (s t : Nat) : Prop := ∀ cs, (∀ c ∈ cs, c ≤ k) → acc rows (run rows s cs) = acc rows (run rows t cs)
theorem Eqv.acc {s t : Nat} (h : Eqv k rows s t) : acc rows s = acc rows t := h [] (fun _ z => nomatch z)
theorem Eqv.go {s t c : Nat} (h : Eqv k rows s t) (hc : c ≤ k) : Eqv k rows (go rows s c) (go rows t c) := fun cs hcs => h (c :: cs) fun x hx => by
  rcases List.mem_cons.mp hx with rfl | z
  · exact hc
  · exact hcs x z
/-! ### classes -/
def sign (c : List Nat) (rows : List Row) (s : Nat) : List Nat := c.getD s 0 :: (gls rows s).map fun t => c.getD t 0
def signs (c : List Nat) (rows : List Row) : List (List Nat) := (List.range rows.length).map (sign c rows)
def stepC (c : List Nat) (rows : List Row) : List Nat := (signs c rows).map fun x => (dd (signs c rows)).idxOf x
def cls0 (rows : List Row) : List Nat := rows.map fun r => if r.1 then 1 else 0
/-- what holds of the classes on the way -/
structure ClsI (k : Nat) (rows : List Row) (c : List Nat) (many : Nat) : Prop where
  len : c.length = rows.length
  fine : ∀ s t, s < rows.length → t < rows.length → Eqv k rows s t → c.getD s 0 = c.getD t 0
  acc : ∀ s t, s < rows.length → t < rows.length → c.getD s 0 = c.getD t 0 → acc rows s = acc rows t
  many : many = 0 ∨ many = (dd c).length
/-- what holds of them at last -/
structure ClsOk (k : Nat) (rows : List Row) (c : List Nat) : Prop where
  len : c.length = rows.length
  eqv : ∀ s t, s < rows.length → t < rows.length → (c.getD s 0 = c.getD t 0 ↔ Eqv k rows s t)
theorem signs_len (c : List Nat) (rows : List Row) : (signs c rows).length = rows.length := by unfold signs; rw [List.length_map, List.length_range]
theorem signs_get {c : List Nat} {s : Nat} (h : s < rows.length) : (signs c rows)[s]? = some (sign c rows s) := by
  unfold signs
  rw [List.getElem?_map, List.getElem?_range h]
  rfl
theorem step_get {c : List Nat} {s : Nat} (h : s < rows.length) : (stepC c rows).getD s 0 = (dd (signs c rows)).idxOf (sign c rows s) := by
  unfold stepC
  rw [List.getD_eq_getElem?_getD, List.getElem?_map, signs_get h]
  rfl
theorem step_eq {c : List Nat} {s t : Nat} (hs : s < rows.length) (ht : t < rows.length) : (stepC c rows).getD s 0 = (stepC c rows).getD t 0 ↔ sign c rows s = sign c rows t := by
  rw [step_get hs, step_get ht]
  refine ⟨fun h => idx_inj (mem_dd.mpr (List.mem_of_getElem? (signs_get hs))) h, fun h => by rw [h]⟩
theorem dd_step (c : List Nat) : (dd (stepC c rows)).length = (dd (signs c rows)).length := by
  unfold stepC
  rw [dd_map]
  · exact List.length_map ..
  · intro a ha b hb e
    exact idx_inj (mem_dd.mpr ha) e
theorem ClsI.step {c : List Nat} {many : Nat} (h : ClsI k rows c many) (hw : WF k rows) : ClsI k rows (stepC c rows) (dd (signs c rows)).length := by
  refine ⟨by unfold stepC; rw [List.length_map, signs_len], fun s t hs ht q => (step_eq hs ht).mpr ?_, fun s t hs ht q => ?_, .inr (dd_step c).symm⟩
  · unfold sign
    rw [h.fine s t hs ht q]
    congr 1
    refine List.ext_getElem? fun i => ?_
    rw [List.getElem?_map, List.getElem?_map]
    by_cases hi : i ≤ k
    · rw [hw.go_at hs hi, hw.go_at ht hi]
      exact congrArg some (h.fine _ _ (hw.go hs hi) (hw.go ht hi) (q.go hi))
    · rw [List.getElem?_eq_none (by rw [hw.len s hs]; omega), List.getElem?_eq_none (by rw [hw.len t ht]; omega)]
  · have := (step_eq hs ht).mp q
    unfold sign at this
    exact h.acc s t hs ht (List.cons.inj this).1
theorem ClsI.done {c : List Nat} {many : Nat} (h : ClsI k rows c many) (hw : WF k rows) (hn : (dd (signs c rows)).length = many) : ClsOk k rows (stepC c rows) := by
  have hm : many = (dd c).length := by
    rcases h.many with z | z
    · have h0 : (signs c rows)[0]? = some (sign c rows 0) := signs_get hw.ne
      have := List.length_pos_of_mem (mem_dd.mpr (List.mem_of_getElem? h0))
      omega
    · exact z
  -- equal classes have equal signs
  have key : ∀ s t, s < rows.length → t < rows.length → c.getD s 0 = c.getD t 0 → sign c rows s = sign c rows t := by
    intro s t hs ht e
    -- the heads of the signs are all different
    have hnd : ((dd (signs c rows)).map fun x => x.headD 0).Nodup := by
      have hsub : ∀ x ∈ dd c, x ∈ (dd (signs c rows)).map fun x => x.headD 0 := fun x hx => by
        obtain ⟨s, hs, rfl⟩ := List.mem_iff_getElem.mp (mem_dd.mp hx)
        have hs' : s < rows.length := h.len ▸ hs
        refine List.mem_map.mpr ⟨sign c rows s, mem_dd.mpr (List.mem_of_getElem? (signs_get hs')), ?_⟩
        show c.getD s 0 = _
        rw [List.getD_eq_getElem?_getD, List.getElem?_eq_getElem hs]
        rfl
      have hl : ((dd (signs c rows)).map fun x => x.headD 0).length = (dd c).length := by rw [List.length_map]; omega
      have h1 := sub_len (nodup_dd c) (k := dd ((dd (signs c rows)).map fun x => x.headD 0)) fun x hx => mem_dd.mpr (hsub x hx)
      have h2 := dd_len ((dd (signs c rows)).map fun x => x.headD 0)
      exact dd_full (by omega)
    have m1 := mem_dd.mpr (List.mem_of_getElem? (signs_get (c := c) hs))
    have m2 := mem_dd.mpr (List.mem_of_getElem? (signs_get (c := c) ht))
    obtain ⟨i, hi, e1⟩ := List.mem_iff_getElem.mp m1
    obtain ⟨j, hj, e2⟩ := List.mem_iff_getElem.mp m2
    have e1' : (dd (signs c rows))[i]? = some (sign c rows s) := by rw [List.getElem?_eq_getElem hi, e1]
    have e2' : (dd (signs c rows))[j]? = some (sign c rows t) := by rw [List.getElem?_eq_getElem hj, e2]
    have f1 : ((dd (signs c rows)).map fun x => x.headD 0)[i]? = some (c.getD s 0) := by rw [List.getElem?_map, e1']; rfl
    have f2 : ((dd (signs c rows)).map fun x => x.headD 0)[j]? = some (c.getD s 0) := by rw [List.getElem?_map, e2', e]; rfl
    have : i = j := by rw [← idx_get hnd f1, ← idx_get hnd f2]
    subst this
    rw [e1'] at e2'
    exact Option.some.inj e2'
  have stab : ∀ s t, s < rows.length → t < rows.length → c.getD s 0 = c.getD t 0 → Eqv k rows s t := by
    intro s t hs ht e cs
    induction cs generalizing s t with
    | nil => exact fun _ => h.acc s t hs ht e
    | cons a cs ih =>
      intro hcs
      rw [run_cons, run_cons]
      have ha := hcs a (List.mem_cons_self ..)
      refine ih _ _ (hw.go hs ha) (hw.go ht ha) ?_ fun x hx => hcs x (List.mem_cons_of_mem _ hx)
      have := key s t hs ht e
      unfold sign at this
      have h2 := congrArg (fun l => l[a]?) (List.cons.inj this).2
      simp only [List.getElem?_map, hw.go_at hs ha, hw.go_at ht ha, Option.map_some] at h2
      exact Option.some.inj h2
  refine ⟨by unfold stepC; rw [List.length_map, signs_len], fun s t hs ht => ?_⟩
  rw [step_eq hs ht]
  refine ⟨fun q => stab s t hs ht (by unfold sign at q; exact (List.cons.inj q).1), fun q => key s t hs ht (h.fine s t hs ht q)⟩
end
end Mc

/-! MA2: what is led to, in order; the least machine is one alone. -/
namespace Mc
/-! ### level by level -/
section
variable {σ τ : Type} [DecidableEq σ] [DecidableEq τ]
def nxt (G : σ → List σ) (order level : List σ) : List σ := (dd (level.flatMap G)).filter fun x => decide (x ∉ order)
def bfsT (G : σ → List σ) : Nat → List σ → List σ → Option (List σ)
  | f, order, [] => some order
  | 0, order, _ :: _ => none
  | f + 1, order, x :: xs => bfsT G f (order ++ nxt G order (x :: xs)) (nxt G order (x :: xs))
def Bfs (G : σ → List σ) (first : σ) (o : List σ) : Prop := ∃ f, bfsT G f [first] [first] = some o
theorem bfsT_nil (G : σ → List σ) (f : Nat) (order : List σ) : bfsT G f order [] = some order := by cases f <;> rfl
theorem bfsT_step (G : σ → List σ) (f : Nat) {order level : List σ} (h : level ≠ []) : bfsT G (f + 1) order level = bfsT G f (order ++ nxt G order level) (nxt G order level) := by
  cases level with
  | nil => exact absurd rfl h
  | cons => rfl
theorem bfsT_more (G : σ → List σ) : ∀ (f : Nat) (order level o : List σ) (d : Nat), bfsT G f order level = some o → bfsT G (f + d) order level = some o
  | f, order, [], o, d, h => by rw [bfsT_nil] at h ⊢; exact h
  | 0, order, x :: xs, o, d, h => by simp [bfsT] at h
  | f + 1, order, x :: xs, o, d, h => by
    rw [show f + 1 + d = (f + d) + 1 by omega]
    exact bfsT_more G f _ _ o d h
theorem Bfs.uniq {G : σ → List σ} {first : σ} {o o' : List σ} (h : Bfs G first o) (h' : Bfs G first o') : o = o' := by
  obtain ⟨f, e⟩ := h
  obtain ⟨f', e'⟩ := h'
  have a := bfsT_more G f _ _ _ f' e
  have b := bfsT_more G f' _ _ _ f e'
  rw [Nat.add_comm, b] at a
  exact (Option.some.inj a).symm
inductive Rch (G : σ → List σ) (first : σ) : σ → Prop
  | here : Rch G first first
  | step {x y : σ} : Rch G first x → y ∈ G x → Rch G first y
structure BfsI (G : σ → List σ) (first : σ) (order level : List σ) : Prop where
  nd : order.Nodup
  sub : ∀ x ∈ level, x ∈ order
  at0 : order[0]? = some first
  cl : ∀ x ∈ order, x ∉ level → ∀ y ∈ G x, y ∈ order
  rc : ∀ x ∈ order, Rch G first x
theorem mem_nxt {G : σ → List σ} {order level : List σ} {x : σ} : x ∈ nxt G order level ↔ (∃ y ∈ level, x ∈ G y) ∧ x ∉ order := by
  unfold nxt
  rw [List.mem_filter, mem_dd, List.mem_flatMap]
  simp
theorem BfsI.start (G : σ → List σ) (first : σ) : BfsI G first [first] [first] :=
  ⟨by simp, fun x h => h, rfl, fun x h h' => absurd h h', fun x h => by rw [List.mem_singleton.mp h]; exact .here⟩
theorem BfsI.next {G : σ → List σ} {first : σ} {order level : List σ} (h : BfsI G first order level) : BfsI G first (order ++ nxt G order level) (nxt G order level) := by
  refine ⟨?_, fun x hx => List.mem_append_right _ hx, ?_, fun x hx hn y hy => ?_, fun x hx => ?_⟩
  · rw [List.nodup_append]
    refine ⟨h.nd, List.Pairwise.filter _ (nodup_dd _), fun a ha b hb e => ?_⟩
    exact (mem_nxt.mp hb).2 (e ▸ ha)
  · have := h.at0
    have hl : 0 < order.length := (List.getElem?_eq_some_iff.mp this).1
    rw [List.getElem?_append_left hl]
    exact this
  · rcases List.mem_append.mp hx with z | z
    · by_cases hl : x ∈ level
      · by_cases hy' : y ∈ order
        · exact List.mem_append_left _ hy'
        · exact List.mem_append_right _ (mem_nxt.mpr ⟨⟨x, hl, hy⟩, hy'⟩)
      · exact List.mem_append_left _ (h.cl x z hl y hy)
    · exact absurd z hn
  · rcases List.mem_append.mp hx with z | z
    · exact h.rc x z
    · obtain ⟨⟨y, hy, e⟩, _⟩ := mem_nxt.mp z
      exact .step (h.rc y (h.sub y hy)) e
theorem bfsT_ok {G : σ → List σ} {first : σ} : ∀ (f : Nat) (order level o : List σ), BfsI G first order level → bfsT G f order level = some o → BfsI G first o []
  | f, order, [], o, i, h => by
    rw [bfsT_nil] at h
    obtain rfl := Option.some.inj h
    exact i
  | 0, order, x :: xs, o, i, h => by simp [bfsT] at h
  | f + 1, order, x :: xs, o, i, h => bfsT_ok f _ _ o i.next h
theorem Bfs.ok {G : σ → List σ} {first : σ} {o : List σ} (h : Bfs G first o) : BfsI G first o [] := by
  obtain ⟨f, e⟩ := h
  exact bfsT_ok f _ _ o (.start G first) e
theorem Bfs.nd {G : σ → List σ} {first : σ} {o : List σ} (h : Bfs G first o) : o.Nodup := h.ok.nd
theorem Bfs.cl {G : σ → List σ} {first : σ} {o : List σ} (h : Bfs G first o) {x y : σ} (hx : x ∈ o) (hy : y ∈ G x) : y ∈ o := h.ok.cl x hx (fun z => nomatch z) y hy
theorem Bfs.at0 {G : σ → List σ} {first : σ} {o : List σ} (h : Bfs G first o) : o[0]? = some first := h.ok.at0
theorem Bfs.first {G : σ → List σ} {first : σ} {o : List σ} (h : Bfs G first o) : first ∈ o := List.mem_of_getElem? h.at0
theorem Bfs.rc {G : σ → List σ} {first : σ} {o : List σ} (h : Bfs G first o) {x : σ} (hx : x ∈ o) : Rch G first x := h.ok.rc x hx
theorem Bfs.all {G : σ → List σ} {first : σ} {o : List σ} (h : Bfs G first o) {x : σ} (hx : Rch G first x) : x ∈ o := by
  induction hx with
  | here => exact h.first
  | step _ hy ih => exact h.cl ih hy
theorem flatMap_map {G : σ → List σ} {G' : τ → List τ} {φ : σ → τ} : ∀ l : List σ, (∀ x ∈ l, G' (φ x) = (G x).map φ) → (l.map φ).flatMap G' = (l.flatMap G).map φ
  | [], _ => rfl
  | x :: l, h => by
    rw [List.map_cons, List.flatMap_cons, List.flatMap_cons, List.map_append, h x (List.mem_cons_self ..), flatMap_map l fun y hy => h y (List.mem_cons_of_mem _ hy)]
theorem nxt_map {G : σ → List σ} {G' : τ → List τ} {φ : σ → τ} {U : List σ} {order level : List σ} (inj : ∀ a ∈ U, ∀ b ∈ U, φ a = φ b → a = b) (cl : ∀ x ∈ U, ∀ y ∈ G x, y ∈ U) (eq : ∀ x ∈ U, G' (φ x) = (G x).map φ)
    (ho : ∀ x ∈ order, x ∈ U) (hl : ∀ x ∈ level, x ∈ U) : nxt G' (order.map φ) (level.map φ) = (nxt G order level).map φ := by
  unfold nxt
  rw [flatMap_map level fun x hx => eq x (hl x hx), dd_map, List.filter_map]
  · congr 1
    refine List.filter_congr fun x hx => ?_
    have hxU : x ∈ U := by
      obtain ⟨y, hy, hx⟩ := List.mem_flatMap.mp (mem_dd.mp hx)
      exact cl y (hl y hy) x hx
    show decide (φ x ∉ order.map φ) = decide (x ∉ order)
    by_cases h : x ∈ order
    · rw [decide_eq_false (fun z => z (List.mem_map_of_mem h)), decide_eq_false (fun z => z h)]
    · rw [decide_eq_true h, decide_eq_true]
      intro z
      obtain ⟨y, hy, e⟩ := List.mem_map.mp z
      exact h (inj y (ho y hy) x hxU e ▸ hy)
  · intro a ha b hb
    have hU : ∀ x ∈ level.flatMap G, x ∈ U := fun x hx => by
      obtain ⟨y, hy, hx⟩ := List.mem_flatMap.mp hx
      exact cl y (hl y hy) x hx
    exact inj a (hU a ha) b (hU b hb)
theorem bfsT_map {G : σ → List σ} {G' : τ → List τ} {φ : σ → τ} {U : List σ} (inj : ∀ a ∈ U, ∀ b ∈ U, φ a = φ b → a = b) (cl : ∀ x ∈ U, ∀ y ∈ G x, y ∈ U) (eq : ∀ x ∈ U, G' (φ x) = (G x).map φ) :
    ∀ (f : Nat) (order level : List σ), (∀ x ∈ order, x ∈ U) → (∀ x ∈ level, x ∈ U) → bfsT G' f (order.map φ) (level.map φ) = (bfsT G f order level).map (List.map φ)
  | f, order, [], _, _ => by rw [List.map_nil, bfsT_nil, bfsT_nil]; rfl
  | 0, order, x :: xs, _, _ => rfl
  | f + 1, order, x :: xs, ho, hl => by
    have hn : ∀ y ∈ nxt G order (x :: xs), y ∈ U := fun y hy => by
      obtain ⟨⟨z, hz, e⟩, _⟩ := mem_nxt.mp hy
      exact cl z (hl z hz) y e
    rw [bfsT_step _ _ (by simp), bfsT_step _ _ (by simp), nxt_map inj cl eq ho hl, ← List.map_append]
    exact bfsT_map inj cl eq f _ _ (fun y hy => by
      rcases List.mem_append.mp hy with z | z
      · exact ho y z
      · exact hn y z) hn
theorem Bfs.map {G : σ → List σ} {G' : τ → List τ} {φ : σ → τ} {first : σ} {o : List σ} (h : Bfs G first o) (inj : ∀ a ∈ o, ∀ b ∈ o, φ a = φ b → a = b) (eq : ∀ x ∈ o, G' (φ x) = (G x).map φ) : Bfs G' (φ first) (o.map φ) := by
  have cl : ∀ x ∈ o, ∀ y ∈ G x, y ∈ o := fun x hx y hy => h.cl hx hy
  have hf := h.first
  obtain ⟨f, e⟩ := h
  refine ⟨f, ?_⟩
  have := bfsT_map inj cl eq f [first] [first] (fun x hx => by rw [List.mem_singleton.mp hx]; exact hf) (fun x hx => by rw [List.mem_singleton.mp hx]; exact hf)
  rw [e] at this
  exact this
/-- the loop's own word -/
def BfsL (G : σ → List σ) (first : σ) (order level : List σ) : Prop := ∃ d, ∀ f o, bfsT G f order level = some o → bfsT G (f + d) [first] [first] = some o
theorem BfsL.start (G : σ → List σ) (first : σ) : BfsL G first [first] [first] := ⟨0, fun _ _ h => h⟩
theorem BfsL.next {G : σ → List σ} {first : σ} {order level : List σ} (h : BfsL G first order level) (hl : level ≠ []) : BfsL G first (order ++ nxt G order level) (nxt G order level) := by
  obtain ⟨d, h⟩ := h
  exact ⟨d + 1, fun f o e => by rw [show f + (d + 1) = (f + 1) + d by omega]; exact h (f + 1) o (by rw [bfsT_step _ _ hl]; exact e)⟩
theorem BfsL.done {G : σ → List σ} {first : σ} {order : List σ} (h : BfsL G first order []) : Bfs G first order := by
  obtain ⟨d, h⟩ := h
  exact ⟨0 + d, h 0 order (bfsT_nil ..)⟩
end
/-! ### what a machine accepts -/
section
variable {α : Type} [BEq α] [LawfulBEq α]
def cols (ls : List α) (name : List α) : List Nat := name.reverse.map ls.idxOf
def st (ls : List α) (rows : List Row) (name : List α) : Nat := run rows 0 (cols ls name)
def Lg (ls : List α) (rows : List Row) (name : List α) : Bool := acc rows (st ls rows name)
theorem cols_le (ls name : List α) : ∀ c ∈ cols ls name, c ≤ ls.length := fun c hc => by
  obtain ⟨x, _, rfl⟩ := List.mem_map.mp hc
  exact List.idxOf_le_length
theorem cols_app (ls u v : List α) : cols ls (v ++ u) = cols ls u ++ cols ls v := by unfold cols; rw [List.reverse_append, List.map_append]
theorem st_app (ls : List α) (rows : List Row) (u v : List α) : st ls rows (v ++ u) = run rows (st ls rows u) (cols ls v) := by unfold st; rw [cols_app, run_app]
theorem st_cons (ls : List α) (rows : List Row) (x : α) (u : List α) : st ls rows (x :: u) = go rows (st ls rows u) (ls.idxOf x) := st_app ls rows u [x]
theorem st_lt {ls : List α} {rows : List Row} (h : WF ls.length rows) (u : List α) : st ls rows u < rows.length := h.run h.ne (cols_le ls u)
/-- endlessly many labels -/
def Inf (α : Type) : Prop := ∀ l : List α, ∃ x, x ∉ l
theorem cols_onto (hI : Inf α) (ls : List α) (hn : ls.Nodup) : ∀ cs : List Nat, (∀ c ∈ cs, c ≤ ls.length) → ∃ u, cols ls u = cs
  | [], _ => ⟨[], rfl⟩
  | c :: cs, h => by
    obtain ⟨u, hu⟩ := cols_onto hI ls hn cs fun x hx => h x (List.mem_cons_of_mem _ hx)
    have hc := h c (List.mem_cons_self ..)
    obtain ⟨x, hx⟩ : ∃ x, ls.idxOf x = c := by
      by_cases z : c < ls.length
      · exact ⟨ls[c], idx_get hn (List.getElem?_eq_getElem z)⟩
      · obtain ⟨x, hx⟩ := hI ls
        exact ⟨x, by rw [List.idxOf_eq_length hx]; omega⟩
    exact ⟨u ++ [x], by rw [cols_app, hu]; show [ls.idxOf x] ++ cs = _; rw [hx]; rfl⟩
structure Canon (lt : α → α → Prop) (ls : List α) (rows : List Row) : Prop where
  wf : WF ls.length rows
  asc : ls.Pairwise lt
  nd : ls.Nodup
  ord : Bfs (gls rows) 0 (List.range rows.length)
  sep : ∀ s t, s < rows.length → t < rows.length → Eqv ls.length rows s t → s = t
  mat : ∀ j, j < ls.length → ∃ s, s < rows.length ∧ go rows s j ≠ go rows s ls.length
theorem rch_st (hI : Inf α) {ls : List α} {rows : List Row} (hw : WF ls.length rows) (hn : ls.Nodup) {s : Nat} (h : Rch (gls rows) 0 s) : ∃ u, st ls rows u = s := by
  induction h with
  | here => exact ⟨[], rfl⟩
  | step _ hy ih =>
    obtain ⟨u, rfl⟩ := ih
    obtain ⟨c, hc, e⟩ := List.mem_iff_getElem.mp hy
    have hu := st_lt hw u
    rw [hw.len _ hu] at hc
    obtain ⟨x, hx⟩ : ∃ x, ls.idxOf x = c := by
      by_cases z : c < ls.length
      · exact ⟨ls[c], idx_get hn (List.getElem?_eq_getElem z)⟩
      · obtain ⟨x, hx⟩ := hI ls
        exact ⟨x, by rw [List.idxOf_eq_length hx]; omega⟩
    refine ⟨x :: u, ?_⟩
    rw [st_cons, hx]
    have := hw.go_at hu (c := c) (by omega)
    rw [List.getElem?_eq_getElem (by rw [hw.len _ hu]; omega), e] at this
    exact (Option.some.inj this).symm
section
variable {lt : α → α → Prop} {l1 l2 : List α} {r1 r2 : List Row}
theorem Canon.st (hI : Inf α) (h : Canon lt l1 r1) {s : Nat} (hs : s < r1.length) : ∃ u, Mc.st l1 r1 u = s := rch_st hI h.wf h.nd (h.ord.rc (List.mem_range.mpr hs))
theorem Canon.same (hI : Inf α) (h : Canon lt l1 r1) (u v : List α) : Mc.st l1 r1 u = Mc.st l1 r1 v ↔ ∀ x, Lg l1 r1 (x ++ u) = Lg l1 r1 (x ++ v) := by
  refine ⟨fun e x => by unfold Lg; rw [st_app, st_app, e], fun e => h.sep _ _ (st_lt h.wf u) (st_lt h.wf v) fun cs hcs => ?_⟩
  obtain ⟨x, rfl⟩ := cols_onto hI l1 h.nd cs hcs
  have := e x
  unfold Lg at this
  rw [st_app, st_app] at this
  exact this
theorem Canon.sameL (hI : Inf α) (h1 : Canon lt l1 r1) (h2 : Canon lt l2 r2) (e : ∀ u, Lg l1 r1 u = Lg l2 r2 u) (u v : List α) : Mc.st l1 r1 u = Mc.st l1 r1 v ↔ Mc.st l2 r2 u = Mc.st l2 r2 v := by
  rw [h1.same hI, h2.same hI]
  exact ⟨fun h x => by rw [← e, ← e]; exact h x, fun h x => by rw [e, e]; exact h x⟩
theorem Canon.subL (hI : Inf α) (h1 : Canon lt l1 r1) (h2 : Canon lt l2 r2) (e : ∀ u, Lg l1 r1 u = Lg l2 r2 u) {a : α} (ha : a ∈ l1) : a ∈ l2 := by
  obtain ⟨s, hs, hne⟩ := h1.mat (l1.idxOf a) (List.idxOf_lt_length_iff.mpr ha)
  obtain ⟨u, rfl⟩ := h1.st hI hs
  obtain ⟨z, hz⟩ := hI (l1 ++ l2)
  have z1 : z ∉ l1 := fun q => hz (List.mem_append_left _ q)
  have z2 : z ∉ l2 := fun q => hz (List.mem_append_right _ q)
  have : Mc.st l1 r1 (a :: u) ≠ Mc.st l1 r1 (z :: u) := by rw [st_cons, st_cons, List.idxOf_eq_length z1]; exact hne
  by_cases q : a ∈ l2
  · exact q
  · exfalso
    refine this ((h1.sameL hI h2 e _ _).mpr ?_)
    rw [st_cons, st_cons, List.idxOf_eq_length z2, List.idxOf_eq_length q]
theorem nodup_perm {l k : List α} (hl : l.Nodup) (hk : k.Nodup) (h : ∀ x, x ∈ l ↔ x ∈ k) : l.Perm k := by
  haveI : DecidableEq α := fun a b => if h : (a == b) = true then .isTrue (eq_of_beq h) else .isFalse fun e => h (e ▸ beq_self_eq_true a)
  rw [List.perm_iff_count]
  intro a
  rw [hl.count, hk.count]
  by_cases q : a ∈ l
  · rw [if_pos q, if_pos ((h a).mp q)]
  · rw [if_neg q, if_neg fun z => q ((h a).mpr z)]
theorem Canon.uniq (hI : Inf α) (as : ∀ a b, lt a b → lt b a → a = b) (h1 : Canon lt l1 r1) (h2 : Canon lt l2 r2) (e : ∀ u, Lg l1 r1 u = Lg l2 r2 u) : l1 = l2 ∧ r1 = r2 := by
  have el : l1 = l2 := (nodup_perm h1.nd h2.nd fun x => ⟨h1.subL hI h2 e, h2.subL hI h1 fun u => (e u).symm⟩).eq_of_pairwise (fun a b _ _ => as a b) h1.asc h2.asc
  subst el
  refine ⟨rfl, ?_⟩
  have hw : ∀ s, ∃ u, s < r1.length → Mc.st l1 r1 u = s := fun s => by
    by_cases q : s < r1.length
    · obtain ⟨u, hu⟩ := h1.st hI q
      exact ⟨u, fun _ => hu⟩
    · exact ⟨[], fun z => absurd z q⟩
  obtain ⟨U, hU⟩ := Classical.axiomOfChoice hw
  let φ : Nat → Nat := fun s => Mc.st l1 r2 (U s)
  have hφ : ∀ u, φ (Mc.st l1 r1 u) = Mc.st l1 r2 u := fun u => (h1.sameL hI h2 e _ _).mp (hU _ (st_lt h1.wf u))
  have inj : ∀ a ∈ List.range r1.length, ∀ b ∈ List.range r1.length, φ a = φ b → a = b := fun a ha b hb q => by
    have := (h1.sameL hI h2 e _ _).mpr q
    rw [hU a (List.mem_range.mp ha), hU b (List.mem_range.mp hb)] at this
    exact this
  have hgo : ∀ s, s < r1.length → ∀ c, c ≤ l1.length → φ (go r1 s c) = go r2 (φ s) c := fun s hs c hc => by
    obtain ⟨u, rfl⟩ := h1.st hI hs
    obtain ⟨x, hx⟩ : ∃ x, l1.idxOf x = c := by
      by_cases z : c < l1.length
      · exact ⟨l1[c], idx_get h1.nd (List.getElem?_eq_getElem z)⟩
      · obtain ⟨x, hx⟩ := hI l1
        exact ⟨x, by rw [List.idxOf_eq_length hx]; omega⟩
    rw [← hx, ← st_cons, hφ, hφ, st_cons]
  have hlt : ∀ s, φ s < r2.length := fun s => st_lt h2.wf _
  have hgl : ∀ s ∈ List.range r1.length, gls r2 (φ s) = (gls r1 s).map φ := fun s hs => by
    have hs := List.mem_range.mp hs
    refine List.ext_getElem? fun c => ?_
    rw [List.getElem?_map]
    by_cases hc : c ≤ l1.length
    · rw [h1.wf.go_at hs hc, h2.wf.go_at (hlt s) hc, Option.map_some, hgo s hs c hc]
    · rw [List.getElem?_eq_none (by rw [h2.wf.len _ (hlt s)]; omega), List.getElem?_eq_none (by rw [h1.wf.len s hs]; omega)]
      rfl
  have h0 : φ 0 = 0 := hφ []
  have hb := h1.ord.map inj hgl
  rw [h0] at hb
  have hr := hb.uniq h2.ord
  have hn : r1.length = r2.length := by
    have := congrArg List.length hr
    rwa [List.length_map, List.length_range, List.length_range] at this
  have hid : ∀ s, s < r1.length → φ s = s := fun s hs => by
    have := congrArg (fun l => l[s]?) hr
    simp only [List.getElem?_map, List.getElem?_range hs, List.getElem?_range (hn ▸ hs), Option.map_some] at this
    exact Option.some.inj this
  refine List.ext_getElem? fun s => ?_
  by_cases hs : s < r1.length
  · have hs2 : s < r2.length := hn ▸ hs
    rw [List.getElem?_eq_getElem hs, List.getElem?_eq_getElem hs2]
    have g1 : gls r2 s = gls r1 s := by
      have := hgl s (List.mem_range.mpr hs)
      rw [hid s hs] at this
      rw [this, List.map_congr_left (g := id) fun x hx => hid x (h1.wf.lt s hs x hx), List.map_id]
    have a1 : acc r1 s = acc r2 s := by
      obtain ⟨u, hu⟩ := h1.st hI hs
      have := e u
      unfold Lg at this
      rw [← hφ u, hu, hid s hs] at this
      exact this
    congr 1
    refine Prod.ext ?_ ?_
    · have := a1
      unfold acc at this
      rw [List.getD_eq_getElem?_getD, List.getD_eq_getElem?_getD, List.getElem?_eq_getElem hs, List.getElem?_eq_getElem hs2] at this
      exact this
    · have := g1
      unfold gls at this
      rw [List.getD_eq_getElem?_getD, List.getD_eq_getElem?_getD, List.getElem?_eq_getElem hs, List.getElem?_eq_getElem hs2] at this
      exact this.symm
  · rw [List.getElem?_eq_none (by omega), List.getElem?_eq_none (by omega)]
end
end
end Mc

/-! Me77: sorted(set(numbers)). -/
namespace Me
open PySem PySem.Spec PyProof.Rows L2
section
variable {P : Program} {w : World} {A : Around} {E : Value → Shared → Prop} {s : Shared} {h : Heap} {a : Addr} {l : List Int}
/-- a set of these numbers -/
structure IxSet (w : World) (h : Heap) (a : Addr) (l : List Int) : Prop where
  ex : SetR w h a (fun k => decide (k ∈ l)) l.length
theorem IxSet.keep {h' : Heap} (R : IxSet w h a l) (k : ∀ o, h.get? a = some o → h'.get? a = some o) : IxSet w h' a l := ⟨R.ex.at k⟩
/-- what the first i numbers have brought -/
structure FedI (xs : List Int) (i : Nat) (l : List Int) : Prop where
  mem : ∀ x, x ∈ l ↔ x ∈ xs.take i
  nd : l.Nodup
  len : l.length ≤ i
theorem FedI.next {xs l : List Int} {i : Nat} {x : Int} (g : FedI xs i l) (h : xs[i]? = some x) : FedI xs (i + 1) (if x ∈ l then l else x :: l) := by
  refine ⟨fun y => ?_, ?_, ?_⟩
  · rw [List.take_add_one, h, List.mem_append, ← g.mem]
    show _ ↔ y ∈ l ∨ y ∈ [x]
    rw [List.mem_singleton]
    split
    · rename_i hx
      exact ⟨.inl, fun z => z.elim id fun e => e ▸ hx⟩
    · rw [List.mem_cons]
      exact Or.comm
  · split
    · exact g.nd
    · rename_i hx
      exact List.nodup_cons.mpr ⟨hx, g.nd⟩
  · split
    · exact Nat.le_succ_of_le g.len
    · exact Nat.succ_le_succ g.len
end
theorem DVs.intsV {Γ : Gam} {F : Hp} {as : List Ad} : ∀ {ys : List Int} {vs : List V}, DVs Γ F as vs (ys.map D.int) → vs = ys.map V.int
  | [], _, .nil => rfl
  | y :: ys, _, .cons h t => by
    cases h
    rw [DVs.intsV t]
    rfl
section
variable {S : Sc} {env : En} {μ : Mu} {e : Expr} {P : KD} {p p2 q pos : Pos}
end
end Me

/-! Me78: sum of numbers. -/
namespace Me
open PySem PySem.Spec PyProof.Rows L2
section
variable {S : Sc} {env : En} {μ : Mu} {d : D} {P : KD}
end
end Me

/-! Me79: max(list of ints), min(list of ints). -/
namespace Me
open PySem PySem.Spec PyProof.Rows L2
section
variable {S : Sc} {env : En} {μ : Mu} {d : D} {P : KD}
theorem c_maxI {ns : List Int} (h1 : vw μ d = .lst (ns.map D.int)) (h0 : ns ≠ []) (k : ∀ m, m ∈ ns → (∀ y ∈ ns, y ≤ m) → P (.int m) μ) (hc : S.X.calm = true := by rfl) : Cl S (.builtin "max") [d] env μ P :=
  Cl.of (cr_max hc) fun F H as xs Q W r kk => by
    obtain ⟨x, rfl, r1⟩ := dvs1 r
    obtain ⟨a, vs, rfl, e1, q1⟩ := W.lst r1 h1
    obtain rfl := DVs.intsV q1
    exact ⟨a, ns, rfl, .inl (.inl e1), List.length_pos_iff.mpr h0, fun m h2 h3 => kk.now W (k m h2 h3) (.int _)⟩
theorem c_minI {ns : List Int} (h1 : vw μ d = .lst (ns.map D.int)) (h0 : ns ≠ []) (k : ∀ m, m ∈ ns → (∀ y ∈ ns, m ≤ y) → P (.int m) μ) (hc : S.X.calm = true := by rfl) : Cl S (.builtin "min") [d] env μ P :=
  Cl.of (cr_min hc) fun F H as xs Q W r kk => by
    obtain ⟨x, rfl, r1⟩ := dvs1 r
    obtain ⟨a, vs, rfl, e1, q1⟩ := W.lst r1 h1
    obtain rfl := DVs.intsV q1
    exact ⟨a, ns, rfl, .inl (.inl e1), List.length_pos_iff.mpr h0, fun m h2 h3 => kk.now W (k m h2 h3) (.int _)⟩
end
end Me

/-! Me80: repr of data with dicts among them. -/
namespace PySem
open Sem (wp)
mutual
/-- data as they lie, no dict of them that of the modules -/
inductive RdS (h : Heap) : Value → PyData → List Addr → Prop
  | none : RdS h .none .none []
  | bool (b) : RdS h (.bool b) (.bool b) []
  | int (i t) : RdS h (.int i t) (.int i) []
  | str (x t) : RdS h (.str x t) (.str x) []
  | list {a o vs n xs as} : h.get? a = some o → o.cls = .type "list" → o.data = .seq vs n → RdSs h vs.toList xs as → RdS h (.ref a) (.list xs) (a :: as)
  | tuple {a o vs n xs as} : h.get? a = some o → o.cls = .type "tuple" → o.data = .seq vs n → RdSs h vs.toList xs as → RdS h (.ref a) (.tuple xs) as
  | dict {a o es n kvs as bs} : (a == sysModules) = false → h.get? a = some o → o.cls = .type "dict" → o.data = .dict es n → RdSs h (es.toList.map (·.key)) (kvs.map (·.1)) as →
      RdSs h (es.toList.map (·.val)) (kvs.map (·.2)) bs → RdS h (.ref a) (.dict kvs) (a :: as ++ bs)
inductive RdSs (h : Heap) : List Value → List PyData → List Addr → Prop
  | nil : RdSs h [] [] []
  | cons {v vs d ds as bs} : RdS h v d as → RdSs h vs ds bs → RdSs h (v :: vs) (d :: ds) (as ++ bs)
end
section
variable {prog : Program} {w : World} {h₀ : Heap}
mutual
theorem RdS.reads : ∀ {v : Value} {d : PyData} {as : List Addr}, RdS h₀ v d as → Reads h₀ v d as
  | _, _, _, .none => .none
  | _, _, _, .bool b => .bool b
  | _, _, _, .int i t => .int i t
  | _, _, _, .str x t => .str x t
  | _, _, _, .list h1 h2 h3 h4 => .list h1 h2 h3 h4.reads
  | _, _, _, .tuple h1 h2 h3 h4 => .tuple h1 h2 h3 h4.reads
  | _, _, _, .dict _ h1 h2 h3 h4 h5 => .dict h1 h2 h3 h4.reads h5.reads
theorem RdSs.reads : ∀ {v : List Value} {d : List PyData} {as : List Addr}, RdSs h₀ v d as → ReadsAll h₀ v d as
  | _, _, _, .nil => .nil
  | _, _, _, .cons r rs => .cons r.reads rs.reads
end
mutual
theorem ReprK.of_rds : ∀ {v : Value} {d : PyData} {as : List Addr}, RdS h₀ v d as → d.showable = true → d.shown.length ≤ sizeLine → ∃ bs, ReadAtMost h₀ d.depth bs ∧ ReprK prog w bs h₀ d.depth v d.shown
  | _, _, _, .none, _, _ => ⟨[], (fun _ h => nomatch h), by simp only [PyData.shown]; exact .of_is ReprIs.none _ _ _⟩
  | _, _, _, .bool b, _, _ => ⟨[], (fun _ h => nomatch h), by simp only [PyData.shown]; exact .of_is (ReprIs.bool b) _ _ _⟩
  | _, _, _, .int i t, hs, _ => ⟨[], (fun _ h => nomatch h), by simp only [PyData.shown]; exact .of_is (ReprIs.int t (by simpa [PyData.showable] using hs)) _ _ _⟩
  | _, _, _, .str x t, _, hz => ⟨[], (fun _ h => nomatch h), by simp only [PyData.shown]; exact .of_is (ReprIs.str x t (by simpa only [PyData.shown] using hz)) _ _ _⟩
  | _, _, _, .list (a := a) (vs := vs) (xs := xs) h1 h2 h3 h4, hs, hz => by
    have hz' : (listText (PyData.shownAll xs)).length ≤ sizeLine := by simpa only [PyData.shown] using hz
    obtain ⟨bs, hb, hk⟩ := ReprAllK.of_rdss h4 (by simpa [PyData.showable] using hs) (fun t ht => Nat.le_trans (listText_mem_le ht) hz')
    have r : Reads h₀ (.ref a) (.list xs) _ := .list h1 h2 h3 h4.reads
    have hna : a ∉ bs := not_mem_of_deeper r (by simp only [PyData.depth]; omega) hb
    refine ⟨a :: bs, ReadAtMost.cons r (by simp only [PyData.depth]; omega) hb, ?_⟩
    simp only [PyData.depth, PyData.shown]
    obtain ⟨l⟩ := vs
    cases l with
    | nil =>
      have h4' : RdSs h₀ [] xs _ := h4
      cases h4'
      simp only [PyData.shownAll, listText_nil]
      exact ReprK.listEmpty h1 h2 h3
    | cons x l => exact ReprK.list h1 h2 h3 hna (by simpa using hk.length_eq) (fun i y e => hk.item i y (by simpa using e))
  | _, _, _, .tuple (a := a) (xs := xs) h1 h2 h3 h4, hs, hz => by
    have hz' : (tupleText (PyData.shownAll xs)).length ≤ sizeLine := by simpa only [PyData.shown] using hz
    obtain ⟨bs, hb, hk⟩ := ReprAllK.of_rdss h4 (by simpa [PyData.showable] using hs) (fun t ht => Nat.le_trans (tupleText_mem_le ht) hz')
    have r : Reads h₀ (.ref a) (.tuple xs) _ := .tuple h1 h2 h3 h4.reads
    have hna : a ∉ bs := not_mem_of_deeper r (by simp only [PyData.depth]; omega) hb
    refine ⟨a :: bs, ReadAtMost.cons r (by simp only [PyData.depth]; omega) hb, ?_⟩
    simp only [PyData.depth, PyData.shown]
    exact ReprK.tuple h1 h2 h3 hna hk
  | _, _, _, .dict (a := a) (es := es) (kvs := kvs) (as := as₁) (bs := bs₁) h0 h1 h2 h3 h4 h5, hs, hz => by
    have hz' : (dictText (PyData.shownKv kvs)).length ≤ sizeLine := by simpa only [PyData.shown] using hz
    obtain ⟨hs1, hs2⟩ := PyData.showableKv_split kvs (by simpa [PyData.showable] using hs)
    obtain ⟨b1, hb1, k1⟩ := ReprAllK.of_rdss h4 hs1 (fun t ht => let ⟨p, hp, hl⟩ := PyData.shownKv_key_le kvs t ht; Nat.le_trans hl (Nat.le_trans (dictText_mem_le hp) hz'))
    obtain ⟨b2, hb2, k2⟩ := ReprAllK.of_rdss h5 hs2 (fun t ht => let ⟨p, hp, hl⟩ := PyData.shownKv_val_le kvs t ht; Nat.le_trans hl (Nat.le_trans (dictText_mem_le hp) hz'))
    have r : Reads h₀ (.ref a) (.dict kvs) _ := .dict h1 h2 h3 h4.reads h5.reads
    have hb : ReadAtMost h₀ (PyData.depthKv kvs) (b1 ++ b2) := (hb1.mono (PyData.depthAll_keys_le kvs)).append (hb2.mono (PyData.depthAll_vals_le kvs))
    have hna : a ∉ b1 ++ b2 := not_mem_of_deeper r (by simp only [PyData.depth]; omega) hb
    refine ⟨a :: (b1 ++ b2), ReadAtMost.cons r (by simp only [PyData.depth]; omega) hb, ?_⟩
    simp only [PyData.depth, PyData.shown, PyData.shownKv_eq]
    exact ReprK.dict h1 h2 h3 h0 hna (ReprEntriesK.of_two es.toList _ _
      (k1.more_le (fun b hb => List.mem_append_left _ hb) (PyData.depthAll_keys_le kvs)) (k2.more_le (fun b hb => List.mem_append_right _ hb) (PyData.depthAll_vals_le kvs)))
theorem ReprAllK.of_rdss : ∀ {vs : List Value} {ds : List PyData} {as : List Addr}, RdSs h₀ vs ds as → PyData.showableAll ds = true → (∀ t ∈ PyData.shownAll ds, t.length ≤ sizeLine) →
    ∃ bs, ReadAtMost h₀ (PyData.depthAll ds) bs ∧ ReprAllK prog w bs h₀ (PyData.depthAll ds) vs (PyData.shownAll ds)
  | _, _, _, .nil, _, _ => ⟨[], (fun _ h => nomatch h), by simp only [PyData.shownAll]; exact .nil⟩
  | _, _, _, .cons (d := d) (ds := ds) r rs, hs, hz => by
    have hs' : d.showable = true ∧ PyData.showableAll ds = true := by simpa [PyData.showableAll] using hs
    obtain ⟨b1, hb1, k1⟩ := ReprK.of_rds r hs'.1 (hz _ (by simp only [PyData.shownAll]; exact List.mem_cons_self ..))
    obtain ⟨b2, hb2, k2⟩ := ReprAllK.of_rdss rs hs'.2 (fun t ht => hz t (by simp only [PyData.shownAll]; exact List.mem_cons_of_mem _ ht))
    refine ⟨b1 ++ b2, (hb1.mono (by simp only [PyData.depthAll]; omega)).append (hb2.mono (by simp only [PyData.depthAll]; omega)), ?_⟩
    simp only [PyData.depthAll, PyData.shownAll]
    exact .cons ((k1.more fun b hb => List.mem_append_left _ hb).level_le (Nat.le_max_left _ _)) (k2.more_le (fun b hb => List.mem_append_right _ hb) (Nat.le_max_right _ _))
end
variable {a : Addr} {d : PyData} {as : List Addr}
theorem showsBy_of_rds (r : RdS h₀ (.ref a) d as) (hs : d.showable = true) (hsz : d.shown.length ≤ sizeLine) : ∃ T idr, ShowsBy prog w h₀ a d T idr := by
  cases r with
  | list h1 h2 h3 h4 =>
    rename_i o vs n xs bs₀
    have hz' : (listText (PyData.shownAll xs)).length ≤ sizeLine := by simpa only [PyData.shown] using hsz
    obtain ⟨bs, hb, hk⟩ := ReprAllK.of_rdss (prog := prog) (w := w) h4 (by simpa [PyData.showable] using hs) (fun t ht => Nat.le_trans (listText_mem_le ht) hz')
    have hna : a ∉ bs := not_mem_of_deeper (.list h1 h2 h3 h4.reads) (by simp only [PyData.depth]; omega) hb
    refine ⟨"list", "list.__repr__", F.slot_list_repr.toG, F.slot_list_str, F.slot_list_format, fun s hk0 => ⟨o, hk0 _ _ h1, h2⟩, fun A E s Q hg hu hk0 hQ => ?_⟩
    simp only [PyData.depth] at hu
    simp only [PyData.shown] at hQ
    obtain ⟨l⟩ := vs
    cases l with
    | nil =>
      have h4' : RdSs h₀ [] xs _ := h4
      cases h4'
      simp only [PyData.shownAll, listText_nil] at hQ
      exact call_list_repr_empty ⟨o, hk0 _ _ h1, h2⟩ (hk0 _ _ h1) h3 (hQ s.heap _ _ fun _ _ e => e)
    | cons x l =>
      exact call_list_reprK h1 h2 h3 hna (by simpa using hk.length_eq) (fun i y e => hk.item i y (by simpa using e)) hg (fun b _ => Clear.nil b) hu hk0 hQ hz'
  | tuple h1 h2 h3 h4 =>
    rename_i o vs n xs
    have hz' : (tupleText (PyData.shownAll xs)).length ≤ sizeLine := by simpa only [PyData.shown] using hsz
    obtain ⟨bs, hb, hk⟩ := ReprAllK.of_rdss (prog := prog) (w := w) h4 (by simpa [PyData.showable] using hs) (fun t ht => Nat.le_trans (tupleText_mem_le ht) hz')
    have hna : a ∉ bs := not_mem_of_deeper (.tuple h1 h2 h3 h4.reads) (by simp only [PyData.depth]; omega) hb
    refine ⟨"tuple", "tuple.__repr__", F.slot_tuple_repr, F.slot_tuple_str, F.slot_tuple_format, fun s hk0 => ⟨o, hk0 _ _ h1, h2⟩, fun A E s Q hg hu hk0 hQ => ?_⟩
    simp only [PyData.depth] at hu
    simp only [PyData.shown] at hQ
    exact call_tuple_reprK h1 h2 h3 hna hk hg (fun b _ => Clear.nil b) hu hk0 hQ hz'
  | dict h0 h1 h2 h3 h4 h5 =>
    rename_i o es n kvs as₁ bs₁
    have hz' : (dictText (PyData.shownKv kvs)).length ≤ sizeLine := by simpa only [PyData.shown] using hsz
    obtain ⟨hs1, hs2⟩ := PyData.showableKv_split kvs (by simpa [PyData.showable] using hs)
    obtain ⟨b1, hb1, k1⟩ := ReprAllK.of_rdss (prog := prog) (w := w) h4 hs1 (fun t ht => let ⟨p, hp, hl⟩ := PyData.shownKv_key_le kvs t ht; Nat.le_trans hl (Nat.le_trans (dictText_mem_le hp) hz'))
    obtain ⟨b2, hb2, k2⟩ := ReprAllK.of_rdss (prog := prog) (w := w) h5 hs2 (fun t ht => let ⟨p, hp, hl⟩ := PyData.shownKv_val_le kvs t ht; Nat.le_trans hl (Nat.le_trans (dictText_mem_le hp) hz'))
    have hb : ReadAtMost h₀ (PyData.depthKv kvs) (b1 ++ b2) := (hb1.mono (PyData.depthAll_keys_le kvs)).append (hb2.mono (PyData.depthAll_vals_le kvs))
    have hna : a ∉ b1 ++ b2 := not_mem_of_deeper (.dict h1 h2 h3 h4.reads h5.reads) (by simp only [PyData.depth]; omega) hb
    refine ⟨"dict", "dict.__repr__", F.slot_dict_repr, F.slot_dict_str, F.slot_dict_format, fun s hk0 => ⟨o, hk0 _ _ h1, h2⟩, fun A E s Q hg hu hk0 hQ => ?_⟩
    simp only [PyData.depth] at hu
    simp only [PyData.shown, PyData.shownKv_eq] at hQ
    exact call_dict_reprK h1 h2 h3 h0 hna (ReprEntriesK.of_two es.toList _ _
      (k1.more_le (fun b hb => List.mem_append_left _ hb) (PyData.depthAll_keys_le kvs)) (k2.more_le (fun b hb => List.mem_append_right _ hb) (PyData.depthAll_vals_le kvs))) hg (fun b _ => Clear.nil b) hu hk0 hQ (by rw [← PyData.shownKv_eq]; exact hz')
theorem repr_of_rds {A : Around} {E : Value → Shared → Prop} {s : Shared} {Q : Value → Shared → Prop} (r : RdS h₀ (.ref a) d as) (hs : d.showable = true) (hg : A.guards = some []) (hu : A.units + (d.depth + 1) < cLine) (hk0 : ∀ b o, h₀.get? b = some o → s.heap.get? b = some o)
    (hQ : ∀ h' u tk, (∀ b o, s.heap.get? b = some o → h'.get? b = some o) → Q (.str d.shown u) { s with heap := h', toks := tk })
    (hsz : d.shown.length ≤ sizeLine) : wpAny (model prog w) A (call (.builtin "repr") [.ref a]) Q E s := by
  obtain ⟨T, idr, S⟩ := showsBy_of_rds (prog := prog) (w := w) r hs hsz
  exact call_repr_slot (by omega) (S.typeIs s hk0) S.slotRepr (S.call A.in1 E s _ hg (by show A.units + 1 + d.depth < cLine; omega) hk0 fun h' u tk hk => ⟨_, _, rfl, hQ h' u tk hk⟩)
end
end PySem
namespace Me
open PySem PySem.Spec PyProof.Rows L2
def keyPy : Key → PyData
  | .inl i => .int i
  | .inr x => .str x
def dkPy : DK → PyData
  | .k x => keyPy x
  | .t x => .tuple (x.map keyPy)
mutual
/-- a value as data, dicts too, cells looked through -/
inductive Rw (μ : Mu) : D → PyData → Prop
  | non : Rw μ .non .none
  | bl (b : Bool) : Rw μ (.bl b) (.bool b)
  | int (i : Int) : Rw μ (.int i) (.int i)
  | str (x : Str) : Rw μ (.str x) (.str x)
  | lst {ds : List D} {ps : List PyData} : Rws μ ds ps → Rw μ (.lst ds) (.list ps)
  | tup {ds : List D} {ps : List PyData} : Rws μ ds ps → Rw μ (.tup ds) (.tuple ps)
  | cell {j : Nat} {ds : List D} {ps : List PyData} : μ[j]? = some (.lst ds) → Rws μ ds ps → Rw μ (.cell j) (.list ps)
  | dct {t : Bool} {d : D} {kvs : List (DK × D)} {ps : List (PyData × PyData)} {ds : List D} {qs : List PyData} : vw μ d = .dct t kvs → ps.map (·.1) = kvs.map (fun p => dkPy p.1) → ds = kvs.map (·.2) → qs = ps.map (·.2) → Rws μ ds qs → Rw μ d (.dict ps)
inductive Rws (μ : Mu) : List D → List PyData → Prop
  | nil : Rws μ [] []
  | cons {d : D} {ds : List D} {p : PyData} {ps : List PyData} : Rw μ d p → Rws μ ds ps → Rws μ (d :: ds) (p :: ps)
end
theorem Rws.len {μ : Mu} : ∀ {ds : List D} {ps : List PyData}, Rws μ ds ps → ps.length = ds.length
  | _, _, .nil => rfl
  | _, _, .cons _ h => congrArg Nat.succ h.len
theorem key_rd {h : Heap} {k : Key} {v : Value} (e : keyIs k v = true) : ∃ as, RdS h v (keyPy k) as := by
  rcases keyIs_shape e with ⟨i, t, rfl, rfl⟩ | ⟨x, t, rfl, rfl⟩
  · exact ⟨_, .int i t⟩
  · exact ⟨_, .str x t⟩
theorem kv_rd {h : Heap} {k : Key} {u : Value} (e : RelV (kV k) u) : ∃ as, RdS h u (keyPy k) as := by
  cases k with
  | inl i => obtain ⟨t, rfl⟩ := e; exact ⟨_, .int i t⟩
  | inr x => obtain ⟨t, rfl⟩ := e; exact ⟨_, .str x t⟩
theorem kvs_rd {h : Heap} : ∀ {ks : List Key} {us : List Value}, Vals (ks.map kV) us → ∃ as, RdSs h us (ks.map keyPy) as
  | [], _, r => by cases r; exact ⟨_, .nil⟩
  | k :: ks, _, r => by
    cases r with
    | cons r1 r2 =>
      obtain ⟨_, h1⟩ := kv_rd (h := h) r1
      obtain ⟨_, h2⟩ := kvs_rd (h := h) r2
      exact ⟨_, .cons h1 h2⟩
end Me

/-! Me81: repr of values with dicts among them. -/
namespace Me
open PySem PySem.Spec PyProof.Rows L2
section
variable {Γ : Gam} {F H : Hp} {as : List Ad} {μ : Mu} {P : Program} {w : World}
theorem keysK_rd (h : Heap) : ∀ {es : List DictEntry} {vs : List (Key × V)} {qs : List (Key × Value)} {kvs : List (DK × D)}, Pairs (mixKind P w) es qs → KV vs qs → DKs Γ F as vs kvs →
    (∃ bs, RdSs h (es.map (·.key)) (kvs.map fun p => dkPy p.1) bs) ∧ Vals (vs.map (·.2)) (es.map (·.val)) ∧ DVs Γ F as (vs.map (·.2)) (kvs.map (·.2))
  | [], _, _, _, .nil, .nil, .nil => ⟨⟨_, .nil⟩, .nil, .nil⟩
  | e :: es, _, _, _, .cons h1 h2 t, .cons ⟨e1, r1⟩ t2, .cons d1 t3 => by
    obtain ⟨⟨_, i1⟩, i2, i3⟩ := keysK_rd h t t2 t3
    rw [← e1] at h1
    obtain ⟨_, k1⟩ := key_rd (h := h) h1
    refine ⟨⟨_, .cons k1 i1⟩, ?_, .cons d1 i3⟩
    refine .cons ?_ i2
    show RelV _ e.val
    rw [h2]
    exact r1
theorem keysT_rd {h : Heap} (ok : HOk P w H h) : ∀ {qs : List (List Key × Addr × Value)} {vs : List (List Key × V)} {kvs : List (DK × D)},
    Paired (fun (p : List Key × V) (q : List Key × Addr × Value) => p.1 = q.1 ∧ H q.2.1 = some (.tup (p.1.map kV)) ∧ RelV p.2 q.2.2) vs qs → DTs Γ F as vs kvs →
    (∃ bs, RdSs h ((qs.map (entryOfKey (tupleKind (mixKind P w)))).map (·.key)) (kvs.map fun p => dkPy p.1) bs) ∧ Vals (vs.map (·.2)) ((qs.map (entryOfKey (tupleKind (mixKind P w)))).map (·.val)) ∧ DVs Γ F as (vs.map (·.2)) (kvs.map (·.2))
  | [], _, _, .nil, .nil => ⟨⟨_, .nil⟩, .nil, .nil⟩
  | q :: qs, _, _, .cons ⟨e1, e2, r1⟩ t, .cons d1 t2 => by
    obtain ⟨⟨_, i1⟩, i2, i3⟩ := keysT_rd ok t t2
    obtain ⟨_, its, rv, o, g1, g2, n, g3⟩ := (show ObjOk P w H h _ (.tup _) from ok _ _ e2)
    obtain ⟨_, k1⟩ := kvs_rd (h := h) rv
    refine ⟨⟨_, .cons (.tuple g1 g2 g3 k1) i1⟩, .cons r1 i2, .cons d1 i3⟩
theorem sz_snd : ∀ ps : List (PyData × PyData), sizeOf (ps.map (·.2)) ≤ sizeOf ps
  | [] => Nat.le_refl _
  | (a, b) :: ps => by
    have := sz_snd ps
    simp only [List.map_cons, List.cons.sizeOf_spec, Prod.mk.sizeOf_spec]
    omega
theorem sz_pos (p : PyData) : 0 < sizeOf p := by cases p <;> simp <;> omega
theorem Rw.rdn {X : Cx} {pins : List (Addr × Obj)} {σ : L2.St} {s : Shared} (I : Inv X pins σ H s) (W : Wd Γ F H as μ) : ∀ n : Nat,
    (∀ (p : PyData) (v : V) (u : Value) (d : D), sizeOf p ≤ n → Rw μ d p → DV Γ F as v d → RelV v u → ∃ bs, RdS s.heap u p bs) ∧
    (∀ (ps : List PyData) (vs : List V) (us : List Value) (ds : List D), sizeOf ps ≤ n → Rws μ ds ps → DVs Γ F as vs ds → Vals vs us → ∃ bs, RdSs s.heap us ps bs) := by
  intro n
  induction n with
  | zero =>
    refine ⟨fun p v u d h => ?_, fun ps vs us ds h => ?_⟩
    · have := sz_pos p
      omega
    · cases ps with
      | nil => simp at h
      | cons p ps => simp at h
  | succ n ih =>
    obtain ⟨ih1, ih2⟩ := ih
    refine ⟨fun p v u d hn q r ru => ?_, fun ps vs us ds hn q r ru => ?_⟩
    · cases q with
      | non => cases r; cases ru; exact ⟨_, .none⟩
      | bl b => cases r; cases ru; exact ⟨_, .bool b⟩
      | int i => cases r; obtain ⟨t, rfl⟩ := ru; exact ⟨_, .int i t⟩
      | str x => cases r; obtain ⟨t, rfl⟩ := ru; exact ⟨_, .str x t⟩
      | @lst ds ps t =>
        have hs : sizeOf ps ≤ n := by simp only [PyData.list.sizeOf_spec] at hn; omega
        cases r with
        | lst h1 h2 =>
          cases ru
          obtain ⟨its, rv, ⟨o, n, ho, hc, _, hd⟩, _⟩ := I.list (show SqL X.K H _ _ from .inl (.inl (W.sub _ _ h1)))
          obtain ⟨_, hr⟩ := ih2 _ _ _ _ hs t h2 rv
          exact ⟨_, .list ho hc hd hr⟩
      | @tup ds ps t =>
        have hs : sizeOf ps ≤ n := by simp only [PyData.tuple.sizeOf_spec] at hn; omega
        cases r with
        | tup h1 h2 =>
          cases ru
          obtain ⟨its, rv, ⟨o, ho, hc, n, hd⟩, _⟩ := I.tuple (show SqT X.K H _ _ from .inl (.inl (W.sub _ _ h1)))
          obtain ⟨_, hr⟩ := ih2 _ _ _ _ hs t h2 rv
          exact ⟨_, .tuple ho hc hd hr⟩
      | @cell j ds ps hc t =>
        have hs : sizeOf ps ≤ n := by simp only [PyData.list.sizeOf_spec] at hn; omega
        cases r with
        | cell ha =>
          obtain ⟨_, _, vs, h1, h2⟩ := W.ok _ _ _ ha hc
          cases ru
          obtain ⟨its, rv, ⟨o, n, ho, hc, _, hd⟩, _⟩ := I.list (show SqL X.K H _ _ from .inl (.inl h1))
          obtain ⟨_, hr⟩ := ih2 _ _ _ _ hs t h2 rv
          exact ⟨_, .list ho hc hd hr⟩
      | @dct t d kvs ps ds qs hv z1 e1 e2 tr =>
        have hs : sizeOf qs ≤ n := by
          have := sz_snd ps
          simp only [PyData.dict.sizeOf_spec] at hn
          rw [e2]
          omega
        obtain ⟨a, rfl, hat⟩ := W.dct r hv
        cases ru
        cases t with
        | false =>
          obtain ⟨vs, hd, dks⟩ := hat
          obtain ⟨_, hsm, xs, kv, o, es, ep, h1, h2, h3, _, prs, _⟩ := dk_rd I.hok hd
          obtain ⟨⟨_, k1⟩, k2, k3⟩ := keysK_rd s.heap prs kv dks
          obtain ⟨_, hr⟩ := ih2 _ _ _ _ hs tr (e1.symm ▸ k3) k2
          exact ⟨_, .dict hsm h1 h2.1 h3 (by rw [z1]; exact k1) (e2 ▸ hr)⟩
        | true =>
          obtain ⟨vs, hd, dts⟩ := hat
          obtain ⟨_, hsm, xs, pr, o, es, ep, h1, h2, h3, h4, _⟩ := (show ObjOk X.prog X.w H s.heap a (.dT vs) from rd_of I.hok hd)
          obtain ⟨⟨_, k1⟩, k2, k3⟩ := keysT_rd I.hok pr dts
          rw [← h4] at k1 k2
          obtain ⟨_, hr⟩ := ih2 _ _ _ _ hs tr (e1.symm ▸ k3) k2
          exact ⟨_, .dict hsm h1 h2.1 h3 (by rw [z1]; exact k1) (e2 ▸ hr)⟩
    · cases q with
      | nil => cases r; cases ru; exact ⟨_, .nil⟩
      | @cons d ds p ps q1 q2 =>
        have hs : sizeOf p ≤ n ∧ sizeOf ps ≤ n := by
          have := sz_pos p
          simp only [List.cons.sizeOf_spec] at hn
          constructor <;> omega
        cases r with
        | cons r1 r2 =>
          cases ru with
          | cons u1 u2 =>
            obtain ⟨_, h1⟩ := ih1 _ _ _ _ hs.1 q1 r1 u1
            obtain ⟨_, h2⟩ := ih2 _ _ _ _ hs.2 q2 r2 u2
            exact ⟨_, .cons h1 h2⟩
theorem Rw.rd {X : Cx} {pins : List (Addr × Obj)} {σ : L2.St} {s : Shared} (I : Inv X pins σ H s) (W : Wd Γ F H as μ) {v : V} {u : Value} {d : D} {p : PyData} (q : Rw μ d p) (r : DV Γ F as v d) (ru : RelV v u) : ∃ bs, RdS s.heap u p bs :=
  (Rw.rdn I W (sizeOf p)).1 p v u d (Nat.le_refl _) q r ru
end
section
variable {S : Sc} {env : En} {μ : Mu} {P : KD} {d : D} {p : PyData}
theorem RdS.reprs {X : Cx} {pins : List (Addr × Obj)} {σ : L2.St} {H : Hp} {s : Shared} {u : Value} {bs : List Addr} {Q : VK} (gX : X.A.guards = some []) (hu : X.A.units + 66 < cLine) (I : Inv X pins σ H s) (r : RdS s.heap u p bs) (h1 : p.showable = true) (h2 : p.depth ≤ 64) (h3 : p.shown.length ≤ sizeLine) (q : Q (.str p.shown) H) :
    wpAny (model X.prog X.w) X.A (call (.builtin "repr") [u]) (EP X pins σ Q) X.xe s := by
  cases r with
  | none => exact PySem.P.repr_of_none ⟨.str _, H, I.tok _, ⟨_, rfl⟩, q⟩
  | bool b => exact PySem.P.repr_of_bool ⟨.str _, H, I.tok _, ⟨_, rfl⟩, q⟩
  | int i t => exact PySem.P.repr_of_int (of_decide_eq_true h1) ⟨.str _, H, I.tok _, ⟨_, rfl⟩, q⟩
  | str x t => exact PySem.P.repr_of_str ⟨.str _, H, I.tok _, ⟨_, rfl⟩, q⟩ h3
  | list a1 a2 a3 a4 => exact repr_of_rds (.list a1 a2 a3 a4) h1 gX (by omega) (fun _ _ e => e) (fun h' u tk kept => ⟨.str _, H, I.kept (t' := tk) kept, ⟨_, rfl⟩, q⟩) h3
  | tuple a1 a2 a3 a4 => exact repr_of_rds (.tuple a1 a2 a3 a4) h1 gX (by omega) (fun _ _ e => e) (fun h' u tk kept => ⟨.str _, H, I.kept (t' := tk) kept, ⟨_, rfl⟩, q⟩) h3
  | dict a0 a1 a2 a3 a4 a5 => exact repr_of_rds (.dict a0 a1 a2 a3 a4 a5) h1 gX (by omega) (fun _ _ e => e) (fun h' u tk kept => ⟨.str _, H, I.kept (t' := tk) kept, ⟨_, rfl⟩, q⟩) h3
/-- repr of what can be read as data -/
theorem c_reprW (hw : Rw μ d p) (h1 : p.showable = true) (h2 : p.depth ≤ 64) (h3 : p.shown.length ≤ sizeLine) (k : P (.str p.shown) μ) : Cl S (.builtin "repr") [d] env μ P := by
  intro pins s σ H xs us Q F as I r a r1 kk
  obtain ⟨x, rfl, r2⟩ := dvs1 r1
  obtain ⟨u, rfl, ru⟩ := vals1 r
  obtain ⟨_, hr⟩ := hw.rd I a.w r2 ru
  exact RdS.reprs S.hg (by have := S.hu; omega) I hr h1 h2 h3 (kk.now a.w k (.str _))
end
end Me

/-! Me82: join of texts; {name: v}; a dict of one name. -/
namespace Me
open PySem PySem.Spec PyProof.Rows L2
section
variable {S : Sc} {env : En} {μ : Mu} {P : KD} {pos apos cpos : Pos} {o e a b : Expr} {d : D}
theorem DVs.strsV {Γ : Gam} {F : Hp} {as : List Ad} : ∀ {ys : List Str} {vs : List V}, DVs Γ F as vs (ys.map D.str) → vs = ys.map V.str
  | [], _, .nil => rfl
  | y :: ys, _, .cons r t => by cases r; rw [DVs.strsV t]; rfl
theorem m_join {x : Str} {ys : List Str} (h1 : vw μ d = .lst (ys.map D.str) ∨ d = .tup (ys.map D.str)) (hz : (ys.map (·.length)).sum + ys.length * x.length ≤ 16777216) (k : P (.str (Txt.join x ys)) μ) : Mt S "str.join" (.str x) [d] μ P := ⟨_, mt_join, fun F H as v xs Q W r rs kk => by
  cases r
  obtain ⟨u, rfl, ru⟩ := dvs1 rs
  rcases h1 with h1 | rfl
  · obtain ⟨p, vs, rfl, hp, dv⟩ := W.lst ru h1
    obtain rfl := dv.strsV
    exact ⟨x, p, ys, rfl, rfl, .inl (.inl (.inl hp)), hz, kk.now W k (.str _)⟩
  · cases ru with
    | tup h2 h3 =>
      obtain rfl := h3.strsV
      exact ⟨x, _, ys, rfl, rfl, .inr (.inl (.inl (W.sub _ _ h2))), hz, kk.now W k (.str _)⟩⟩
theorem e_join (h : E S o env μ fun d μ1 => ∃ x, d = .str x ∧ E S e env μ1 fun d2 μ2 => ∃ ys : List Str, (vw μ2 d2 = .lst (ys.map D.str) ∨ d2 = .tup (ys.map D.str)) ∧ (ys.map (·.length)).sum + ys.length * x.length ≤ 16777216 ∧ P (.str (Txt.join x ys)) μ2)
    (hbase : attributeBase o "join" S.X.env (eval o S.X.env) = eval o S.X.env := by rfl) (hline : (apos.endLine == cpos.line) = true := by rfl) (hs : starEach [e] S.X.env = (false, eval e S.X.env) :: starEach [] S.X.env := by rfl) :
    E S (.Call (.Attribute o "join" apos) [e] [] cpos) env μ P := by
  refine e_bm PySem.F.plainAttrs_str PySem.F.slot_str_join PySem.F.type_str_join (h.imp fun d μ1 ⟨x, e1, h2⟩ => ?_) hbase (by rw [hs]; rfl) hline hs (by rfl)
  subst e1
  exact ⟨ty_str, a_cons (h2.imp fun d2 μ2 ⟨ys, e2, hz, p⟩ => a_nil (m_join e2 hz p)) hs⟩
end
end Me

/-! Me83: {name: v}, a dict of one tuple. -/
namespace Me
open PySem PySem.Spec PyProof.Rows L2
section
variable {prog : Program} {w : World} {A : Around} {E : Value → Shared → Prop} {s : Shared}
theorem disp1_set {kx vx : Expr} {env : Env} {pos : Pos} {Q : Value → Shared → Prop}
    (h : wpAny (model prog w) A (eval kx env) (fun kv s1 => wpAny (model prog w) A (eval vx env) (fun vv s2 => wpAny (model prog w) A (dictSet s.heap.objs.size kv vv) (fun _ s3 => Q (.ref s.heap.objs.size) s3) E s2) E s1) E
      { s with heap := s.heap.push { cls := .type "dict", data := .dict #[] } }) :
    wpAny (model prog w) A (eval (.Dict [some kx] [vx] pos) env) Q E s := by
  rw [arm_eval_Dict, zip_pairTrees [some kx] [vx] env pos rfl rfl, dictDisplay_pairs _ (by simp [pairTrees]) (by simp [pairTrees])]
  refine wpAny_bind (wpAny_standAt (wpAny_bind ?_))
  unfold subDict
  refine wpAny_bind (wpAny_alloc ?_)
  refine wpAny_bind (wpAny_holding ?_)
  rw [if_pos (by simp [pairTrees])]
  refine wpAny_bind (pairTrees_cons_walk (wpAny_mono h (fun kv s1 h1 => wpAny_mono h1 (fun vv s2 h2 => ?_) fun _ _ e => e) fun _ _ e => e))
  refine pairTrees_nil_walk ?_
  refine wpAny_holding ?_
  refine wpAny_bind ?_
  rw [List.forIn_cons]
  refine wpAny_bind (wpAny_bind (wpAny_mono h2 (fun _ s3 h3 => wpAny_pure ?_) fun _ _ e => e))
  dsimp only
  rw [List.forIn_nil]
  exact wpAny_pure (wpAny_pure (wpAny_pure (wpAny_pure h3)))
end
section
variable {X : Cx} {pins : List (Addr × Obj)} {σ : L2.St} {H : Hp} {s : Shared} {a b : Addr} {v : V} {r : Value} {A : Around} {E : Value → Shared → Prop}
theorem d_dictSetT {k : List Key} {Q : Unit → Shared → Prop} (hu : A.units < cLine) (I : Inv X pins σ H s) (e : H a = some (.dT [])) (eb : H b = some (.tup (k.map kV))) (rv : RelV v r) (h : ∀ s', Inv X pins σ (upd H a (.dT [(k, v)])) s' → Q () s') :
    wpAny (model X.prog X.w) A (dictSet a (.ref b) r) Q E s := by
  obtain ⟨z, hd, xs, rel, dd⟩ := dt_of I.hok e
  have hz : xs.length ≤ sizeLine := by rw [← Paired.length rel]; exact z
  have hl : (putK ([] : List (List Key × V)) k v).length ≤ sizeLine := by show 1 ≤ _; rw [sizeLine_eq]; omega
  refine wpAny_dictSet_heap (hsz := hz) hu (key_of I.hok eb) dd fun h' dd' hs => h _ ?_
  obtain ⟨q, es, ep, hq, h2, h3, h4, _, h5⟩ := dd'
  refine d_write I (by rw [e]; exact True.intro) hs ⟨q, hq⟩ ⟨hl, hd, _, (rel.put k eb rv).keeps fun c ys ec => ?_, q, es, ep, hq, h2, h3, h4, h5⟩
  rw [upd_ne (ne_of ec e (fun z => nomatch z))]
  exact ec
end
section
variable {S : Sc} {env : En} {μ : Mu} {P : KD} {pos : Pos}
theorem e_disp1T {a b : Expr} (h : E S a env (μ ++ [.dct true none []]) fun d1 μ1 => E S b env μ1 fun d2 μ2 => ∃ k, asDK true d1 = some (.t k) ∧ μ2[μ.length]? = some (.dct true none []) ∧ P (.cell μ.length) (μ2.set μ.length (.dct true none [(.t k, d2)]))) : E S (.Dict [some a] [b] pos) env μ P := by
  refine ⟨fun pins s σ H Q I ⟨F, as, a1, kk⟩ => disp1_set ?_⟩
  have np := I.hok.fresh (Nat.le_refl s.heap.objs.size)
  have I1 := I.laid (a := s.heap.objs.size) (o := .dT []) (h' := s.heap.push { cls := .type "dict", data := .dict #[] }) (t' := s.toks) (fun _ _ q => Heap.get?_push_of_some _ q) (Nat.le_refl _) (dt_empty s.heap I.big)
  obtain ⟨W3, g3⟩ := a1.w.addO (o := .dT []) (c := .dct true none []) np fun nF => ⟨nF, [], upd_same, .nil⟩
  have a2 := a1.go g3 W3
  have k2 := kk.go g3
  have had := a1.w.last (⟨s.heap.objs.size, none⟩ : Ad)
  generalize s.heap.objs.size = p at *
  refine thn (h.run pins _ σ _ (fun x H1 => ∃ d1 μ1 F1 as1, At S env μ1 σ H1 F1 as1 ∧ DV S.Γ F1 as1 x d1 ∧ Kv S F1 H1 as1 P Q ∧ as1[μ.length]? = some ⟨p, none⟩ ∧ E S b env μ1 fun d2 μ2 => ∃ k, asDK true d1 = some (.t k) ∧ μ2[μ.length]? = some (.dct true none []) ∧ P (.cell μ.length) (μ2.set μ.length (.dct true none [(.t k, d2)]))) I1
    ⟨_, _, a2, fun d μ' v F' H' as' hp g W r => ⟨d, μ', F', as', a2.go g W, r, k2.go g, g.at had, hp⟩⟩) fun kv s1 ⟨x, H1, I2, rx, d1, μ1, F1, as1, a3, r1, k3, had1, hb⟩ => ?_
  refine thn (hb.run pins _ σ _ (fun y H2 => ∃ d2 μ2 F2 as2, At S env μ2 σ H2 F2 as2 ∧ DV S.Γ F2 as2 x d1 ∧ DV S.Γ F2 as2 y d2 ∧ Kv S F2 H2 as2 P Q ∧ as2[μ.length]? = some ⟨p, none⟩ ∧ ∃ k, asDK true d1 = some (.t k) ∧ μ2[μ.length]? = some (.dct true none []) ∧ P (.cell μ.length) (μ2.set μ.length (.dct true none [(.t k, d2)]))) I2
    ⟨_, _, a3, fun d μ' v F' H' as' hp g W r => ⟨d, μ', F', as', a3.go g W, r1.mono g, r, k3.go g, g.at had1, hp⟩⟩) fun vv s2 ⟨y, H2, I3, ry, d2, μ2, F2, as2, a4, r1', r2, k4, had2, k, hk, hm, hP⟩ => ?_
  obtain ⟨c, rfl, hc⟩ := r1'.keyT hk
  cases rx
  obtain ⟨nF, vs, h1, h2⟩ := a4.w.ok _ _ _ had2 hm
  cases h2
  have h1 : H2 p = some (.dT []) := h1
  obtain ⟨W5, g5⟩ := a4.w.setD (o := .dT [(k, y)]) (kvs := [(.t k, d2)]) had2 hm fun nF => ⟨nF, _, upd_same, .cons r2 .nil⟩
  exact d_dictSetT (by have := S.hu; omega) I3 h1 (a4.w.sub _ _ hc) ry fun s' I' => ⟨.ref p, _, I', rfl, k4 _ _ _ _ _ _ hP g5 W5 (.cell (ad := ⟨p, none⟩) (g5.at had2))⟩
end
end Me

namespace Lm
open PySem PySem.Spec PyProof.Rows L2 Me
/-! ### the kinds of any value -/
def labB (x : Str) : Bool := (decide (1 ≤ x.length) && decide (x.length ≤ 8)) && x.cps.toList.all fun c => decide (c ∈ letS.cps.toList)
def isLabD : D → Bool | .str x => labB x | _ => false
def isStrD : D → Bool | .str _ => true | _ => false
def isTupD : D → Bool | .tup _ => true | _ => false
def isBlD : D → Bool | .bl _ => true | _ => false
def isIbD : D → Bool | .bl _ => true | .int _ => true | _ => false
def isIntD : D → Bool | .int _ => true | _ => false
def isNumD (m : Int) : D → Bool | .int i => decide (0 ≤ i) && decide (i < m) | _ => false
def tyS : D → String
  | .non => "NoneType" | .bl _ => "bool" | .int _ => "int" | .str _ => "str" | .lst _ => "list" | .tup _ => "tuple" | .dct _ _ => "dict" | _ => "object"
/-- a value whose type is known -/
def Kn (μ : Mu) (d : D) : Prop := (tyN (vw μ d)).isSome = true ∨ ∃ j t kvs, d = .cell j ∧ μ[j]? = some (.dct t none kvs)
theorem Kn.ty {S : Sc} {μ : Mu} {d : D} (h : Kn μ d) : TyI S μ d (.type (tyS (vw μ d))) := by
  rcases h with h | ⟨j, t, kvs, rfl, h⟩
  · have : tyN (vw μ d) = some (tyS (vw μ d)) := by
      generalize vw μ d = e at h
      cases e <;> first | rfl | exact nomatch h
    exact ty_dat this
  · rw [show vw μ (.cell j) = .dct t kvs from vw_dct h]
    exact ty_dct h
theorem Kn.tyne {μ : Mu} {d : D} (h : Kn μ d) : tyS (vw μ d) ≠ "object" := by
  intro z
  rcases h with h | ⟨j, t, kvs, rfl, h⟩
  · generalize vw μ d = e at h z
    cases e <;> simp [tyS] at z <;> simp [tyN] at h
  · rw [show vw μ (.cell j) = .dct t kvs from vw_dct h] at z
    simp [tyS] at z
theorem kit_str {K : PySem.W.Frag} {e : D} (h : tyS e ≠ "object") : PySem.W.kitOne K (.type (tyS e)) (.type "str") = some (isStrD e) := by
  cases e <;> first | rfl | exact absurd rfl h
theorem kit_tup {K : PySem.W.Frag} {e : D} (h : tyS e ≠ "object") : PySem.W.kitOne K (.type (tyS e)) (.type "tuple") = some (isTupD e) := by
  cases e <;> first | rfl | exact absurd rfl h
theorem kit_int {K : PySem.W.Frag} {e : D} (h : tyS e ≠ "object") : PySem.W.kitOne K (.type (tyS e)) (.type "int") = some (isIbD e) := by
  cases e <;> first | rfl | exact absurd rfl h
theorem kit_bool {K : PySem.W.Frag} {e : D} (h : tyS e ≠ "object") : PySem.W.kitOne K (.type (tyS e)) (.type "bool") = some (isBlD e) := by
  cases e <;> first | rfl | exact absurd rfl h
theorem vw_str {μ : Mu} {d : D} {x : Str} (h : vw μ d = .str x) : d = .str x := by
  cases d with
  | cell m =>
    simp only [vw] at h
    generalize μ[m]? = c at h
    cases c with
    | none => exact nomatch h
    | some c => cases c <;> exact nomatch h
  | _ => exact h
theorem vw_int {μ : Mu} {d : D} {x : Int} (h : vw μ d = .int x) : d = .int x := by
  cases d with
  | cell m =>
    simp only [vw] at h
    generalize μ[m]? = c at h
    cases c with
    | none => exact nomatch h
    | some c => cases c <;> exact nomatch h
  | _ => exact h
theorem vw_tupD {μ : Mu} {d : D} {x : List D} (h : vw μ d = .tup x) : d = .tup x := by
  cases d with
  | cell m =>
    simp only [vw] at h
    generalize μ[m]? = c at h
    cases c with
    | none => exact nomatch h
    | some c => cases c <;> exact nomatch h
  | _ => exact h
/-- texts and tuples are not endless -/
def Sz (d : D) : Prop := (∀ x, d = .str x → x.length ≤ sizeLine) ∧ ∀ ds, d = .tup ds → ds.length ≤ sizeLine
def CKInt : Ct := fun args μ P _ => ∃ d, args = [d] ∧ Kn μ d ∧ P (.bl (isIntD (vw μ d))) μ
def CKNum : Ct := fun args μ P _ => ∃ (m : Int) (d : D), args = [.int m, d] ∧ Kn μ d ∧ P (.bl (isNumD m (vw μ d))) μ
def CKLab : Ct := fun args μ P _ => ∃ d, args = [d] ∧ Kn μ d ∧ Sz d ∧ P (.bl (isLabD (vw μ d))) μ
def isNameD (μ : Mu) : D → Bool | .tup ds => ds.all fun d => isLabD (vw μ d) | _ => false
def isFullD (μ : Mu) : D → Bool | .tup ds => (ds.all fun d => isLabD (vw μ d)) && !ds.isEmpty | _ => false
/-- what may be asked whether it is a name -/
structure KnN (μ : Mu) (d : D) : Prop where
  kn : Kn μ d
  sz : Sz d
  it : ∀ ds, d = .tup ds → ∀ x ∈ ds, Kn μ x ∧ Sz x
def CKName : Ct := fun args μ P _ => ∃ d, args = [d] ∧ KnN μ d ∧ P (.bl (isNameD μ d)) μ
def CKFull : Ct := fun args μ P _ => ∃ d, args = [d] ∧ KnN μ d ∧ P (.bl (isFullD μ d)) μ
section
local macro_rules | `(tactic| walk_at "ev") => `(tactic| first
  | refine e_var 0 rfl ?_ | refine e_var 1 rfl ?_ | refine e_var 2 rfl ?_ | refine e_var 3 rfl ?_ | refine e_var 4 rfl ?_ | refine e_var 5 rfl ?_ | refine e_var 6 rfl ?_ | refine e_var 7 rfl ?_ | refine e_var 8 rfl ?_ | refine e_var 9 rfl ?_
  | refine e_var 10 rfl ?_ | refine e_var 11 rfl ?_ | refine e_var 12 rfl ?_ | refine e_var 13 rfl ?_ | refine e_var 14 rfl ?_ | refine e_var 15 rfl ?_ | refine e_var 16 rfl ?_ | refine e_var 17 rfl ?_ | refine e_var 18 rfl ?_ | refine e_var 19 rfl ?_ | refine e_var 20 rfl ?_)
local macro_rules | `(tactic| walk_at "ec") => `(tactic| first
  | refine k_len ?_ | refine k_int ?_ | refine k_tuple ?_ | refine k_list ?_ | refine k_repr ?_ | refine k_sorted ?_ | refine k_dict ?_ | refine k_all ?_ | refine k_min ?_ | refine k_abs ?_ | refine k_isinstance ?_)
local macro_rules | `(tactic| walk_at "ee") => `(tactic| first
  | ((with_reducible show Me.E _ (Expr.Name _ _) _ _ _); walk_at "ev")
  | ((with_reducible show Me.E _ (Expr.Constant _ _ _) _ _ _); first | refine e_int ?_ | refine e_str ?_ | refine e_bl ?_ | refine e_non ?_)
  | ((with_reducible show Me.E _ (Expr.BinOp _ _ _ _) _ _ _); refine e_bin ?_)
  | ((with_reducible show Me.E _ (Expr.Compare _ _ _ _) _ _ _); refine e_cmp ?_)
  | ((with_reducible show Me.E _ (Expr.Subscript _ (Expr.Slice _ _ _ _) _) _ _ _); refine e_sl ?_)
  | ((with_reducible show Me.E _ (Expr.Subscript _ _ _) _ _ _); refine e_ix ?_)
  | ((with_reducible show Me.E _ (Expr.Tuple _ _ _) _ _ _); refine e_tup ?_)
  | ((with_reducible show Me.E _ (Expr.UnaryOp UnaryOp.Not _ _) _ _ _); refine e_not ?_)
  | ((with_reducible show Me.E _ (Expr.UnaryOp _ _ _) _ _ _); refine e_un ?_)
  | ((with_reducible show Me.E _ (Expr.IfExp _ _ _ _) _ _ _); refine e_ite ?_)
  | ((with_reducible show Me.E _ (Expr.BoolOp _ _ _) _ _ _); first | refine e_one ?_ | refine e_and ?_ | refine e_or ?_)
  | ((with_reducible show Me.E _ (Expr.Call (Expr.Name _ _) _ _ _) _ _ _); walk_at "ec"))
local macro_rules | `(tactic| walk_at "bb") => `(tactic| first
  | refine b_nil ?_ | refine b_ret ?_ | refine b_setIx ?_ | refine b_expr ?_
  | refine b_set 0 ?_ | refine b_set 1 ?_ | refine b_set 2 ?_ | refine b_set 3 ?_ | refine b_set 4 ?_ | refine b_set 5 ?_ | refine b_set 6 ?_ | refine b_set 7 ?_ | refine b_set 8 ?_ | refine b_set 9 ?_ | refine b_set 10 ?_ | refine b_set 11 ?_ | refine b_set 12 ?_ | refine b_set 13 ?_ | refine b_set 14 ?_ | refine b_set 15 ?_ | refine b_set 16 ?_ | refine b_set 17 ?_ | refine b_set 18 ?_)
local macro_rules | `(tactic| walk_at "oo") => `(tactic| first
  | ((with_reducible show Op2 _ (binaryOp _) _ _ _ _ _); first
    | (with_reducible refine o_add ?_) | (with_reducible refine o_sub ?_)
    | ((with_reducible show Op2 _ (binaryOp Operator.Mod) (D.int _) (D.int _) _ _ _); refine o_mod (by first | decide | assumption | omega) ?_)
    | ((with_reducible show Op2 _ (binaryOp Operator.FloorDiv) (D.int _) (D.int _) _ _ _); refine o_fdiv (by first | decide | assumption | omega) ?_)
    | ((with_reducible show Op2 _ (binaryOp Operator.Mult) (D.int _) (D.int _) _ _ _); first | refine o_mul (Or.inr ⟨by decide, by decide⟩) ?_ | refine o_mul (Or.inl ⟨by decide, by decide⟩) ?_))
  | ((with_reducible show Op2 _ (compareOp _) _ _ _ _ _); first
    | (with_reducible refine o_lt ?_) | (with_reducible refine o_le ?_) | (with_reducible refine o_gt ?_) | (with_reducible refine o_ge ?_) | (with_reducible refine o_eqI ?_) | (with_reducible refine o_neI ?_) | (with_reducible refine o_eqS ?_) | (with_reducible refine o_neS ?_) | (with_reducible refine o_isN ?_) | (with_reducible refine o_isntN ?_))
  | (with_reducible refine o_neg ?_)
  | ((with_reducible show Cl _ (Value.type "int") _ _ _ _); refine c_int ?_)
  | ((with_reducible show Cl _ (Value.builtin "len") _ _ _ _); first | (with_reducible refine c_lenN ?_) | (with_reducible refine c_lenT ?_) | refine c_lenL rfl ?_)
  | ((with_reducible show Ix2 _ (D.tup _) _ _ _ _); refine x_tup rfl ?_)
  | ((with_reducible show Ix2 _ _ _ _ _ _); refine x_lst rfl rfl ?_))
local macro_rules | `(tactic| walk_at "me") => `(tactic| first
  | ((with_reducible show Me.E _ _ _ _ _); walk_at "ee")
  | ((with_reducible show Me.A _ _ _ _ _); first | refine a_cons ?_ | refine a_nil ?_)
  | ((with_reducible show Me.Thn _ _ _ (Out.next _ _)); refine thn_n ?_)
  | ((with_reducible show Me.B _ _ _ _ _); walk_at "bb")
  | ((with_reducible show Me.T _ _ _ _ _); first | refine t_cmp ?_ | refine t_bop ?_ | refine t_not ?_)
  | ((with_reducible show Me.W _ _ _ _ _); first | refine w_and1 ?_ | refine w_or1 ?_ | refine w_and ?_ | refine w_or ?_)
  | ((with_reducible show Me.OI _ _ _ _ _); first | refine o_none ?_ | refine o_some ?_)
  | walk_at "oo"
  | (with_reducible refine asT_i ?_)
  | (with_reducible refine ⟨_, rfl, ?_⟩))
local macro_rules | `(tactic| walk_at "go") => `(tactic| repeat (walk_at "me"))
variable {w : World} {P : Program} {base : Heap} {mg : Str → Option Value} {K : PySem.W.Frag} {Γ : Gam}
theorem ok_integerK (hK : Γ.K = K) {f : Addr} {fd : FuncData} {k : Nat} (F : Fun K "is_integer" "is_integer" sPIsInteger f fd) (hb : Bi mg) : Gd.FnG P w K mg base (L2.CX P w) (k + 1) f fd pPIsInteger (spM Γ CKInt) := by
  refine okM hK hb F scPIsInteger (by rintro _ _ _ _ ⟨d, rfl, _⟩; rfl) ?_
  rintro cdv A outer s H E hg rm _ μ Q Z ⟨d, rfl, hk, q⟩
  walk_at "go"
  refine e_ty hb.int Me.boot_int ?_
  walk_at "go"
  refine c_isi hk.ty rfl (kit_int hk.tyne) ⟨_, rfl, fun h1 => ?_, fun h1 => ?_⟩
  · walk_at "go"
    refine e_ty hb.bool Me.boot_bool ?_
    walk_at "go"
    refine c_isi hk.ty rfl (kit_bool hk.tyne) ⟨_, rfl, rt ?_⟩
    generalize vw μ d = e at h1 q ⊢
    cases e <;> first | exact q | exact nomatch h1
  · refine rt ?_
    generalize vw μ d = e at h1 q ⊢
    cases e <;> first | exact q | exact nomatch h1
theorem ok_numberK (hK : Γ.K = K) {f : Addr} {fd : FuncData} {k j : Nat} (F : Fun K "is_number" "is_number" sPIsNumber f fd) (hb : Bi mg) (FI : Fn P w K mg base Γ j "is_integer" CKInt) (hj : j ≤ k) : Gd.FnG P w K mg base (L2.CX P w) (k + 1) f fd pPIsNumber (spM Γ CKNum) := by
  refine okM hK hb F scPIsNumber (by rintro _ _ _ _ ⟨m, d, rfl, _⟩; rfl) ?_
  rintro cdv A outer s H E hg rm _ μ Q Z ⟨m, d, rfl, hk, q⟩
  walk_at "go"
  refine e_call FI ?_
  walk_at "go"
  refine ⟨d, rfl, hk, _, rfl, fun h1 => ?_, fun h1 => ?_⟩
  · obtain ⟨i, hi⟩ : ∃ i, vw μ d = .int i := by
      generalize vw μ d = e at h1
      cases e <;> first | exact ⟨_, rfl⟩ | exact nomatch h1
    obtain rfl := vw_int hi
    refine e_one (e_chLt ?_)
    walk_at "go"
    refine ⟨0, i, rfl, rfl, fun h => ?_, fun h => ?_⟩
    · walk_at "go"
      refine rt ?_
      have q : Q (.bl (decide (0 ≤ i) && decide (i < m))) μ := q
      rw [decide_eq_true h, Bool.true_and] at q
      exact q
    · refine rt ?_
      have q : Q (.bl (decide (0 ≤ i) && decide (i < m))) μ := q
      rw [decide_eq_false h, Bool.false_and] at q
      exact q
  · refine rt ?_
    generalize vw μ d = e at h1 q ⊢
    cases e <;> first | exact q | exact nomatch h1
def badLet : D → Bool | .str y => !decide (y.cps.toList.headD 0 ∈ letS.cps.toList) | _ => false
theorem bad_none : ∀ cs : List Nat, ((cs.map fun c => D.str ⟨#[c]⟩).filter badLet).isEmpty = cs.all fun c => decide (c ∈ letS.cps.toList)
  | [] => rfl
  | c :: cs => by
    rw [List.map_cons, List.filter_cons, List.all_cons]
    by_cases h : c ∈ letS.cps.toList
    · have : badLet (.str ⟨#[c]⟩) = false := by show (!decide (c ∈ letS.cps.toList)) = false; rw [decide_eq_true h]; rfl
      rw [this, if_neg (by decide), decide_eq_true h, Bool.true_and]
      exact bad_none cs
    · have : badLet (.str ⟨#[c]⟩) = true := by show (!decide (c ∈ letS.cps.toList)) = true; rw [decide_eq_false h]; rfl
      rw [this, if_pos rfl, decide_eq_false h, Bool.false_and]
      rfl
theorem ok_labelK (hK : Γ.K = K) {f : Addr} {fd : FuncData} {k : Nat} {t1 t2 : Tok} (F : Fun K "is_label" "is_label" sPIsLabel f fd) (hb : Bi mg) (hL : mg "LETTERS" = some (.str letS t1)) (hM : mg "MOST_LETTERS" = some (.int 8 t2)) : Gd.FnG P w K mg base (L2.CX P w) (k + 1) f fd pPIsLabel (spM Γ CKLab) := by
  refine okM hK hb F scPIsLabel (by rintro _ _ _ _ ⟨d, rfl, _⟩; rfl) ?_
  rintro cdv A outer s H E hg rm _ μ Q Z ⟨d, rfl, hk, sz, q⟩
  by_cases hs : isStrD (vw μ d) = true
  · obtain ⟨x, hx⟩ : ∃ x, vw μ d = .str x := by
      generalize vw μ d = e at hs
      cases e <;> first | exact ⟨_, rfl⟩ | exact nomatch hs
    obtain rfl := vw_str hx
    have q : Q (.bl (labB x)) μ := q
    unfold labB at q
    refine b_if ?_
    walk_at "go"
    refine t_val ?_
    walk_at "go"
    refine e_ty hb.str Me.boot_str ?_
    walk_at "go"
    refine c_isi (ty_dat (Tn := "str") rfl) rfl (q := true) (by rfl) ?_
    walk_at "go"
    refine ⟨(fun z => nomatch z), fun _ => ?_⟩
    refine w_or1 (t_not (t_chLe ?_))
    walk_at "go"
    refine c_lenS (sz.1 x rfl) ?_
    refine ⟨1, _, rfl, rfl, fun h1 => ?_, fun h1 => ?_⟩
    · refine e_gint hM ?_
      refine ⟨8, rfl, ?_⟩
      by_cases h8 : (x.length : Int) ≤ 8
      · rw [decide_eq_true h8]
        rw [decide_eq_true (show 1 ≤ x.length by omega), decide_eq_true (show x.length ≤ 8 by omega), Bool.true_and, Bool.true_and] at q
        refine ⟨(fun z => nomatch z), fun _ => ?_⟩
        walk_at "go"
        refine e_lc 1 rfl (blkOk_by (N := nPIsLabel) (sc := defScope sPIsLabel) (by decide +kernel)) (i_str ?_)
        walk_at "go"
        refine Comp.filt badLet (by unfold signsD; rw [List.length_map]; exact sz.1 x rfl) trivial (fun i d hd => ?_) ?_
        · unfold signsD at hd
          rw [List.getElem?_map] at hd
          obtain ⟨c, hc, rfl⟩ := Option.map_eq_some_iff.mp hd
          refine ⟨_, rfl, fun s H C cl fp => ?_, fun _ s H C cl fp => ?_⟩
          · walk_at "go"
            refine e_gstr hL ?_
            refine o_notInS ?_
            exact asT_i ⟨rfl, rfl⟩
          · walk_at "go"
            exact ⟨rfl, rfl⟩
        · refine e_lst (a_nil ⟨Nat.zero_le _, ?_⟩)
          refine o_eqL0 rfl rfl (rt ?_)
          have := bad_none x.cps.toList
          unfold signsD
          rw [this]
          exact q
      · rw [decide_eq_false h8]
        refine ⟨fun _ => ?_, fun z => nomatch z⟩
        walk_at "go"
        refine rt ?_
        rw [decide_eq_false (show ¬ x.length ≤ 8 by omega), Bool.and_false, Bool.false_and] at q
        exact q
    · refine ⟨fun _ => ?_, fun z => nomatch z⟩
      walk_at "go"
      refine rt ?_
      rw [decide_eq_false (show ¬ 1 ≤ x.length by omega), Bool.false_and, Bool.false_and] at q
      exact q
  · have hf : isStrD (vw μ d) = false := by simpa using hs
    have q : Q (.bl false) μ := by
      have e : isLabD (vw μ d) = false := by
        generalize vw μ d = e at hf ⊢
        cases e <;> first | rfl | exact nomatch hf
      rw [e] at q
      exact q
    refine b_if ?_
    walk_at "go"
    refine t_val ?_
    walk_at "go"
    refine e_ty hb.str Me.boot_str ?_
    walk_at "go"
    refine c_isi hk.ty rfl (kit_str hk.tyne) ?_
    rw [hf]
    walk_at "go"
    refine ⟨fun _ => ⟨fun _ => ?_, fun z => nomatch z⟩, fun z => nomatch z⟩
    walk_at "go"
    exact rt q
def okLab (μ : Mu) : D → Bool := fun d => isLabD (vw μ d)
theorem ok_nameK (hK : Γ.K = K) {f : Addr} {fd : FuncData} {k j : Nat} (F : Fun K "is_name" "is_name" sPIsName f fd) (hb : Bi mg) (FL : Fn P w K mg base Γ j "is_label" CKLab) (hj : j ≤ k) : Gd.FnG P w K mg base (L2.CX P w) (k + 1) f fd pPIsName (spM Γ CKName) := by
  refine okM hK hb F scPIsName (by rintro _ _ _ _ ⟨d, rfl, _⟩; rfl) ?_
  rintro cdv A outer s H E hg rm _ μ Q Z ⟨d, rfl, hk, q⟩
  by_cases ht : ∃ ds, d = .tup ds
  · obtain ⟨ds, rfl⟩ := ht
    walk_at "go"
    refine e_ty hb.tuple Me.boot_tuple ?_
    walk_at "go"
    refine c_isi (ty_dat (Tn := "tuple") rfl) rfl (q := true) (by rfl) ⟨true, rfl, fun _ => ?_, fun z => nomatch z⟩
    walk_at "go"
    refine e_lc 1 rfl (blkOk_by (N := nPIsName) (sc := defScope sPIsName) (by decide +kernel)) (i_tup ?_)
    walk_at "go"
    refine Comp.filt (fun d => !isLabD (vw μ d)) (hk.sz.2 ds rfl) trivial (fun i d hd => ?_) ?_
    · have hm := hk.it ds rfl d (List.mem_of_getElem? hd)
      refine ⟨_, rfl, fun s H C cl fp => ?_, fun _ s H C cl fp => ?_⟩
      · walk_at "go"
        refine t_val (e_call FL ?_)
        walk_at "go"
        refine ⟨_, rfl, ?_, hm.2, ?_⟩
        · exact hm.1
        · exact asT_i ⟨rfl, rfl⟩
      · walk_at "go"
        exact ⟨rfl, rfl⟩
    · refine e_lst (a_nil ⟨Nat.zero_le _, ?_⟩)
      refine o_eqL0 rfl rfl (rt ?_)
      have e : (ds.filter fun d => !isLabD (vw μ d)).isEmpty = ds.all fun d => isLabD (vw μ d) := by
        rw [Bool.eq_iff_iff]
        simp
      rw [e]
      exact q
  · have e : isNameD μ d = false := by
      cases d <;> first | rfl | exact absurd ⟨_, rfl⟩ ht
    rw [e] at q
    have e2 : isTupD (vw μ d) = false := by
      cases h : vw μ d <;> first | rfl | exact absurd ⟨_, vw_tupD h⟩ ht
    walk_at "go"
    refine e_ty hb.tuple Me.boot_tuple ?_
    walk_at "go"
    refine c_isi hk.kn.ty rfl (kit_tup hk.kn.tyne) ⟨_, rfl, fun z => ?_, fun _ => rt q⟩
    rw [e2] at z
    exact nomatch z
theorem ok_fullK (hK : Γ.K = K) {f : Addr} {fd : FuncData} {k j : Nat} (F : Fun K "is_full" "is_full" sPIsFull f fd) (hb : Bi mg) (FN : Fn P w K mg base Γ j "is_name" CKName) (hj : j ≤ k) : Gd.FnG P w K mg base (L2.CX P w) (k + 1) f fd pPIsFull (spM Γ CKFull) := by
  refine okM hK hb F scPIsFull (by rintro _ _ _ _ ⟨d, rfl, _⟩; rfl) ?_
  rintro cdv A outer s H E hg rm _ μ Q Z ⟨d, rfl, hk, q⟩
  walk_at "go"
  refine e_call FN ?_
  walk_at "go"
  refine ⟨d, rfl, hk, _, rfl, fun h1 => ?_, fun h1 => ?_⟩
  · obtain ⟨ds, rfl⟩ : ∃ ds, d = .tup ds := by
      cases d <;> first | exact ⟨_, rfl⟩ | exact nomatch h1
    walk_at "go"
    refine rt ?_
    have q : Q (.bl ((ds.all fun d => isLabD (vw μ d)) && !ds.isEmpty)) μ := q
    have h1 : (ds.all fun d => isLabD (vw μ d)) = true := h1
    rw [h1, Bool.true_and] at q
    rw [show decide ((0 : Int) < (ds.length : Int)) = !ds.isEmpty by cases ds <;> simp]
    exact q
  · refine rt ?_
    have e : isFullD μ d = false := by
      cases d with
      | tup ds => have h1 : (ds.all fun d => isLabD (vw μ d)) = false := h1
                  show ((ds.all fun d => isLabD (vw μ d)) && !ds.isEmpty) = false
                  rw [h1, Bool.false_and]
      | _ => rfl
    rw [e] at q
    exact q
end
end Lm

namespace Lm
open PySem PySem.Spec PyProof.Rows L2 Me
def CZUnder : Ct := fun args μ P _ => ∃ (d : D) (t : List Str) (ps : Zp), args = [d, nameD t] ∧ ZoneAt μ d ps ∧ Nm t 10 ∧ P (.lst (nmsD ((asc (keysZ ps)).filter fun n => isUnder n t))) μ
def stateS (ps : Zp) (n : List Str) : Str := if n ∈ keysZ ps then "found" else if ((keysZ ps).filter fun x => isUnder x n).isEmpty then "lost" else "empty"
def CZState : Ct := fun args μ P _ => ∃ (d : D) (n : List Str) (ps : Zp), args = [d, nameD n] ∧ ZoneAt μ d ps ∧ Nm n 10 ∧ P (.str (stateS ps n)) μ
def CZGet : Ct := fun args μ P _ => ∃ (d : D) (n : List Str) (v : Int) (ps : Zp), args = [d, nameD n] ∧ ZoneAt μ d ps ∧ N8 n 10 ∧ getZ ps n = some v ∧ P (.int v) μ
section
local macro_rules | `(tactic| walk_at "ev") => `(tactic| first
  | refine e_var 0 rfl ?_ | refine e_var 1 rfl ?_ | refine e_var 2 rfl ?_ | refine e_var 3 rfl ?_ | refine e_var 4 rfl ?_ | refine e_var 5 rfl ?_ | refine e_var 6 rfl ?_ | refine e_var 7 rfl ?_ | refine e_var 8 rfl ?_ | refine e_var 9 rfl ?_
  | refine e_var 10 rfl ?_ | refine e_var 11 rfl ?_ | refine e_var 12 rfl ?_ | refine e_var 13 rfl ?_ | refine e_var 14 rfl ?_ | refine e_var 15 rfl ?_ | refine e_var 16 rfl ?_ | refine e_var 17 rfl ?_ | refine e_var 18 rfl ?_ | refine e_var 19 rfl ?_ | refine e_var 20 rfl ?_)
local macro_rules | `(tactic| walk_at "ec") => `(tactic| first
  | refine k_len ?_ | refine k_int ?_ | refine k_tuple ?_ | refine k_list ?_ | refine k_repr ?_ | refine k_sorted ?_ | refine k_dict ?_ | refine k_all ?_ | refine k_min ?_ | refine k_abs ?_ | refine k_isinstance ?_)
local macro_rules | `(tactic| walk_at "ee") => `(tactic| first
  | ((with_reducible show Me.E _ (Expr.Name _ _) _ _ _); walk_at "ev")
  | ((with_reducible show Me.E _ (Expr.Constant _ _ _) _ _ _); first | refine e_int ?_ | refine e_str ?_ | refine e_bl ?_ | refine e_non ?_)
  | ((with_reducible show Me.E _ (Expr.BinOp _ _ _ _) _ _ _); refine e_bin ?_)
  | ((with_reducible show Me.E _ (Expr.Compare _ _ _ _) _ _ _); refine e_cmp ?_)
  | ((with_reducible show Me.E _ (Expr.Subscript _ (Expr.Slice _ _ _ _) _) _ _ _); refine e_sl ?_)
  | ((with_reducible show Me.E _ (Expr.Subscript _ _ _) _ _ _); refine e_ix ?_)
  | ((with_reducible show Me.E _ (Expr.Tuple _ _ _) _ _ _); refine e_tup ?_)
  | ((with_reducible show Me.E _ (Expr.UnaryOp UnaryOp.Not _ _) _ _ _); refine e_not ?_)
  | ((with_reducible show Me.E _ (Expr.UnaryOp _ _ _) _ _ _); refine e_un ?_)
  | ((with_reducible show Me.E _ (Expr.IfExp _ _ _ _) _ _ _); refine e_ite ?_)
  | ((with_reducible show Me.E _ (Expr.BoolOp _ _ _) _ _ _); first | refine e_one ?_ | refine e_and ?_ | refine e_or ?_)
  | ((with_reducible show Me.E _ (Expr.Call (Expr.Name _ _) _ _ _) _ _ _); walk_at "ec"))
local macro_rules | `(tactic| walk_at "bb") => `(tactic| first
  | refine b_nil ?_ | refine b_ret ?_ | refine b_setIx ?_ | refine b_expr ?_
  | refine b_set 0 ?_ | refine b_set 1 ?_ | refine b_set 2 ?_ | refine b_set 3 ?_ | refine b_set 4 ?_ | refine b_set 5 ?_ | refine b_set 6 ?_ | refine b_set 7 ?_ | refine b_set 8 ?_ | refine b_set 9 ?_ | refine b_set 10 ?_ | refine b_set 11 ?_ | refine b_set 12 ?_ | refine b_set 13 ?_ | refine b_set 14 ?_ | refine b_set 15 ?_ | refine b_set 16 ?_ | refine b_set 17 ?_ | refine b_set 18 ?_)
local macro_rules | `(tactic| walk_at "oo") => `(tactic| first
  | ((with_reducible show Op2 _ (binaryOp _) _ _ _ _ _); first
    | (with_reducible refine o_add ?_) | (with_reducible refine o_sub ?_)
    | ((with_reducible show Op2 _ (binaryOp Operator.Mod) (D.int _) (D.int _) _ _ _); refine o_mod (by first | decide | assumption | omega) ?_)
    | ((with_reducible show Op2 _ (binaryOp Operator.FloorDiv) (D.int _) (D.int _) _ _ _); refine o_fdiv (by first | decide | assumption | omega) ?_)
    | ((with_reducible show Op2 _ (binaryOp Operator.Mult) (D.int _) (D.int _) _ _ _); first | refine o_mul (Or.inr ⟨by decide, by decide⟩) ?_ | refine o_mul (Or.inl ⟨by decide, by decide⟩) ?_))
  | ((with_reducible show Op2 _ (compareOp _) _ _ _ _ _); first
    | (with_reducible refine o_lt ?_) | (with_reducible refine o_le ?_) | (with_reducible refine o_gt ?_) | (with_reducible refine o_ge ?_) | (with_reducible refine o_eqI ?_) | (with_reducible refine o_neI ?_) | (with_reducible refine o_eqS ?_) | (with_reducible refine o_neS ?_) | (with_reducible refine o_isN ?_) | (with_reducible refine o_isntN ?_))
  | (with_reducible refine o_neg ?_)
  | ((with_reducible show Cl _ (Value.type "int") _ _ _ _); refine c_int ?_)
  | ((with_reducible show Cl _ (Value.builtin "len") _ _ _ _); first | (with_reducible refine c_lenN ?_) | (with_reducible refine c_lenT ?_) | refine c_lenL rfl ?_)
  | ((with_reducible show Ix2 _ (D.tup _) _ _ _ _); refine x_tup rfl ?_)
  | ((with_reducible show Ix2 _ _ _ _ _ _); refine x_lst rfl rfl ?_))
local macro_rules | `(tactic| walk_at "me") => `(tactic| first
  | ((with_reducible show Me.E _ _ _ _ _); walk_at "ee")
  | ((with_reducible show Me.A _ _ _ _ _); first | refine a_cons ?_ | refine a_nil ?_)
  | ((with_reducible show Me.Thn _ _ _ (Out.next _ _)); refine thn_n ?_)
  | ((with_reducible show Me.B _ _ _ _ _); walk_at "bb")
  | ((with_reducible show Me.T _ _ _ _ _); first | refine t_cmp ?_ | refine t_bop ?_ | refine t_not ?_)
  | ((with_reducible show Me.W _ _ _ _ _); first | refine w_and1 ?_ | refine w_or1 ?_ | refine w_and ?_ | refine w_or ?_)
  | ((with_reducible show Me.OI _ _ _ _ _); first | refine o_none ?_ | refine o_some ?_)
  | walk_at "oo"
  | (with_reducible refine asT_i ?_)
  | (with_reducible refine ⟨_, rfl, ?_⟩))
local macro_rules | `(tactic| walk_at "go") => `(tactic| repeat (walk_at "me"))
variable {w : World} {P : Program} {base : Heap} {mg : Str → Option Value} {K : PySem.W.Frag} {Γ : Gam}
theorem ok_zget (hK : Γ.K = K) {f : Addr} {fd : FuncData} {k j1 : Nat} (F : Fun K "__getitem__" "Zone.__getitem__" sZone_getitem f fd) (hb : Bi mg) (FF : Fn P w K mg base Γ j1 "is_full" (CPure rFull)) (h1 : j1 ≤ k) (hf : Fld Γ "Zone" "its_values") : Gd.FnG P w K mg base (L2.CX P w) (k + 1) f fd pZone_getitem (spM Γ CZGet) := by
  refine okM hK hb F scZone_getitem (by rintro _ _ _ _ ⟨d, n, v, ps, rfl, _⟩; rfl) ?_
  rintro cdv A outer s H E hg rm _ μ Q Z ⟨_, n, v, ps, rfl, ⟨i, j, rfl, hi, hj, hz⟩, hn, hv, q⟩
  have hm : n ∈ keysZ ps := of_decide_eq_true (by rw [← getZ_some, hv]; rfl)
  have n0 := (hz.ns.ok n hm).2
  refine b_if (t_bop (w_or (t_not (t_val (e_call FF ?_)))))
  walk_at "go"
  refine ⟨_, ⟨n, rfl, by have := hn.len; omega, hn.lab, rfl⟩, ?_⟩
  rw [decide_eq_true n0]
  refine asT_i ⟨(fun z => nomatch z), fun _ => w_or1 (t_cmp ?_)⟩
  walk_at "go"
  refine e_fld "Zone" hf ?_
  walk_at "go"
  refine ⟨_, _, vw_ins hi, rfl, ?_⟩
  refine o_notInD (vw_dct hj) (asDK_name n) ?_
  rw [valZ, Option.isSome_map, hv]
  refine asT_i ⟨(fun z => nomatch z), fun _ => b_nil (thn_n ?_)⟩
  refine b_ret (e_ix (e_fld "Zone" hf ?_))
  walk_at "go"
  refine ⟨_, _, vw_ins hi, rfl, ?_⟩
  walk_at "go"
  exact x_dct (k := nmK n) (d := .int v) (vw_dct hj) (asDK_name n) (by rw [valZ, hv]; rfl) (rt q)
end
end Lm

namespace Lm
open PySem PySem.Spec PyProof.Rows L2 Me
open PySem.W (alike alikeAll)
/-! ### pairs of names and values, sorted; a name less -/
abbrev zpD (p : List Str × Int) : D := .tup [nameD p.1, .int p.2]
theorem pairs_zk (ps : Zp) : (ps.map zpD).map (asPair true) = (zk ps).map some := by
  unfold zk
  rw [List.map_map, List.map_map]
  refine List.map_congr_left fun p _ => ?_
  show (asDK true (nameD p.1)).map (fun k => (k, D.int p.2)) = _
  rw [asDK_name]
  rfl
theorem py_zp (p : List Str × Int) : (zpD p).py = .tuple [namePy p.1, .int p.2] := by
  show PyData.tuple [(nameD p.1).py, .int p.2] = _
  rw [py_name]
theorem items_zk (ps : Zp) : (zk ps).map itD = ps.map zpD := by
  unfold zk
  rw [List.map_map]
  refine List.map_congr_left fun p _ => ?_
  show D.tup [dkD (nmK p.1), .int p.2] = _
  rw [dk_nm]
theorem alike_names (a b : List Str) : alike (namePy a) (namePy b) = true := alike_strs a b
theorem le_pairs {a b : List Str × Int} (h : a.1 = b.1 → a = b) : PySem.W.dataLe false D.py (zpD a) (zpD b) = PySem.W.dataLe false D.py (nameD a.1) (nameD b.1) := by
  show (!PySem.W.dataLt (zpD b).py (zpD a).py) = (!PySem.W.dataLt (nameD b.1).py (nameD a.1).py)
  rw [py_zp, py_zp, py_name, py_name, PySem.W.dataLt_pair (alike_names _ _) (by simp [alike]), eqv_name]
  by_cases e : b.1 = a.1
  · have e2 := h e.symm
    subst e2
    rw [if_pos (by simp), if_pos (by simp [PyData.eqv])]
    have : PySem.W.dataLt (namePy a.1) (namePy a.1) = false := lex_irrefl _
    rw [this]
  · rw [if_neg (by simpa using e)]
theorem keys_inj {ps : Zp} (nd : (keysZ ps).Nodup) {a b : List Str × Int} (ha : a ∈ ps) (hb : b ∈ ps) (e : a.1 = b.1) : a = b := by
  have h1 := getZ_mem nd ha
  have h2 := getZ_mem nd hb
  rw [e, h2] at h1
  exact Prod.ext e (Option.some.inj h1).symm
theorem srt_pairs {ps : Zp} (nd : (keysZ ps).Nodup) : srt (ps.map zpD) = (asc (keysZ ps)).map fun n => zpD (n, (getZ ps n).getD 0) := by
  have e1 : srt (ps.map zpD) = (ps.mergeSort fun a b => PySem.W.dataLe false D.py (nameD a.1) (nameD b.1)).map zpD :=
    (List.map_mergeSort (f := zpD) (r := fun a b => PySem.W.dataLe false D.py (nameD a.1) (nameD b.1)) (s := PySem.W.dataLe false D.py) fun a ha b hb => (le_pairs (fun e => keys_inj nd ha hb e)).symm).symm
  have e2 : asc (keysZ ps) = (ps.mergeSort fun a b => PySem.W.dataLe false D.py (nameD a.1) (nameD b.1)).map (·.1) :=
    (List.map_mergeSort (f := fun p : List Str × Int => p.1) (r := fun a b : List Str × Int => PySem.W.dataLe false D.py (nameD a.1) (nameD b.1)) (s := fun a b : List Str => PySem.W.dataLe false D.py (nameD a) (nameD b)) fun _ _ _ _ => rfl).symm
  rw [e1, e2, List.map_map]
  refine List.map_congr_left fun p hp => ?_
  show zpD p = zpD (p.1, (getZ ps p.1).getD 0)
  rw [getZ_mem nd (List.mem_mergeSort.mp hp)]
  rfl
theorem zp_srtOk {ps : Zp} {k m : Nat} (h : Zn ps k m) (hm : m ≤ 1000) : SrtOk (ps.map zpD) := by
  refine ⟨?_, ?_, ?_, .inl ?_, by rw [List.length_map, sizeLine_eq]; have := h.len; omega, ?_⟩
  · have : ∀ l : Zp, D.isPys (l.map zpD) = true := fun l => by
      induction l with
      | nil => rfl
      | cons p l ih =>
        show ((zpD p).isPy && D.isPys (l.map zpD)) = true
        rw [ih, Bool.and_true]
        show ((nameD p.1).isPy && (true && true)) = true
        rw [show (nameD p.1).isPy = true from isPy_strs p.1]
        rfl
    exact this ps
  · have : ∀ l : Zp, PyData.hasDictAll (D.pys (l.map zpD)) = false := fun l => by
      induction l with
      | nil => rfl
      | cons p l ih =>
        show (PyData.hasDict (zpD p).py || PyData.hasDictAll (D.pys (l.map zpD))) = false
        rw [ih, py_zp, Bool.or_false]
        show (PyData.hasDict (namePy p.1) || (false || false)) = false
        rw [show PyData.hasDict (namePy p.1) = false from hasDict_strs p.1]
        rfl
    exact this ps
  · intro d hd d' hd'
    rw [List.map_map] at hd hd'
    obtain ⟨p, _, rfl⟩ := List.mem_map.mp hd
    obtain ⟨p', _, rfl⟩ := List.mem_map.mp hd'
    show alike (zpD p).py (zpD p').py = true
    rw [py_zp, py_zp, alike, alikeAll, alike_names, Bool.true_and, alikeAll]
    simp [alike, alikeAll]
  · intro d hd
    rw [List.map_map] at hd
    obtain ⟨p, _, rfl⟩ := List.mem_map.mp hd
    exact ⟨_, _, py_zp p⟩
  · intro d hd
    obtain ⟨p, _, rfl⟩ := List.mem_map.mp hd
    rw [py_zp]
    show PyData.depthAll [namePy p.1, .int p.2] + 1 ≤ 60
    have e : (namePy p.1).depth = 1 := by show PyData.depthAll (p.1.map .str) + 1 = 1; rw [depth_strs]
    rw [PyData.depthAll, e, PyData.depthAll, PyData.depthAll, PyData.depth]
    decide
def dropZ (ps : Zp) (n : List Str) : Zp := ps.filter fun p => decide (p.1 ≠ n)
theorem Zn.dropped {ps : Zp} {k m : Nat} {n : List Str} (h : Zn ps k m) : Zn (dropZ ps n) k m := by
  have sb : (dropZ ps n).Sublist ps := List.filter_sublist
  exact ⟨fun p hp => h.ok p (sb.subset hp), (sb.map _).nodup h.nd, Nat.le_trans sb.length_le h.len⟩
theorem ints_ok : ∀ v : Fin 1000, ((PyData.int ((v.val : Nat) : Int)).canLay0 && (PyData.int ((v.val : Nat) : Int)).showable && decide ((PyData.int ((v.val : Nat) : Int)).depth ≤ 0) && decide ((PyData.int ((v.val : Nat) : Int)).shown.length ≤ 10)) = true := by decide +kernel
theorem int_ok {v : Int} (h0 : 0 ≤ v) (h1 : v < 1000) : Ok (.int v) 0 10 := by
  have := ints_ok ⟨v.toNat, by omega⟩
  rw [show (((⟨v.toNat, by omega⟩ : Fin 1000).val : Nat) : Int) = v by show ((v.toNat : Nat) : Int) = v; omega] at this
  simp only [Bool.and_eq_true, decide_eq_true_eq] at this
  exact ⟨this.1.1.1, this.1.1.2, this.1.2, this.2⟩
end Lm

set_option maxHeartbeats 4000000
namespace Lm
open PySem PySem.Spec PyProof.Rows L2 Me
theorem nms_len (ns : List (List Str)) : (nmsD ns).length = ns.length := by unfold nmsD; rw [List.length_map]
theorem nms_at {ns : List (List Str)} {i : Nat} {d : D} (h : (nmsD ns)[i]? = some d) : ∃ n, d = nameD n ∧ n ∈ ns ∧ ns[i]? = some n := by
  unfold nmsD at h
  rw [List.getElem?_map] at h
  obtain ⟨n, h1, rfl⟩ := Option.map_eq_some_iff.mp h
  exact ⟨n, rfl, List.mem_of_getElem? h1, h1⟩
/-- a filter on names as one on values -/
def onN (p : List Str → Bool) : D → Bool
  | .tup ds => p (ds.map fun | .str x => x | _ => "")
  | _ => false
section
variable {S : Sc} {env : En} {μ : Mu} {P : KD} {ns : List (List Str)}
theorem o_eqNil {k m : Nat} (h : Ns ns k m) (kk : P (.bl ns.isEmpty) μ) : Op2 S (compareOp .Eq) (.lst (nmsD ns)) (.lst []) env μ P := by
  refine o_eq (e1 := .lst (nmsD ns)) (e2 := .lst []) rfl rfl ⟨isPys_nms ns, rfl, h.okD.shaped, rfl⟩ ?_
  rw [show eqv (.lst (nmsD ns)) (.lst []) = ns.isEmpty by
    rw [show D.lst [] = .lst (nmsD []) from rfl, eqv_nmsL]
    cases ns <;> rfl]
  exact kk
theorem o_neNil {k m : Nat} (h : Ns ns k m) (kk : P (.bl (!ns.isEmpty)) μ) : Op2 S (compareOp .NotEq) (.lst (nmsD ns)) (.lst []) env μ P := by
  refine o_ne (e1 := .lst (nmsD ns)) (e2 := .lst []) rfl rfl ⟨isPys_nms ns, rfl, h.okD.shaped, rfl⟩ ?_
  rw [show eqv (.lst (nmsD ns)) (.lst []) = ns.isEmpty by
    rw [show D.lst [] = .lst (nmsD []) from rfl, eqv_nmsL]
    cases ns <;> rfl]
  exact kk
end
theorem Ns.filter {ns : List (List Str)} {k m : Nat} (h : Ns ns k m) (p : List Str → Bool) : Ns (ns.filter p) k m := ⟨fun n hn => h.ok n ((List.mem_filter.mp hn).1), Nat.le_trans (List.length_filter_le _ _) h.len⟩
theorem strsD_inj {a b : List Str} (h : a.map D.str = b.map D.str) : a = b := List.map_inj_right (fun _ _ z => D.str.inj z) |>.mp h
theorem word_of {ls : List Str} {a b : Int} {d : D} (h : RWord [.lst (ls.map D.str), .int a, .int b] d) : ∃ n : List Str, d = nameD n ∧ a ≤ n.length ∧ n.length ≤ b ∧ ∀ x ∈ n, x ∈ ls := by
  obtain ⟨ls', a', b', n, e, h1, h2, h3, h4⟩ := h
  injection e with e1 e
  injection e with e2 e
  injection e with e3 e
  injection e1 with e1
  injection e2 with e2
  injection e3 with e3
  subst e2 e3
  rw [strsD_inj e1]
  exact ⟨n, h1, h2, h3, h4⟩
def Labs8 (ls : List Str) : Prop := ls ≠ [] ∧ ls.length ≤ 100 ∧ ∀ x ∈ ls, L8 x
theorem word_n8 {ls n : List Str} {k : Nat} (hl : Labs8 ls) (h : ∀ x ∈ n, x ∈ ls) (hk : n.length ≤ k) : N8 n k := ⟨fun x hx => hl.2.2 x (h x hx), hk⟩
theorem Ns.snoc {ns : List (List Str)} {n : List Str} {k m : Nat} (h : Ns ns k m) (hn : N8 n k) (h0 : n ≠ []) : Ns (ns ++ [n]) k (m + 1) :=
  ⟨fun x hx => (List.mem_append.mp hx).elim (h.ok x) fun z => by rw [List.mem_singleton.mp z]; exact ⟨hn, h0⟩, by rw [List.length_append]; have := h.len; show ns.length + 1 ≤ m + 1; omega⟩
theorem nd_snoc {ns : List (List Str)} {n : List Str} (h : ns.Nodup) (hn : n ∉ ns) : (ns ++ [n]).Nodup :=
  List.nodup_append.mpr ⟨h, by simp, fun a ha b hb => by rw [List.mem_singleton.mp hb]; exact fun z => hn (z ▸ ha)⟩
theorem nms_snoc (ns : List (List Str)) (n : List Str) : nmsD ns ++ [nameD n] = nmsD (ns ++ [n]) := by unfold nmsD; rw [List.map_append]; rfl
section
variable {S : Sc} {env : En} {μ : Mu} {P : KD} {ns : List (List Str)} {n : List Str} {d : D}
theorem o_notInN {k m j : Nat} (h : vw μ d = .lst (nmsD ns)) (hs : Ns ns k m) (hn : Nm n j) (kk : P (.bl (!decide (n ∈ ns))) μ) : Op2 S (compareOp .NotIn) (nameD n) d env μ P := by
  refine o_notInL (e1 := nameD n) rfl h ⟨isPy_strs n, isPys_nms ns, by rw [py_name]; exact hn.okD.shaped, hs.okD.shaped⟩ ?_
  rw [any_nms]
  exact kk
end
def CPickV : Ct := fun args μ P _ => ∃ (s : Bag) (m : Mu) (d : D) (ds : List D), args = [.cell 0, d] ∧ μ = bagC s :: m ∧ Good s ∧ (∀ s', vw (bagC s' :: m) d = .lst ds) ∧ ds ≠ [] ∧ ds.length < 1073741824 ∧ ∀ x s', x ∈ ds → Good s' → P x (bagC s' :: m)
theorem cutD_neg (ds : List D) (k : Nat) (hk : 0 < k) : cutD ds (some (-(k : Int))) none = ds.drop (ds.length - k) := by
  unfold Me.cutD
  have e : HT.sIx ds.length 0 (some (-(k : Int))) = ds.length - k := by
    show (if -(k : Int) < 0 then (-(k : Int) + (ds.length : Int)).toNat else _) = _
    rw [if_pos (by omega)]
    omega
  rw [e, HT.sIx_none]
  exact List.take_of_length_le (by rw [List.length_drop]; omega)
theorem o_neNilV {S : Sc} {env : En} {μ : Mu} {PP : KD} {ns : List (List Str)} {k m : Nat} {d : D} (hv : vw μ d = .lst (nmsD ns)) (h : Ns ns k m) (kk : PP (.bl (!ns.isEmpty)) μ) : Op2 S (compareOp .NotEq) d (.lst []) env μ PP := by
  refine o_ne (e1 := .lst (nmsD ns)) (e2 := .lst []) hv rfl ⟨isPys_nms ns, rfl, h.okD.shaped, rfl⟩ ?_
  rw [show eqv (.lst (nmsD ns)) (.lst []) = ns.isEmpty by
    rw [show D.lst [] = .lst (nmsD []) from rfl, eqv_nmsL]
    cases ns <;> rfl]
  exact kk
def CLValues : Ct := fun args μ P _ => ∃ (s : Bag) (m : Mu) (d : D) (ns : List (List Str)), args = [.cell 0, d] ∧ μ = bagC s :: m ∧ Good s ∧ (∀ s', vw (bagC s' :: m) d = .lst (nmsD ns)) ∧ ns.length ≤ 100 ∧ ns.Nodup ∧ ∀ s' ps, Good s' → keysZ ps = ns → (∀ p ∈ ps, 0 ≤ p.2 ∧ p.2 < 1000) → P (.cell (m.length + 1)) (bagC s' :: (m ++ [.dct true none (zk ps)]))
section
local macro_rules | `(tactic| walk_at "ev") => `(tactic| first
  | refine e_var 0 rfl ?_ | refine e_var 1 rfl ?_ | refine e_var 2 rfl ?_ | refine e_var 3 rfl ?_ | refine e_var 4 rfl ?_ | refine e_var 5 rfl ?_ | refine e_var 6 rfl ?_ | refine e_var 7 rfl ?_ | refine e_var 8 rfl ?_ | refine e_var 9 rfl ?_
  | refine e_var 10 rfl ?_ | refine e_var 11 rfl ?_ | refine e_var 12 rfl ?_ | refine e_var 13 rfl ?_ | refine e_var 14 rfl ?_ | refine e_var 15 rfl ?_ | refine e_var 16 rfl ?_ | refine e_var 17 rfl ?_ | refine e_var 18 rfl ?_ | refine e_var 19 rfl ?_ | refine e_var 20 rfl ?_)
local macro_rules | `(tactic| walk_at "ec") => `(tactic| first
  | refine k_len ?_ | refine k_int ?_ | refine k_tuple ?_ | refine k_list ?_ | refine k_repr ?_ | refine k_sorted ?_ | refine k_dict ?_ | refine k_all ?_ | refine k_min ?_ | refine k_abs ?_ | refine k_isinstance ?_)
local macro_rules | `(tactic| walk_at "ee") => `(tactic| first
  | ((with_reducible show Me.E _ (Expr.Name _ _) _ _ _); walk_at "ev")
  | ((with_reducible show Me.E _ (Expr.Constant _ _ _) _ _ _); first | refine e_int ?_ | refine e_str ?_ | refine e_bl ?_ | refine e_non ?_)
  | ((with_reducible show Me.E _ (Expr.BinOp _ _ _ _) _ _ _); refine e_bin ?_)
  | ((with_reducible show Me.E _ (Expr.Compare _ _ _ _) _ _ _); refine e_cmp ?_)
  | ((with_reducible show Me.E _ (Expr.Subscript _ (Expr.Slice _ _ _ _) _) _ _ _); refine e_sl ?_)
  | ((with_reducible show Me.E _ (Expr.Subscript _ _ _) _ _ _); refine e_ix ?_)
  | ((with_reducible show Me.E _ (Expr.Tuple _ _ _) _ _ _); refine e_tup ?_)
  | ((with_reducible show Me.E _ (Expr.UnaryOp UnaryOp.Not _ _) _ _ _); refine e_not ?_)
  | ((with_reducible show Me.E _ (Expr.UnaryOp _ _ _) _ _ _); refine e_un ?_)
  | ((with_reducible show Me.E _ (Expr.IfExp _ _ _ _) _ _ _); refine e_ite ?_)
  | ((with_reducible show Me.E _ (Expr.BoolOp _ _ _) _ _ _); first | refine e_one ?_ | refine e_and ?_ | refine e_or ?_)
  | ((with_reducible show Me.E _ (Expr.Call (Expr.Name _ _) _ _ _) _ _ _); walk_at "ec"))
local macro_rules | `(tactic| walk_at "bb") => `(tactic| first
  | refine b_nil ?_ | refine b_ret ?_ | refine b_setIx ?_ | refine b_expr ?_
  | refine b_set 0 ?_ | refine b_set 1 ?_ | refine b_set 2 ?_ | refine b_set 3 ?_ | refine b_set 4 ?_ | refine b_set 5 ?_ | refine b_set 6 ?_ | refine b_set 7 ?_ | refine b_set 8 ?_ | refine b_set 9 ?_ | refine b_set 10 ?_ | refine b_set 11 ?_ | refine b_set 12 ?_ | refine b_set 13 ?_ | refine b_set 14 ?_ | refine b_set 15 ?_ | refine b_set 16 ?_ | refine b_set 17 ?_ | refine b_set 18 ?_)
local macro_rules | `(tactic| walk_at "oo") => `(tactic| first
  | ((with_reducible show Op2 _ (binaryOp _) _ _ _ _ _); first
    | (with_reducible refine o_add ?_) | (with_reducible refine o_sub ?_)
    | ((with_reducible show Op2 _ (binaryOp Operator.Mod) (D.int _) (D.int _) _ _ _); refine o_mod (by first | decide | assumption | omega) ?_)
    | ((with_reducible show Op2 _ (binaryOp Operator.FloorDiv) (D.int _) (D.int _) _ _ _); refine o_fdiv (by first | decide | assumption | omega) ?_)
    | ((with_reducible show Op2 _ (binaryOp Operator.Mult) (D.int _) (D.int _) _ _ _); first | refine o_mul (Or.inr ⟨by decide, by decide⟩) ?_ | refine o_mul (Or.inl ⟨by decide, by decide⟩) ?_))
  | ((with_reducible show Op2 _ (compareOp _) _ _ _ _ _); first
    | (with_reducible refine o_lt ?_) | (with_reducible refine o_le ?_) | (with_reducible refine o_gt ?_) | (with_reducible refine o_ge ?_) | (with_reducible refine o_eqI ?_) | (with_reducible refine o_neI ?_) | (with_reducible refine o_eqS ?_) | (with_reducible refine o_neS ?_) | (with_reducible refine o_isN ?_) | (with_reducible refine o_isntN ?_))
  | (with_reducible refine o_neg ?_)
  | ((with_reducible show Cl _ (Value.type "int") _ _ _ _); refine c_int ?_)
  | ((with_reducible show Cl _ (Value.builtin "len") _ _ _ _); first | (with_reducible refine c_lenN ?_) | (with_reducible refine c_lenT ?_) | refine c_lenL rfl ?_)
  | ((with_reducible show Ix2 _ (D.tup _) _ _ _ _); refine x_tup rfl ?_)
  | ((with_reducible show Ix2 _ _ _ _ _ _); refine x_lst rfl rfl ?_))
local macro_rules | `(tactic| walk_at "me") => `(tactic| first
  | ((with_reducible show Me.E _ _ _ _ _); walk_at "ee")
  | ((with_reducible show Me.A _ _ _ _ _); first | refine a_cons ?_ | refine a_nil ?_)
  | ((with_reducible show Me.Thn _ _ _ (Out.next _ _)); refine thn_n ?_)
  | ((with_reducible show Me.B _ _ _ _ _); walk_at "bb")
  | ((with_reducible show Me.T _ _ _ _ _); first | refine t_cmp ?_ | refine t_bop ?_ | refine t_not ?_)
  | ((with_reducible show Me.W _ _ _ _ _); first | refine w_and1 ?_ | refine w_or1 ?_ | refine w_and ?_ | refine w_or ?_)
  | ((with_reducible show Me.OI _ _ _ _ _); first | refine o_none ?_ | refine o_some ?_)
  | walk_at "oo"
  | (with_reducible refine asT_i ?_)
  | (with_reducible refine ⟨_, rfl, ?_⟩))
local macro_rules | `(tactic| walk_at "go") => `(tactic| repeat (walk_at "me"))
variable {w : World} {P : Program} {base : Heap} {mg : Str → Option Value} {K : PySem.W.Frag} {Γ : Gam}
theorem ok_pickV (hK : Γ.K = K) {f : Addr} {fd : FuncData} {k j : Nat} (F : Fun K "_law_pick" "_law_pick" sPick f fd) (hb : Bi mg) (FT : Fn P w K mg base Γ j "_law_take" CTake) (hj : j ≤ k) : Gd.FnG P w K mg base (L2.CX P w) (k + 1) f fd pPick (spM Γ CPickV) := by
  refine okM hK hb F scPick (by rintro _ _ _ _ ⟨b, m, d, ds, rfl, _⟩; rfl) ?_
  rintro cdv A outer s H E hg rm _ _ Q Z ⟨b, m, d, ds, rfl, rfl, gb, hv, hd, hl, q⟩
  have hl0 : 0 < ds.length := List.length_pos_iff.mpr hd
  obtain ⟨d', hm, ha⟩ := at_draw (b := b) hd
  walk_at "go"
  refine e_call FT ?_
  walk_at "go"
  refine c_lenL (hv b) ?_
  walk_at "go"
  refine ctake gb (by omega) ?_
  refine x_lst (ds := ds) (hv _) (at_i (takeV_nonneg (by omega)) ha) (rt ?_)
  exact q d' _ hm (takeS_good gb (by omega))
set_option maxHeartbeats 4000000 in
theorem ok_lvalues (hK : Γ.K = K) {f : Addr} {fd : FuncData} {k j1 : Nat} (F : Fun K "_law_values" "_law_values" sLValues f fd) (hb : Bi mg) (FT : Fn P w K mg base Γ j1 "_law_take" CTake) (h1 : j1 ≤ k) : Gd.FnG P w K mg base (L2.CX P w) (k + 1) f fd pLValues (spM Γ CLValues) := by
  refine okM hK hb F scLValues (by rintro _ _ _ _ ⟨s, m, d, ns, rfl, _⟩; rfl) ?_
  rintro cdv A outer s H E hg rm _ _ Q Z ⟨b, m, d, ns, rfl, rfl, gb, hv, hl, nd, q⟩
  refine b_ret (k_dict (a_cons ?_))
  refine e_lc 2 rfl (blkOk_by (N := nLValues) (sc := defScope sLValues) (by decide +kernel)) (i_lst ?_)
  refine e_var 1 rfl ⟨_, hv b, fun c acc m' => ∃ s' ps, Good s' ∧ m' = bagC s' :: m ∧ acc = ps.map zpD ∧ keysZ ps = ns.take c ∧ ∀ p ∈ ps, 0 ≤ p.2 ∧ p.2 < 1000, ?_⟩
  refine ⟨by rw [nms_len, sizeLine_eq]; omega, ⟨b, [], gb, rfl, rfl, rfl, fun p hp => nomatch hp⟩, ?_, ?_, ?_⟩
  · rintro c acc m' ⟨s', ps, gs, rfl, _⟩
    exact hv s'
  · rintro c d5 acc _ hd ⟨s', ps, gs, rfl, rfl, hks, hvs⟩
    obtain ⟨n, rfl, hn, hnc⟩ := nms_at hd
    refine ⟨_, fun q m' => q = true ∧ m' = bagC s' :: m, rfl, fun _ _ _ _ _ => ts_nil ⟨rfl, rfl⟩, ?_⟩
    rintro _ _ ⟨rfl, rfl⟩
    refine ⟨fun _ s H C cl fp => ?_, fun z => nomatch z⟩
    refine e_tup (a_cons (e_var 2 rfl (a_cons (e_ix (e_lst ?_)))))
    walk_at "go"
    refine e_call FT ?_
    walk_at "go"
    refine ctake gs (by decide) ?_
    have t0 := takeV_nonneg (s := s') (n := 1000) (by decide)
    have t1 := takeV_lt (s := s') (n := 1000) (by decide)
    have g1 := takeS_good (n := 1000) gs (by decide)
    generalize takeV s' 1000 = x at t0 t1 ⊢
    generalize takeS s' 1000 = s4 at g1 ⊢
    refine a_nil ⟨by show 3 ≤ sizeLine; decide, e_call FT ?_⟩
    walk_at "go"
    refine ctake g1 (by decide) ?_
    have u0 := takeV_nonneg (s := s4) (n := 3) (by decide)
    have u1 := takeV_lt (s := s4) (n := 3) (by decide)
    have g2 := takeS_good (n := 3) g1 (by decide)
    generalize takeV s4 3 = y at u0 u1 ⊢
    generalize takeS s4 3 = s5 at g2 ⊢
    have fin : ∀ v : Int, 0 ≤ v → v < 1000 → ∃ s' ps', Good s' ∧ bagC s5 :: m = bagC s' :: m ∧ ps.map zpD ++ [.tup [nameD n, .int v]] = List.map zpD ps' ∧ keysZ ps' = ns.take (c + 1) ∧ ∀ p ∈ ps', 0 ≤ p.2 ∧ p.2 < 1000 := fun v v0 v1 => by
      refine ⟨s5, ps ++ [(n, v)], g2, rfl, by rw [List.map_append]; rfl, ?_, fun p hp => ?_⟩
      · unfold keysZ at hks ⊢
        rw [List.map_append, hks, take_one hnc]
        rfl
      · rcases List.mem_append.mp hp with z | z
        · exact hvs p z
        · rw [List.mem_singleton.mp z]; exact ⟨v0, v1⟩
    rcases (show y = 0 ∨ y = 1 ∨ y = 2 by omega) with rfl | rfl | rfl
    · refine x_lst (d := .int 0) rfl rfl (a_nil ⟨by show 2 ≤ sizeLine; decide, fin 0 (by decide) (by decide)⟩)
    · refine x_lst (d := .int 999) rfl rfl (a_nil ⟨by show 2 ≤ sizeLine; decide, fin 999 (by decide) (by decide)⟩)
    · refine x_lst (d := .int x) rfl rfl (a_nil ⟨by show 2 ≤ sizeLine; decide, fin x t0 t1⟩)
  · rintro acc _ ⟨s', ps, gs, rfl, rfl, hks, hvs⟩
    rw [nms_len, List.take_length] at hks
    refine a_nil (c_dictP true (ps := zk ps) rfl (pairs_zk ps) rfl ?_)
    rw [show putsD [] (zk ps) = zk ps by
      have := putsD_zk ps []
      rw [putsZ_nodup ps [] (by rw [List.nil_append, hks]; exact nd)] at this
      exact this]
    exact rt (q s' ps gs hks hvs)
end
end Lm

/-! Me84: sorted(set(names)); an instance beside None. -/
namespace Me
open PySem PySem.Spec PyProof.Rows L2
section
variable {Γ : Gam} {F H : Hp} {as : List Ad} {X : Cx} {pins : List (Addr × Obj)} {σ : L2.St} {s : Shared} {μ : Mu}
end
section
variable {S : Sc} {env : En} {μ : Mu} {e : Expr} {P : KD} {p p2 q pos q2 : Pos}
end
section
variable {S : Sc} {env : En} {μ : Mu} {c : String} {P : KD} {d1 : D} {k : Nat} {C : Ct}
end
end Me

/-! Me85: is, is not of two truths. -/
namespace Me
open PySem PySem.Spec PyProof.Rows L2
section
variable {S : Sc} {env : En} {μ : Mu} {P : KD} {X : Cx}
end
end Me

/-! Me86: for key in d: with early ends. -/
namespace Me
open PySem PySem.Spec PyProof.Rows L2
def LoopR1 (R : Out → Prop) (I : Nat → En → Mu → Prop) (k : Nat) : Out → Prop
  | .next env μ => I (k + 1) env μ
  | .cont env μ => I (k + 1) env μ
  | .brk env μ => R (.next env μ)
  | .ret sv μ => R (.ret sv μ)
structure Loop1 (S : Sc) (rel : D → En → En → Prop) (body : List Stmt) (R : Out → Prop) (env : En) (I : Nat → En → Mu → Prop) (ds : List D) (Sx : Mu → Prop) (μ : Mu) : Prop where
  start : I 0 env μ
  stay : ∀ k env μ, I k env μ → Sx μ
  turn : ∀ k d env μ, ds[k]? = some d → I k env μ → ∃ env', rel d env env' ∧ B S body env' μ (LoopR1 R I k)
  done : ∀ env μ, I ds.length env μ → R (.next env μ)
section
variable {S : Sc} {env : En} {μ : Mu} {tg iter : Expr} {body rest : List Stmt} {R : Out → Prop} {pos : Pos} {t : Bool} {kvs : List (DK × D)}
theorem b1_for {rel : D → En → En → Prop} {vs : List Nat} (hc : S.X.calm = true) (hg : Tg S tg rel vs)
    (h : Iter S tg iter env μ fun ds Sx μ1 => ∃ I, Loop1 S rel body R env I ds Sx μ1) (hf : ∀ x, foldedSetIterable iter S.X.env x = pure x := by intro _; rfl) : B1 S (.For tg iter body [] pos) env μ R := by
  refine PS.imp (ps_for S.hp hc h hg pss_y hf) fun D σ H ⟨F, as, a, k⟩ => ?_
  refine ⟨F, as, a, fun ds Sx μ1 J F1 H1 as1 ⟨I, L⟩ g1 W1 ⟨G, Y, w, hG, hY⟩ => ?_⟩
  refine for_it (g := rdG S rel vs) (tb := yS S.X body) (D := D) w (fun k σ H => ∃ env μ F2 as2, I k env μ ∧ EnvOk S.Γ F2 as2 env σ ∧ Wd S.Γ F2 H as2 μ ∧ Go F1 H1 as1 F2 H as2) ⟨env, μ1, F1, as1, L.start, a.e.mono g1, W1, Go.refl _ _ _⟩ ?_ ?_ ?_
  · rintro k σ2 H2 _ ⟨env2, μ2, F2, as2, i2, e2, W2, g2⟩
    exact hG F2 H2 as2 μ2 g2 W2 (L.stay k env2 μ2 i2)
  · rintro k2 v σ2 H2 H' hk ⟨env2, μ2, F2, as2, i2, e2, W2, g2⟩ y
    obtain ⟨F3, d, hd1, g3, W3, dv⟩ := hY k2 F2 H2 as2 μ2 v H' g2 W2 (L.stay k2 env2 μ2 i2) y hk
    obtain ⟨env3, r3, b3⟩ := L.turn k2 d env2 μ2 hd1 i2
    refine ⟨d, env2, env3, F3, as2, r3, dv, W3.sub, e2.mono g3, fun σ3 e3 _ => b3.go ⟨e3, W3, ((a.k.go g1).go g2).go g3⟩ ⟨?_, ?_, ?_, ?_⟩⟩
    · exact fun e4 m4 s4 F4 H4 as4 r4 g4 q4 W4 => ⟨e4, m4, F4, as4, r4, q4, W4, (g2.trans g3).trans g4⟩
    · exact fun e4 m4 s4 F4 H4 as4 r4 g4 W4 q4 => k.rt e4 m4 s4 F4 H4 as4 r4 (((g1.trans g2).trans g3).trans g4) W4 q4
    · exact fun e4 m4 s4 F4 H4 as4 r4 g4 q4 W4 => k.nx e4 m4 s4 F4 H4 as4 r4 (((g1.trans g2).trans g3).trans g4) q4 W4
    · exact fun e4 m4 s4 F4 H4 as4 r4 g4 q4 W4 => ⟨e4, m4, F4, as4, r4, q4, W4, (g2.trans g3).trans g4⟩
  · rintro σ2 H2 ⟨env2, μ2, F2, as2, i2, e2, W2, g2⟩
    exact k.nx env2 μ2 σ2 F2 H2 as2 (L.done env2 μ2 i2) (g1.trans g2) e2 W2
/-- for key in a dict cell -/
theorem b_forD (l : Nat) (hl : μ[l]? = some (.dct t none kvs)) {rel : D → En → En → Prop} {vs : List Nat} (hc : S.X.calm = true) (hg : Tg S.cold tg rel vs)
    (h : ∀ q, Iter S.cold tg iter env (μ.set l (.dct t (some q) kvs)) fun ds Sx μ1 => ∃ I, Loop1 S.cold rel body (LkR l t q kvs (Thn S rest R)) env I ds Sx μ1) (hf : ∀ x, foldedSetIterable iter S.cold.X.env x = pure x := by intro _; rfl) : B S (.For tg iter body [] pos :: rest) env μ R :=
  b_cons (b1_lock l hl fun q => b1_for hc hg (h q) hf)
end
end Me

set_option maxHeartbeats 4000000
/-! Me88: a dict of any keys: its type, its length, a walk over its keys. -/
namespace Me
open PySem PySem.Spec PyProof.Rows L2
section
variable {prog : Program} {w : World} {A : Around} {E : Value → Shared → Prop} {s : Shared}
theorem meets_dict_lenN (d : Addr) (hd : (d == sysModules) = false) :
    MeetsIn prog w (Builtin.«dict.__len__» ⟨[.ref d], []⟩) (fun _ R s => ∃ xs, DictN w s.heap d xs ∧ R (.ok (.ret (.int xs.length s.toks))) { s with toks := s.toks + 1 }) :=
  .of_wp fun A R s ⟨xs, hm, h⟩ => by
    obtain ⟨o, es, ep, ho, hc, hdat, he⟩ := hm
    show wpAny _ _ (dictSize d >>= _) _ _ s
    unfold dictSize
    refine wpAny_bind (wpAny_bind (wpAny_dictEntries ho hdat (wpAny_pure ?_)))
    show wpAny _ _ (Builtin.Dict.pendingCount d >>= _) _ _ s
    refine wpAny_bind (wpAny_pendingCount_other hd ?_)
    refine wpAny_ret_mkInt ?_
    rw [Nat.add_zero, ent_size he]; exact h
theorem wpAny_len_body_dictN {d : Addr} {xs : List NEt} {Q : Value → Shared → Prop} (hd : (d == sysModules) = false) (hm : DictN w s.heap d xs) (hfit : (xs.length : Int) < 2 ^ 63)
    (h : Q (.int xs.length (s.toks + 1)) { s with toks := s.toks + 1 + 1 }) : wpAny (model prog w) A (Builtin.«len» ⟨[.ref d], []⟩) (fun fin s' => ∃ r, fin = .done (.ret r) ∧ Q r s') E s := by
  unfold Builtin.«len»
  refine wpAny_bind (m := oneArg "len" _) (wpAny_pure ?_)
  refine wpAny_bind (m := callSpecial? (.ref d) (Str.ofString "__len__")) (wpAny_callSpecial?_slot (name := Str.ofString "__len__") hm.typeIs F.slot_dict_len
    (call_meetsIn F.slot_dict_len hm.typeIs F.entry_dict_len (F.args_dict_len_1 _) (meets_dict_lenN d hd) ⟨xs, hm, ?_⟩))
  show wpAny _ _ _ _ _ { s with toks := s.toks + 1 }
  refine wpAny_bind (wpAny_holding (wpAny_pure ?_))
  refine wpAny_bind (wpAny_letGo ?_)
  show wpAny _ _ (if ((xs.length : Nat) : Int) < 0 then _ else _) _ _ _
  rw [if_neg (by omega)]
  show wpAny _ _ (if ((xs.length : Nat) : Int) ≥ 2 ^ 63 then _ else _) _ _ _
  rw [if_neg (by omega)]
  exact wpAny_bind (wpAny_mkInt (wpAny_pure ⟨_, rfl, h⟩))
theorem call_len_dictN {d : Addr} {xs : List NEt} {Q : Value → Shared → Prop} (hd : (d == sysModules) = false) (hm : DictN w s.heap d xs) (hfit : (xs.length : Int) < 2 ^ 63)
    (h : Q (.int xs.length (s.toks + 1)) { s with toks := s.toks + 1 + 1 }) : wpAny (model prog w) A (call (.builtin "len") [.ref d]) Q E s :=
  Calls.call_function_entry kind_len plain_len entry_len (args_len1 _) (wpAny_len_body_dictN hd hm hfit h)
end
section
variable {X : Cx} {pins : List (Addr × Obj)} {σ : L2.St} {H : Hp} {s : Shared} {d : Addr} {o : Obj} {xs : List NV}
/-- a dict of any keys, as it lies -/
theorem inv_gd (I : Inv X pins σ H s) (h : H d = some (GDo X.w d xs)) : (d == sysModules) = false ∧ ∃ us : List NEt, DictN X.w s.heap d us ∧ Paired (fun (x : NV) (u : NEt) => x.1 = u.1 ∧ RelV x.2.1 u.2.1 ∧ RelV (.int x.2.2) u.2.2) xs us :=
  (I.hok d _ h).1
theorem inv_gl (I : Inv X pins σ H s) (h : H d = some (.frz o (GDo X.w d xs))) : (d == sysModules) = false ∧ s.heap.get? d = some o ∧ o.ExactDict ∧ ∃ (es : Array DictEntry) (ep : Nat), o.data = .dict es ep ∧ es.size = xs.length ∧
      ∀ (i : Nat) (x : NV), xs[i]? = some x → ∃ en : DictEntry, es[i]? = some en ∧ RelV x.2.1 en.key := by
  obtain ⟨hd, ⟨hs, us, ⟨o', es, ep, ho, hx, hdt, he⟩, pr⟩, _⟩ := I.hok d _ h
  rw [hd] at ho
  cases ho
  refine ⟨hs, hd, hx, es, ep, hdt, ?_, fun i x e => ?_⟩
  · rw [ent_size he, Paired.length pr]
  · obtain ⟨u, hu, _, r, _⟩ := paired_get pr e
    exact ⟨entN X.w u, by rw [ent_at he i, hu]; rfl, r⟩
end
/-- the keys of a locked dict of any keys -/
def Itkg (w : World) (d : Addr) (o : Obj) (xs : List NV) : It :=
  ⟨fun i H => H d = some (.frz o (GDo w d xs)) ∧ i < xs.length, fun i H x H' => H' = H ∧ ∃ k, xs[i]? = some k ∧ x = k.2.1, fun i H => H d = some (.frz o (GDo w d xs)) ∧ xs.length ≤ i⟩
section
variable {P : Program} {w : World} {K : PySem.W.Frag} {tg : Expr} {d : Addr} {o : Obj} {es : Array DictEntry} {ep : Nat} {xs : List NV}
theorem turn_keysG (it : Addr) (hod : o.data = .dict es ep) : Turn P w K tg (Itkg w d o xs) [it] it (fun i h => h.IsKeyIter it d i xs.length ep) where
  mem := by simp
  obj := fun i h st b hb => by
    have e : b = it := by simpa using hb
    subst e
    obtain ⟨oi, e, c, dd⟩ := st
    exact ⟨oi, e, fun v z => by rw [dd] at z; cases z⟩
  keep := fun i h h' st k => st.at fun oi e => k it (by simp) oi e
  item := by
    intro X hP hw hK hc i pins s σ H E I hf st hg
    subst hP hw hK
    obtain ⟨hd, hi⟩ := hg
    obtain ⟨f0, f1, f2, f3, f4, f5⟩ := hf it (by simp)
    obtain ⟨hs, hgd, hx, es', ep', hdt, hsz, ent⟩ := inv_gl I hd
    obtain ⟨rfl, rfl⟩ := dict_ep hod hdt
    obtain ⟨x, hkv⟩ : ∃ p, xs[i]? = some p := ⟨xs[i], List.getElem?_eq_getElem hi⟩
    obtain ⟨en, hen, hkey⟩ := ent i x hkv
    refine next_key_item st hgd hdt hsz hen fun h' st' sb => ?_
    have I1 : Inv X pins σ H { s with heap := h' } := I.turned (t' := s.toks) (fun b ob hb e => (sb.2 b hb).trans e) f0 f1 f3 f4 f5
    obtain ⟨oi, e, c, dd⟩ := id st'
    exact ⟨en.key, rfl, go_of (s := { s with heap := h' }) e c dd (by decide) ⟨x.2.1, H, I1, hkey, ⟨rfl, x, hkv, rfl⟩, st', fun b hb => (hf b hb).1⟩⟩
  done := by
    intro X hP hw hK hc i pins s σ H E I hf st hg
    subst hP hw hK
    obtain ⟨hd, hi⟩ := hg
    obtain ⟨f0, f1, f2, f3, f4, f5⟩ := hf it (by simp)
    obtain ⟨hs, hgd, hx, es', ep', hdt, hsz, ent⟩ := inv_gl I hd
    obtain ⟨rfl, rfl⟩ := dict_ep hod hdt
    exact next_key_end (I.ok.hd hc) st hgd hdt hsz hi fun h' eb => ⟨rfl, I.turned (t' := s.toks) (fun b ob hb e => eb b ob hb e) f0 f1 f3 f4 f5⟩
  self := fun A i s Q E st h => by
    refine wpAny_pyIter_slot st.typeIs F.slot_dict_keyiterator_iter (wpAny_call_entry F.slot_dict_keyiterator_iter st.typeIs F.entry_dict_keyiterator_iter ?_ (F.args_dict_keyiterator_iter_1 _))
    show wpAny _ _ (ret (.ref it)) _ _ s
    exact wpAny_pure ⟨_, rfl, "dict_keyiterator", _, st.typeIs, F.slot_dict_keyiterator_next.lookup, h⟩
theorem walk_keysG : Walk (Itkg w d o xs) xs.length (fun H => H d = some (.frz o (GDo w d xs))) (fun i H x H' => H' = H ∧ ∃ k, xs[i]? = some k ∧ x = k.2.1) :=
  ⟨fun _ _ hi q => ⟨q, hi⟩, fun _ q => ⟨q, Nat.le_refl _⟩, fun _ _ _ _ _ _ y => y⟩
theorem pi_keysG {X : Cx} {tg e : Expr} {td : TE} (he : PE X e td) : L2.PI X tg e (fun σ H R => td σ H fun x H1 => ∃ d o xs, x = .ref d ∧ H1 d = some (.frz o (GDo X.w d xs)) ∧ R (Itkg X.w d o xs) H1) := by
  refine ⟨fun pins s σ H R I h => ?_⟩
  refine thn (he.run pins s σ H _ I h) fun u s1 ⟨x, H1, I1, rx, d, o, xs, ex, hd, q⟩ => ?_
  subst ex
  obtain rfl : u = Value.ref d := rx
  obtain ⟨hs, hgd, hx, es, ep, hdt, hsz, ent⟩ := inv_gl I1 hd
  refine iter_keys hs hgd hx hdt (pi_one (tk := s1.toks) I1 _ (turn_keysG _ hdt) ⟨_, Heap.get?_push_size _ rfl, rfl, ?_⟩ q)
  rw [hsz] <;> rfl
end
section
variable {S : Sc} {env : En} {μ : Mu} {P : KD} {pos : Pos} {e iter tg : Expr} {PI : KI} {j : Nat} {i : Int} {kvs : List (NestedKey × Int)}
theorem c_lenG (hc : μ[j]? = some (.gd S.X.w kvs)) (hn : kvs.length ≤ 1000) (h : P (.int kvs.length) μ) : Cl S (.builtin "len") [.cell j] env μ P := by
  intro pins s σ H xs us Q F as I rx a r0 kk
  obtain ⟨x, rfl, r1⟩ := dvs1 r0
  cases r1 with
  | @cell _ ad ha =>
    obtain ⟨_, _, vs, h1, h2, h3⟩ := a.w.ok j ad _ ha hc
    cases rx with
    | cons rx rt =>
      cases rt
      cases rx
      obtain ⟨hs, us, hd, pr⟩ := inv_gd I h1
      have hl : us.length = kvs.length := by rw [← h3, List.length_map]; exact (Paired.length pr).symm
      refine call_len_dictN hs hd (by rw [hl]; omega) ?_
      rw [hl]
      exact ⟨.int ((kvs.length : Nat) : Int), H, I.tok _, ⟨_, rfl⟩, kk.now a.w h (.int _)⟩
theorem c_isiG {dc : D} {u : Value} {q : Bool} (hc : μ[j]? = some (.gd S.X.w kvs)) (hu : clsV S.Γ dc = some u) (hk : PySem.W.kitOne S.X.K (.type "dict") u = some q) (k : P (.bl q) μ) : Cl S (.builtin "isinstance") [.cell j, dc] env μ P := by
  intro pins s σ H xs us Q F as I rx a r0 kk
  obtain ⟨x, y, rfl, r1, r2⟩ := dvs2 r0
  cases r1 with
  | @cell _ ad ha =>
    obtain ⟨_, _, vs, h1, h2, h3⟩ := a.w.ok j ad _ ha hc
    obtain ⟨u1, u2, rfl, q1, q2⟩ := vals2 rx
    have e2 := (clsV_of r2 hu).eq q2
    subst e2
    cases (show u1 = Value.ref ad.a from q1)
    obtain ⟨hs, us, ⟨o, es, ep, ho, hx, _⟩, pr⟩ := inv_gd I h1
    exact PySem.W.kia_one PySem.W.kitx_dict I.kIn ⟨o, ho, hx.1⟩ hk (fun z => nomatch z) fun tk => ⟨.bl q, H, I.tok tk, rfl, kk.now a.w k (.bl q)⟩
/-- while such a dict is locked -/
theorem e_lockG (j : Nat) (hj : μ[j]? = some (.gd S.X.w kvs)) (h : ∀ q, E S.cold e env (μ.set j (.gl S.X.w q kvs)) fun d m => m[j]? = some (.gl S.X.w q kvs) ∧ P d (m.set j (.gd S.X.w kvs))) : E S e env μ P := by
  have h2 : PE S.X e (fun σ H Q => ∃ q, rdE S.cold env (μ.set j (.gl S.X.w q kvs)) (fun d m => m[j]? = some (.gl S.X.w q kvs) ∧ P d (m.set j (.gd S.X.w kvs))) σ H Q) := ⟨fun pins s σ H Q I ⟨q, z⟩ => (h q).run pins s σ H Q I z⟩
  refine PE.imp (pe_lock h2) fun σ H Q ⟨F, as, a, kk⟩ => ?_
  obtain ⟨ad, hat, ck⟩ := a.w.adAt hj
  obtain ⟨lk0, nF, vs, hv, hk, hm⟩ := ck
  refine ⟨ad.a, GDo S.X.w ad.a vs, hv, trivial, fun od => ⟨.frz od (GDo S.X.w ad.a vs), F, as, ?_⟩⟩
  obtain ⟨W1, g1⟩ := a.w.setO (o := .frz od (GDo S.X.w ad.a vs)) (c := .gl S.X.w (.frz od (GDo S.X.w ad.a vs)) kvs) hat nF ⟨lk0, nF, vs, od, rfl, upd_same, hk, hm⟩
  refine ⟨⟨a.e.mono g1, W1, ko_cold⟩, fun d m v F2 H2 as2 ⟨hm2, p2⟩ g2 W2 r2 => ?_⟩
  obtain ⟨lk2, nF2, vs2, od2, hq, hv2, hk2, hm3⟩ := W2.ok j ad _ (g2.at hat) hm2
  have eo : GDo S.X.w ad.a vs = GDo S.X.w ad.a vs2 := (HO.frz.inj hq).2
  refine ⟨hv2, ?_⟩
  obtain ⟨W3, g3⟩ := W2.setO (o := GDo S.X.w ad.a vs) (c := .gd S.X.w kvs) (g2.at hat) nF2 ⟨lk2, nF2, vs2, by rw [upd_same, eo], hk2, hm3⟩
  exact kk d _ v _ _ _ p2 ((g1.trans g2).trans g3) W3 (r2.mono g3)
/-- the one key None -/
theorem i_keysN (h : E S iter env μ fun d m => ∃ (j : Nat) (q : HO) (i : Int), d = .cell j ∧ m[j]? = some (.gl S.X.w q [(.none, i)]) ∧ PI [.non] (fun m' => m'[j]? = some (.gl S.X.w q [(.none, i)])) m) : Iter S tg iter env μ PI := by
  refine Me.PI.imp (pi_keysG h) fun σ H R ⟨F, as, a, k⟩ => ⟨F, as, a, fun d m v F1 H1 as1 ⟨j, q, i, e1, hj, p1⟩ g1 W1 r1 => ?_⟩
  subst e1
  cases r1 with
  | @cell _ ad hp =>
    obtain ⟨_, _, vs, od, rfl, hv, hk, hm⟩ := W1.ok j ad _ hp hj
    have hl : vs.length = 1 := by have := congrArg List.length hm; rwa [List.length_map] at this
    refine ⟨ad.a, od, vs, rfl, hv, k _ _ m (Itkg S.X.w ad.a od vs) F1 H1 as1 p1 g1 W1 ⟨_, _, by show Walk _ 1 _ _; rw [← hl]; exact walk_keysG, ?_, ?_⟩⟩
    · intro F2 H2 as2 μ2 g2 W2 h2
      obtain ⟨_, _, vs2, od2, e2, hv2, _⟩ := W2.ok j ad _ (g2.at hp) h2
      exact hv2
    · rintro n F2 H2 as2 μ2 x H' g2 W2 h2 ⟨rfl, kk, h3, rfl⟩ hi
      have hn : n = 0 := by have := hi; simp at this; omega
      subst hn
      obtain ⟨x0, rfl⟩ : ∃ x0, vs = [x0] := by
        match vs, hl with
        | [x0], _ => exact ⟨x0, rfl⟩
      obtain rfl : x0 = kk := by simpa using h3
      have e0 : x0.1 = .none := by have := congrArg List.head? hm; simp at this; exact this.1
      have nk := (hk.key x0 (by simp)).1
      rw [e0] at nk
      generalize x0.2.1 = v0 at nk
      cases nk
      exact ⟨F2, .non, rfl, Go.refl _ _ _, W2, .non⟩
end
end Me

set_option maxHeartbeats 4000000
namespace Lm
open PySem PySem.Spec PyProof.Rows L2 Me
mutual
theorem fl_refs : ∀ {d : D}, d.fl = true → d.refs = []
  | .non, _ => rfl
  | .bl _, _ => rfl
  | .int _, _ => rfl
  | .str _, _ => rfl
  | .lst ds, h => by rw [D.refs]; exact fls_refs (by simpa [D.fl] using h)
  | .tup ds, h => by rw [D.refs]; exact fls_refs (by simpa [D.fl] using h)
  | .dct _ _, h => by simp [D.fl] at h
  | .ins _ _, h => by simp [D.fl] at h
  | .err _ _, h => by simp [D.fl] at h
  | .ty _, h => by simp [D.fl] at h
  | .cls _, h => by simp [D.fl] at h
  | .cell _, h => by simp [D.fl] at h
theorem fls_refs : ∀ {ds : List D}, D.fls ds = true → D.refsL ds = []
  | [], _ => rfl
  | d :: ds, h => by
    simp only [D.fls, Bool.and_eq_true] at h
    rw [D.refsL, fl_refs h.1, fls_refs h.2]
    rfl
end
theorem fl_vw {d : D} (h : d.fl = true) (μ : Mu) : vw μ d = d := by
  cases d with
  | cell j => simp [D.fl] at h
  | _ => rfl
theorem fl_kn {d : D} (h : d.fl = true) (μ : Mu) : Kn μ d := by
  refine .inl ?_
  rw [fl_vw h]
  cases d <;> first | rfl | simp [D.fl] at h
def smallB : D → Bool | .str x => decide (x.length ≤ 1000) | .tup ds => decide (ds.length ≤ 1000) | _ => true
theorem small_sz {d : D} (h : smallB d = true) : Sz d := by
  refine ⟨fun x e => ?_, fun ds e => ?_⟩
  · subst e
    have : x.length ≤ 1000 := of_decide_eq_true h
    rw [sizeLine_eq]; omega
  · subst e
    have : ds.length ≤ 1000 := of_decide_eq_true h
    rw [sizeLine_eq]; omega
def itemsB : D → Bool | .tup ds => ds.all fun d => d.fl && smallB d | _ => true
theorem knN_fl {d : D} (h : d.fl = true) (hs : smallB d = true) (hi : itemsB d = true) (μ : Mu) : KnN μ d := by
  refine ⟨fl_kn h μ, small_sz hs, fun ds e x hx => ?_⟩
  subst e
  have := List.all_eq_true.mp hi x hx
  simp only [Bool.and_eq_true] at this
  exact ⟨fl_kn this.1 μ, small_sz this.2⟩
theorem full_fl {d : D} (μ : Mu) (h : d.fl = true) (hi : itemsB d = true) : isFullD μ d = isFullD [] d := by
  cases d with
  | tup ds =>
    show ((ds.all fun d => isLabD (vw μ d)) && _) = ((ds.all fun d => isLabD (vw [] d)) && _)
    congr 1
    rw [Bool.eq_iff_iff, List.all_eq_true, List.all_eq_true]
    refine forall_congr' fun x => ⟨fun q hx => ?_, fun q hx => ?_⟩
    · have := List.all_eq_true.mp hi x hx
      simp only [Bool.and_eq_true] at this
      have q := q hx
      rw [fl_vw this.1] at q ⊢
      exact q
    · have := List.all_eq_true.mp hi x hx
      simp only [Bool.and_eq_true] at this
      have q := q hx
      rw [fl_vw this.1] at q ⊢
      exact q
  | _ => rfl

/-! ### dicts of any keys and values -/
abbrev Kvs := List (DK × D)
def keyB (k : DK) : Bool := (dkD k).fl && smallB (dkD k) && itemsB (dkD k)
structure KvOk (t : Bool) (kvs : Kvs) : Prop where
  kd : ∀ p ∈ kvs, asDK t (dkD p.1) = some p.1
  nd : (kvs.map (·.1)).Nodup
  len : kvs.length ≤ 1000
  ky : ∀ p ∈ kvs, keyB p.1 = true
  vl : ∀ p ∈ kvs, p.2.fl = true
  kl : ∀ p ∈ kvs, ∀ x, p.1 = .t x → x.length ≤ 10
def okKV (kvs : Kvs) : Bool := kvs.all fun p => isFullD [] (dkD p.1) && isNumD 1000 p.2
def okZ (kvs : Kvs) : Bool := decide (kvs.length ≤ 30) && okKV kvs
/-- what may be handed to Zone, and whether one is made -/
inductive ZArg (w : World) (μ : Mu) (d : D) : Bool → Prop
  | dct (j : Nat) (t : Bool) (kvs : Kvs) (e : d = .cell j) (h : μ[j]? = some (.dct t none kvs)) (ok : KvOk t kvs) (ht : t = true ∨ okZ kvs = false) : ZArg w μ d (okZ kvs)
  | kn (h : Kn μ d) (e : tyS (vw μ d) ≠ "dict") : ZArg w μ d false
  | ins (fs : List (Str × D)) (h : vw μ d = .ins "Zone" fs) : ZArg w μ d false
  | gd (j : Nat) (i : Int) (k : NestedKey) (hk : nk .non = some k) (e : d = .cell j) (h : μ[j]? = some (.gd w [(k, i)])) : ZArg w μ d false
theorem ZArg.app {w : World} {μ ext : Mu} {d : D} {b : Bool} (h : ZArg w μ d b) : ZArg w (μ ++ ext) d b := by
  cases h with
  | gd j i k hk e h => exact .gd j i k hk e (at_app h)
  | dct j t kvs e h ok ht => exact .dct j t kvs e (at_app h) ok ht
  | kn h e =>
    rcases h with h | ⟨j, t, kvs, rfl, h⟩
    · by_cases hc : ∃ j, d = .cell j
      · obtain ⟨j, rfl⟩ := hc
        have hv : vw (μ ++ ext) (.cell j) = vw μ (.cell j) := by
          simp only [vw] at h ⊢
          match hm : μ[j]?, h with
          | some c, h => rw [at_app hm]
          | none, h => exact nomatch h
        exact .kn (.inl (by rw [hv]; exact h)) (by rw [hv]; exact e)
      · have hv : ∀ m, vw m d = d := fun m => by cases d <;> first | rfl | exact absurd ⟨_, rfl⟩ hc
        exact .kn (.inl (by rw [hv] at h ⊢; exact h)) (by rw [hv] at e ⊢; exact e)
    · exact .kn (.inr ⟨j, t, kvs, rfl, at_app h⟩) (by rw [vw_dct h] at e; exact absurd rfl e)
  | ins fs h =>
    refine .ins fs ?_
    cases d with
    | cell j =>
      simp only [vw] at h ⊢
      match hm : μ[j]?, h with
      | some c, h => rw [at_app hm]; exact h
      | none, h => exact nomatch h
    | _ => exact h
def CValsG (w : World) : Ct := fun args μ P _ => ∃ (d : D) (b : Bool), args = [d] ∧ ZArg w μ d b ∧ P (.bl b) μ
def CKVal : Ct := fun args μ P _ => ∃ d, args = [d] ∧ Kn μ d ∧ P (.bl (isNumD 1000 (vw μ d))) μ
theorem valD_nd : ∀ {kvs : Kvs}, (kvs.map (·.1)).Nodup → ∀ {p : DK × D}, p ∈ kvs → valD kvs p.1 = some p.2
  | [], _, p, h => nomatch h
  | q :: kvs, nd, p, h => by
    rw [List.map_cons, List.nodup_cons] at nd
    unfold valD
    rcases List.mem_cons.mp h with e | h
    · rw [e, List.find?_cons, decide_eq_true rfl]; rfl
    · have hne : q.1 ≠ p.1 := fun z => nd.1 (z ▸ List.mem_map_of_mem h)
      have := valD_nd nd.2 h
      unfold valD at this
      rw [List.find?_cons, decide_eq_false hne]
      exact this
theorem set_at17 {m : Mu} {j : Nat} {c : Cell} (h : m[j]? = some c) : m.set j c = m := by
  obtain ⟨h1, h2⟩ := List.getElem?_eq_some_iff.mp h
  rw [← h2]
  exact List.set_getElem_self h1
theorem key_kn {k : DK} (h : keyB k = true) (μ : Mu) : KnN μ (dkD k) := by
  unfold keyB at h
  simp only [Bool.and_eq_true] at h
  exact knN_fl h.1.1 h.1.2 h.2 μ
theorem key_full {k : DK} (h : keyB k = true) (μ : Mu) : isFullD μ (dkD k) = isFullD [] (dkD k) := by
  unfold keyB at h
  simp only [Bool.and_eq_true] at h
  exact full_fl μ h.1.1 h.2
def badKV (kvs : Kvs) (d : D) : Bool := match kvs.find? fun p => decide (p.1 = (match d with | .tup ds => (match asKeys ds with | some x => DK.t x | none => .k (.inl 0)) | d => (match asKey d with | some x => .k x | none => .k (.inl 0)))) with
  | some p => !(isFullD [] (dkD p.1) && isNumD 1000 p.2)
  | none => false
theorem tys_dict {μ : Mu} {d : D} (h : Kn μ d) {K : PySem.W.Frag} (e : tyS (vw μ d) ≠ "dict") : PySem.W.kitOne K (.type (tyS (vw μ d))) (.type "dict") = some false := by
  have hn := h.tyne
  generalize vw μ d = x at e hn
  cases x <;> first | rfl | exact absurd rfl e | exact absurd rfl hn
section
local macro_rules | `(tactic| walk_at "ev") => `(tactic| first
  | refine e_var 0 rfl ?_ | refine e_var 1 rfl ?_ | refine e_var 2 rfl ?_ | refine e_var 3 rfl ?_ | refine e_var 4 rfl ?_ | refine e_var 5 rfl ?_ | refine e_var 6 rfl ?_ | refine e_var 7 rfl ?_ | refine e_var 8 rfl ?_ | refine e_var 9 rfl ?_
  | refine e_var 10 rfl ?_ | refine e_var 11 rfl ?_ | refine e_var 12 rfl ?_ | refine e_var 13 rfl ?_ | refine e_var 14 rfl ?_ | refine e_var 15 rfl ?_ | refine e_var 16 rfl ?_ | refine e_var 17 rfl ?_ | refine e_var 18 rfl ?_ | refine e_var 19 rfl ?_ | refine e_var 20 rfl ?_)
local macro_rules | `(tactic| walk_at "ec") => `(tactic| first
  | refine k_len ?_ | refine k_int ?_ | refine k_tuple ?_ | refine k_list ?_ | refine k_repr ?_ | refine k_sorted ?_ | refine k_dict ?_ | refine k_all ?_ | refine k_min ?_ | refine k_abs ?_ | refine k_isinstance ?_)
local macro_rules | `(tactic| walk_at "ee") => `(tactic| first
  | ((with_reducible show Me.E _ (Expr.Name _ _) _ _ _); walk_at "ev")
  | ((with_reducible show Me.E _ (Expr.Constant _ _ _) _ _ _); first | refine e_int ?_ | refine e_str ?_ | refine e_bl ?_ | refine e_non ?_)
  | ((with_reducible show Me.E _ (Expr.BinOp _ _ _ _) _ _ _); refine e_bin ?_)
  | ((with_reducible show Me.E _ (Expr.Compare _ _ _ _) _ _ _); refine e_cmp ?_)
  | ((with_reducible show Me.E _ (Expr.Subscript _ (Expr.Slice _ _ _ _) _) _ _ _); refine e_sl ?_)
  | ((with_reducible show Me.E _ (Expr.Subscript _ _ _) _ _ _); refine e_ix ?_)
  | ((with_reducible show Me.E _ (Expr.Tuple _ _ _) _ _ _); refine e_tup ?_)
  | ((with_reducible show Me.E _ (Expr.UnaryOp UnaryOp.Not _ _) _ _ _); refine e_not ?_)
  | ((with_reducible show Me.E _ (Expr.UnaryOp _ _ _) _ _ _); refine e_un ?_)
  | ((with_reducible show Me.E _ (Expr.IfExp _ _ _ _) _ _ _); refine e_ite ?_)
  | ((with_reducible show Me.E _ (Expr.BoolOp _ _ _) _ _ _); first | refine e_one ?_ | refine e_and ?_ | refine e_or ?_)
  | ((with_reducible show Me.E _ (Expr.Call (Expr.Name _ _) _ _ _) _ _ _); walk_at "ec"))
local macro_rules | `(tactic| walk_at "bb") => `(tactic| first
  | refine b_nil ?_ | refine b_ret ?_ | refine b_setIx ?_ | refine b_expr ?_
  | refine b_set 0 ?_ | refine b_set 1 ?_ | refine b_set 2 ?_ | refine b_set 3 ?_ | refine b_set 4 ?_ | refine b_set 5 ?_ | refine b_set 6 ?_ | refine b_set 7 ?_ | refine b_set 8 ?_ | refine b_set 9 ?_ | refine b_set 10 ?_ | refine b_set 11 ?_ | refine b_set 12 ?_ | refine b_set 13 ?_ | refine b_set 14 ?_ | refine b_set 15 ?_ | refine b_set 16 ?_ | refine b_set 17 ?_ | refine b_set 18 ?_)
local macro_rules | `(tactic| walk_at "oo") => `(tactic| first
  | ((with_reducible show Op2 _ (binaryOp _) _ _ _ _ _); first
    | (with_reducible refine o_add ?_) | (with_reducible refine o_sub ?_)
    | ((with_reducible show Op2 _ (binaryOp Operator.Mod) (D.int _) (D.int _) _ _ _); refine o_mod (by first | decide | assumption | omega) ?_)
    | ((with_reducible show Op2 _ (binaryOp Operator.FloorDiv) (D.int _) (D.int _) _ _ _); refine o_fdiv (by first | decide | assumption | omega) ?_)
    | ((with_reducible show Op2 _ (binaryOp Operator.Mult) (D.int _) (D.int _) _ _ _); first | refine o_mul (Or.inr ⟨by decide, by decide⟩) ?_ | refine o_mul (Or.inl ⟨by decide, by decide⟩) ?_))
  | ((with_reducible show Op2 _ (compareOp _) _ _ _ _ _); first
    | (with_reducible refine o_lt ?_) | (with_reducible refine o_le ?_) | (with_reducible refine o_gt ?_) | (with_reducible refine o_ge ?_) | (with_reducible refine o_eqI ?_) | (with_reducible refine o_neI ?_) | (with_reducible refine o_eqS ?_) | (with_reducible refine o_neS ?_) | (with_reducible refine o_isN ?_) | (with_reducible refine o_isntN ?_))
  | (with_reducible refine o_neg ?_)
  | ((with_reducible show Cl _ (Value.type "int") _ _ _ _); refine c_int ?_)
  | ((with_reducible show Cl _ (Value.builtin "len") _ _ _ _); first | (with_reducible refine c_lenN ?_) | (with_reducible refine c_lenT ?_) | refine c_lenL rfl ?_)
  | ((with_reducible show Ix2 _ (D.tup _) _ _ _ _); refine x_tup rfl ?_)
  | ((with_reducible show Ix2 _ _ _ _ _ _); refine x_lst rfl rfl ?_))
local macro_rules | `(tactic| walk_at "me") => `(tactic| first
  | ((with_reducible show Me.E _ _ _ _ _); walk_at "ee")
  | ((with_reducible show Me.A _ _ _ _ _); first | refine a_cons ?_ | refine a_nil ?_)
  | ((with_reducible show Me.Thn _ _ _ (Out.next _ _)); refine thn_n ?_)
  | ((with_reducible show Me.B _ _ _ _ _); walk_at "bb")
  | ((with_reducible show Me.T _ _ _ _ _); first | refine t_cmp ?_ | refine t_bop ?_ | refine t_not ?_)
  | ((with_reducible show Me.W _ _ _ _ _); first | refine w_and1 ?_ | refine w_or1 ?_ | refine w_and ?_ | refine w_or ?_)
  | ((with_reducible show Me.OI _ _ _ _ _); first | refine o_none ?_ | refine o_some ?_)
  | walk_at "oo"
  | (with_reducible refine asT_i ?_)
  | (with_reducible refine ⟨_, rfl, ?_⟩))
local macro_rules | `(tactic| walk_at "go") => `(tactic| repeat (walk_at "me"))
variable {w : World} {P : Program} {base : Heap} {mg : Str → Option Value} {K : PySem.W.Frag} {Γ : Gam}
theorem ok_valueK (hK : Γ.K = K) {f : Addr} {fd : FuncData} {k j : Nat} {t : Tok} (F : Fun K "is_value" "is_value" sPIsValue f fd) (hb : Bi mg) (FN : Fn P w K mg base Γ j "is_number" CKNum) (hj : j ≤ k) (hM : mg "MOST_VALUE" = some (.int 999 t)) : Gd.FnG P w K mg base (L2.CX P w) (k + 1) f fd pPIsValue (spM Γ CKVal) := by
  refine okM hK hb F scPIsValue (by rintro _ _ _ _ ⟨d, rfl, _⟩; rfl) ?_
  rintro cdv A outer s H E hg rm _ μ Q Z ⟨d, rfl, hk, q⟩
  exact b_ret (e_call FN (a_cons (e_bin (e_gint hM (e_int (o_add (a_cons (e_var 0 rfl (a_nil ⟨1000, d, rfl, hk, rt q⟩)))))))))
theorem ok_valuesG (hK : Γ.K = K) {f C : Addr} {fd : FuncData} {k j1 j2 : Nat} {t : Tok} (F : Fun K "are_values" "are_values" sPAreValues f fd) (hb : Bi mg) (FF : Fn P w K mg base Γ j1 "is_full" CKFull) (h1 : j1 ≤ k) (FV : Fn P w K mg base Γ j2 "is_value" CKVal) (h2 : j2 ≤ k) (hM : mg "MOST_NAMES" = some (.int 30 t))
    (O : OwnC Γ "Zone" C) (kd : PySem.W.kitOne K (.ref C) (.type "dict") = some false) :
    Gd.FnG P w K mg base (L2.CX P w) (k + 1) f fd pPAreValues (spM Γ (CValsG w)) := by
  refine okM hK hb F scPAreValues (by rintro _ _ _ _ ⟨d, b, rfl, _⟩; rfl) ?_
  rintro cdv A outer s H E hg rm _ μ Q Z ⟨d, b, rfl, ha, q⟩
  cases ha with
  | gd j i k hk e h =>
    subst e
    obtain rfl : k = NestedKey.none := (Option.some.inj hk).symm
    have hG : ∀ {S : Sc}, S.X.w = w → μ[j]? = some (.gd S.X.w [(NestedKey.none, i)]) := fun e => by rw [e]; exact h
    refine b_if (t_bop (w_or (t_not (t_val (k_isinstance (a_cons (e_var 0 rfl (a_cons (e_ty hb.dict Me.boot_dict (a_nil ?_))))))))))
    refine c_isiG (hG rfl) rfl (q := true) (by rfl) (asT_i ⟨(fun z => nomatch z), fun _ => ?_⟩)
    refine w_or1 (t_cmp (k_len (a_cons (e_var 0 rfl (a_nil (c_lenG (hG rfl) (by show 1 ≤ 1000; decide) (e_gint hM (o_gt (asT_i ⟨fun hz => absurd hz (by show ¬ decide ((30 : Int) < ((1 : Nat) : Int)) = true; decide), fun hz => b_nil (thn_n ?_)⟩)))))))))
    refine b_ret (e_cmp (e_lockG j (hG rfl) fun lk => ?_))
    have hlk : (μ.set j (.gl w lk [(NestedKey.none, i)]))[j]? = some (.gl w lk [(NestedKey.none, i)]) := at_set h
    refine e_lc 1 rfl (blkOk_by (N := nPAreValues) (sc := defScope sPAreValues) (by decide +kernel)) (i_keysN (e_var 0 rfl ⟨j, lk, i, rfl, hlk, ?_⟩))
    refine ⟨fun c acc m' => m' = μ.set j (.gl w lk [(NestedKey.none, i)]) ∧ acc = (if c = 0 then [] else [D.non]), ?_⟩
    refine ⟨by show 1 ≤ _; rw [sizeLine_eq]; decide, ⟨rfl, rfl⟩, fun c acc m' h => by rw [h.1]; exact hlk, ?_, ?_⟩
    · rintro c d acc _ hd ⟨rfl, rfl⟩
      have hc : c = 0 := by have := (List.getElem?_eq_some_iff.mp hd).1; simp at this; omega
      subst hc
      obtain rfl : D.non = d := Option.some.inj hd
      refine ⟨_, fun q m' => q = true ∧ m' = μ.set j (.gl w lk [(NestedKey.none, i)]), rfl, fun _ s H C cl => ?_, ?_⟩
      · refine ts_one (t_bop (w_or (t_not (t_val (e_call FF (a_cons (e_var 1 rfl (a_nil ⟨_, rfl, knN_fl rfl (by decide) (by decide) _, ?_⟩))))))))
        exact asT_i ⟨fun _ => ⟨rfl, rfl⟩, fun h => nomatch h⟩
      · rintro q _ ⟨rfl, rfl⟩
        exact ⟨fun hq s H C cl fp => e_var 1 rfl ⟨rfl, rfl⟩, fun hq => nomatch hq⟩
    · rintro acc _ ⟨rfl, rfl⟩
      refine ⟨hlk, ?_⟩
      rw [List.set_set, set_at17 (hG rfl)]
      exact e_lst (a_nil ⟨Nat.zero_le _, Me.o_eqNil rfl rfl (rt q)⟩)
  | kn h e =>
    refine b_if (t_bop (w_or (t_not (t_val (k_isinstance (a_cons (e_var 0 rfl (a_cons (e_ty hb.dict Me.boot_dict (a_nil ?_))))))))))
    exact c_isi h.ty rfl (q := false) (tys_dict h e) (asT_i ⟨fun _ => ⟨fun _ => b_ret (e_bl (rt q)), fun z => nomatch z⟩, fun z => nomatch z⟩)
  | ins fs h =>
    refine b_if (t_bop (w_or (t_not (t_val (k_isinstance (a_cons (e_var 0 rfl (a_cons (e_ty hb.dict Me.boot_dict (a_nil ?_))))))))))
    exact c_isi (ty_ins O h) rfl (q := false) kd (asT_i ⟨fun _ => ⟨fun _ => b_ret (e_bl (rt q)), fun z => nomatch z⟩, fun z => nomatch z⟩)
  | dct j t kvs e hj ok ht =>
    subst e
    refine b_if (t_bop (w_or (t_not (t_val (k_isinstance (a_cons (e_var 0 rfl (a_cons (e_ty hb.dict Me.boot_dict (a_nil ?_))))))))))
    refine c_isi (ty_dct hj) rfl (q := true) (by rfl) (asT_i ⟨(fun z => nomatch z), fun _ => ?_⟩)
    refine w_or1 (t_cmp (k_len (a_cons (e_var 0 rfl (a_nil (c_lenD hj (e_gint hM (o_gt (asT_i ⟨fun hz => ?_, fun hz => b_nil (thn_n ?_)⟩)))))))))
    · have hz : (30 : Int) < (kvs.length : Int) := of_decide_eq_true hz
      refine b_ret (e_bl (rt ?_))
      unfold okZ at q
      rwa [decide_eq_false (by omega), Bool.false_and] at q
    have hz : ¬ (30 : Int) < (kvs.length : Int) := of_decide_eq_false hz
    unfold okZ at q
    rw [decide_eq_true (by omega), Bool.true_and] at q
    refine b_ret (e_cmp (e_lock j hj fun lk => ?_))
    have hlk : (μ.set j (.dct t (some lk) kvs))[j]? = some (.dct t (some lk) kvs) := at_set hj
    refine e_lc 1 rfl (blkOk_by (N := nPAreValues) (sc := defScope sPAreValues) (by decide +kernel)) (i_keys (e_var 0 rfl ⟨j, t, lk, _, rfl, hlk, ?_⟩))
    refine ⟨fun c acc m' => m' = μ.set j (.dct t (some lk) kvs) ∧ acc = ((kvs.take c).filter fun p => !(isFullD [] (dkD p.1) && isNumD 1000 p.2)).map fun p => dkD p.1, ?_⟩
    refine ⟨by rw [List.length_map, sizeLine_eq]; omega, ⟨rfl, rfl⟩, fun c acc m' h => by rw [h.1]; exact hlk, ?_, ?_⟩
    · rintro i d acc _ hd ⟨rfl, rfl⟩
      rw [List.getElem?_map] at hd
      obtain ⟨p, hp, rfl⟩ := Option.map_eq_some_iff.mp hd
      have hm := List.mem_of_getElem? hp
      have kk := ok.ky p hm
      have kf := key_full kk (μ.set j (.dct t (some lk) kvs))
      have tk : (kvs.take (i + 1)).filter (fun p => !(isFullD [] (dkD p.1) && isNumD 1000 p.2)) = (kvs.take i).filter (fun p => !(isFullD [] (dkD p.1) && isNumD 1000 p.2)) ++ (if (isFullD [] (dkD p.1) && isNumD 1000 p.2) = true then [] else [p]) := by
        rw [take_one hp, List.filter_append]
        congr 1
        rw [List.filter_cons, List.filter_nil]
        generalize (isFullD [] (dkD p.1) && isNumD 1000 p.2) = z
        cases z <;> rfl
      refine ⟨_, fun q m' => q = !(isFullD [] (dkD p.1) && isNumD 1000 p.2) ∧ m' = μ.set j (.dct t (some lk) kvs), rfl, fun _ s H C cl => ?_, ?_⟩
      · refine ts_one (t_bop (w_or (t_not (t_val (e_call FF (a_cons (e_var 1 rfl (a_nil ⟨_, rfl, key_kn kk _, ?_⟩))))))))
        rw [kf]
        refine asT_i ⟨fun h => ⟨?_, rfl⟩, fun h => ?_⟩
        · have h : isFullD [] (dkD p.1) = false := by simpa using h
          rw [h]; rfl
        · have h : isFullD [] (dkD p.1) = true := by simpa using h
          refine w_or1 (t_not (t_val (e_call FV (a_cons (e_ix (e_var 0 rfl (e_var 1 rfl (x_dct (vw_dct hlk) (ok.kd p hm) (valD_nd ok.nd hm) (a_nil ⟨_, rfl, fl_kn (ok.vl p hm) _, ?_⟩)))))))))
          rw [fl_vw (ok.vl p hm), h, Bool.true_and]
          exact asT_i ⟨rfl, rfl⟩
      · rintro q _ ⟨rfl, rfl⟩
        refine ⟨fun hq s H C cl fp => e_var 1 rfl ⟨rfl, ?_⟩, fun hq => ⟨rfl, ?_⟩⟩
        · rw [tk, if_neg (by intro z; rw [z] at hq; exact nomatch hq), List.map_append]
          rfl
        · rw [tk, if_pos (by cases z : (isFullD [] (dkD p.1) && isNumD 1000 p.2) <;> first | rfl | (rw [z] at hq; exact nomatch hq)), List.append_nil]
    · rintro acc _ ⟨rfl, rfl⟩
      rw [List.length_map, List.take_length]
      refine ⟨hlk, ?_⟩
      rw [set_back hj]
      refine e_lst (a_nil ⟨Nat.zero_le _, Me.o_eqNil rfl rfl (rt ?_)⟩)
      have e : ((kvs.filter fun p => !(isFullD [] (dkD p.1) && isNumD 1000 p.2)).map fun p => dkD p.1).isEmpty = okKV kvs := by
        rw [List.isEmpty_map]
        unfold okKV
        rw [Bool.eq_iff_iff, List.isEmpty_iff, List.filter_eq_nil_iff, List.all_eq_true]
        refine forall_congr' fun p => forall_congr' fun _ => ?_
        simp
      rw [e]
      exact q
end
end Lm

set_option maxHeartbeats 4000000
namespace Lm
open PySem PySem.Spec PyProof.Rows L2 Me
theorem lab8_of {x : Str} (h : labB x = true) : L8 x := by
  unfold labB at h
  simp only [Bool.and_eq_true, decide_eq_true_eq, List.all_eq_true] at h
  have h26 : ∀ c ∈ letS.cps.toList, 97 ≤ c ∧ c ≤ 122 := by decide
  exact ⟨⟨fun c hc => h26 c (h.2 c hc), h.1.1, by have := h.1.2; omega⟩, h.1.2⟩
theorem keys_lab : ∀ x : List Key, (x.map keyD).all (fun d => isLabD d) = true → ∃ n : List Str, x = n.map Sum.inr ∧ ∀ y ∈ n, labB y = true
  | [], _ => ⟨[], rfl, fun _ h => nomatch h⟩
  | .inl i :: x, h => by
    rw [List.map_cons, List.all_cons] at h
    exact nomatch h
  | .inr y :: x, h => by
    rw [List.map_cons, List.all_cons, Bool.and_eq_true] at h
    obtain ⟨n, rfl, hn⟩ := keys_lab x h.2
    exact ⟨y :: n, rfl, fun z hz => (List.mem_cons.mp hz).elim (fun e => e ▸ h.1) (hn z)⟩
theorem kv_zk {p : DK × D} (hk : asDK true (dkD p.1) = some p.1) (hl : ∀ x, p.1 = .t x → x.length ≤ 10) (h1 : isFullD [] (dkD p.1) = true) (h2 : isNumD 1000 p.2 = true) : ∃ z : List Str × Int, p = (nmK z.1, .int z.2) ∧ N8 z.1 10 ∧ z.1 ≠ [] ∧ 0 ≤ z.2 ∧ z.2 < 1000 := by
  obtain ⟨k, v⟩ := p
  cases k with
  | k x => cases x <;> exact nomatch hk
  | t x =>
    have h3 : ((x.map keyD).all (fun d => isLabD (vw [] d)) && !(x.map keyD).isEmpty) = true := h1
    rw [Bool.and_eq_true] at h3
    obtain ⟨n, rfl, hn⟩ := keys_lab x (by
      rw [List.all_eq_true] at h3 ⊢
      intro d hd
      obtain ⟨y, _, rfl⟩ := List.mem_map.mp hd
      have := h3.1 _ hd
      cases y <;> exact this)
    have hlen := hl _ rfl
    rw [List.length_map] at hlen
    cases v with
    | int i =>
      have h2 : (decide (0 ≤ i) && decide (i < 1000)) = true := h2
      rw [Bool.and_eq_true, decide_eq_true_iff, decide_eq_true_iff] at h2
      refine ⟨(n, i), rfl, ⟨fun y hy => lab8_of (hn y hy), hlen⟩, fun z => ?_, h2⟩
      have z : n = [] := z
      subst z
      exact nomatch h3.2
    | _ => exact nomatch h2
theorem zk_of : ∀ {kvs : Kvs}, (∀ p ∈ kvs, asDK true (dkD p.1) = some p.1) → (∀ p ∈ kvs, ∀ x, p.1 = .t x → x.length ≤ 10) → okKV kvs = true → ∃ ps : Zp, kvs = zk ps ∧ ∀ z ∈ ps, N8 z.1 10 ∧ z.1 ≠ [] ∧ 0 ≤ z.2 ∧ z.2 < 1000
  | [], _, _, _ => ⟨[], rfl, fun _ h => nomatch h⟩
  | p :: kvs, hk, hl, h => by
    unfold okKV at h
    rw [List.all_cons, Bool.and_eq_true, Bool.and_eq_true] at h
    obtain ⟨ps, rfl, hp⟩ := zk_of (fun q hq => hk q (List.mem_cons_of_mem _ hq)) (fun q hq => hl q (List.mem_cons_of_mem _ hq)) h.2
    obtain ⟨z, e, hz⟩ := kv_zk (hk p (List.mem_cons_self ..)) (hl p (List.mem_cons_self ..)) h.1.1 h.1.2
    exact ⟨z :: ps, by rw [e]; rfl, fun y hy => (List.mem_cons.mp hy).elim (fun e => e ▸ hz) (hp y)⟩
theorem ZArg.yes' {w : World} {μ : Mu} {d : D} {b : Bool} (h : ZArg w μ d b) (hb : b = true) : ∃ j ps, d = .cell j ∧ μ[j]? = some (.dct true none (zk ps)) ∧ Zn ps 10 30 := by
  cases h with
  | gd j i k hk e h => exact nomatch hb
  | kn h e => exact nomatch hb
  | ins fs h => exact nomatch hb
  | dct j t kvs e h ok ht =>
    rcases ht with ht | ht
    · subst ht
      unfold okZ at hb
      rw [Bool.and_eq_true, decide_eq_true_iff] at hb
      obtain ⟨ps, rfl, hp⟩ := zk_of ok.kd ok.kl hb.2
      refine ⟨j, ps, e, h, hp, ?_, ?_⟩
      · have := ok.nd
        unfold zk at this
        rw [List.map_map] at this
        unfold keysZ
        unfold List.Nodup at this ⊢
        rw [List.pairwise_map] at this ⊢
        exact this.imp fun h z => h (by show nmK _ = nmK _; rw [z])
      · have := hb.1
        unfold zk at this
        rwa [List.length_map] at this
    · rw [ht] at hb
      exact nomatch hb
theorem ZArg.yes {w : World} {μ : Mu} {d : D} (h : ZArg w μ d true) : ∃ j ps, d = .cell j ∧ μ[j]? = some (.dct true none (zk ps)) ∧ Zn ps 10 30 := h.yes' rfl
theorem clsV_c {Γ : Gam} {c : String} {C : Addr} (h : Γ.cls c = some C) : clsV Γ (.cls c) = some (.ref C) := by
  show (Γ.cls c).map Value.ref = _
  rw [h]; rfl
theorem clsVs2 {Γ : Gam} {a b : String} {A B : Addr} (h1 : Γ.cls a = some A) (h2 : Γ.cls b = some B) : clsVs Γ [.cls a, .cls b] = some [.ref A, .ref B] := by
  simp only [clsVs, clsV_c h1, clsV_c h2, Option.bind_some]
theorem kitAny2 {K : PySem.W.Frag} {t a b : Value} (h1 : PySem.W.kitOne K t a = some false) (h2 : PySem.W.kitOne K t b = some false) : PySem.W.kitAny K t [a, b] = some false := by
  simp only [PySem.W.kitAny, h1, h2]
def CZInitG (w : World) : Ct := fun args μ P Z => ∃ (i : Nat) (d : D) (b : Bool), args = [.cell i, d] ∧ μ[i]? = some (.ins "Zone" []) ∧ ZArg w μ d b ∧ (b = false → Z ⟨"Wrong", [("place", .int 0)]⟩ μ) ∧
  (b = true → ∀ j ps, d = .cell j → μ[j]? = some (.dct true none (zk ps)) → Zn ps 10 30 → P .non ((μ ++ [Cell.dct true none (zk ps)]).set i (.ins "Zone" (zfs μ.length))))
abbrev madeD (ps : Zp) : D := .tup [.str "made", .lst ((asc (keysZ ps)).map fun n => zpD (n, (getZ ps n).getD 0))]
abbrev wrongD : D := .tup [.str "wrong", .int 0]
def CTried (w : World) : Ct := fun args μ P _ => ∃ (d : D) (b : Bool), args = [d] ∧ ZArg w μ d b ∧ (b = false → P wrongD μ) ∧ (b = true → ∀ j ps, d = .cell j → μ[j]? = some (.dct true none (zk ps)) → Zn ps 10 30 → P (madeD ps) μ)
structure WrOk (Γ : Gam) (K : PySem.W.Frag) (mg : Str → Option Value) (C CE : Addr) : Prop where
  hC : Γ.cls "Wrong" = some C
  X : ExcC K C
  he : Γ.err = none
  hE : mg "ListError" = some (.ref CE)
  hx : PySem.W.exmOne K (.ref C) (.ref CE) = some true
  ks : PySem.W.kitOne K (.ref C) (.ref C) = some true
theorem madeD_refs (ps : Zp) : (madeD ps).refs = [] := by
  have : ∀ l : List (List Str), D.refsL (l.map fun n => zpD (n, (getZ ps n).getD 0)) = [] := fun l => by
    induction l with
    | nil => rfl
    | cons n l ih =>
      show (zpD _).refs ++ D.refsL (l.map fun n => zpD (n, (getZ ps n).getD 0)) = []
      rw [ih]
      simp [D.refs, D.refsL, refs_strs]
  simp [madeD, D.refs, D.refsL, this]
section
local macro_rules | `(tactic| walk_at "ev") => `(tactic| first
  | refine e_var 0 rfl ?_ | refine e_var 1 rfl ?_ | refine e_var 2 rfl ?_ | refine e_var 3 rfl ?_ | refine e_var 4 rfl ?_ | refine e_var 5 rfl ?_ | refine e_var 6 rfl ?_ | refine e_var 7 rfl ?_ | refine e_var 8 rfl ?_ | refine e_var 9 rfl ?_
  | refine e_var 10 rfl ?_ | refine e_var 11 rfl ?_ | refine e_var 12 rfl ?_ | refine e_var 13 rfl ?_ | refine e_var 14 rfl ?_ | refine e_var 15 rfl ?_ | refine e_var 16 rfl ?_ | refine e_var 17 rfl ?_ | refine e_var 18 rfl ?_ | refine e_var 19 rfl ?_ | refine e_var 20 rfl ?_)
local macro_rules | `(tactic| walk_at "ec") => `(tactic| first
  | refine k_len ?_ | refine k_int ?_ | refine k_tuple ?_ | refine k_list ?_ | refine k_repr ?_ | refine k_sorted ?_ | refine k_dict ?_ | refine k_all ?_ | refine k_min ?_ | refine k_abs ?_ | refine k_isinstance ?_)
local macro_rules | `(tactic| walk_at "ee") => `(tactic| first
  | ((with_reducible show Me.E _ (Expr.Name _ _) _ _ _); walk_at "ev")
  | ((with_reducible show Me.E _ (Expr.Constant _ _ _) _ _ _); first | refine e_int ?_ | refine e_str ?_ | refine e_bl ?_ | refine e_non ?_)
  | ((with_reducible show Me.E _ (Expr.BinOp _ _ _ _) _ _ _); refine e_bin ?_)
  | ((with_reducible show Me.E _ (Expr.Compare _ _ _ _) _ _ _); refine e_cmp ?_)
  | ((with_reducible show Me.E _ (Expr.Subscript _ (Expr.Slice _ _ _ _) _) _ _ _); refine e_sl ?_)
  | ((with_reducible show Me.E _ (Expr.Subscript _ _ _) _ _ _); refine e_ix ?_)
  | ((with_reducible show Me.E _ (Expr.Tuple _ _ _) _ _ _); refine e_tup ?_)
  | ((with_reducible show Me.E _ (Expr.UnaryOp UnaryOp.Not _ _) _ _ _); refine e_not ?_)
  | ((with_reducible show Me.E _ (Expr.UnaryOp _ _ _) _ _ _); refine e_un ?_)
  | ((with_reducible show Me.E _ (Expr.IfExp _ _ _ _) _ _ _); refine e_ite ?_)
  | ((with_reducible show Me.E _ (Expr.BoolOp _ _ _) _ _ _); first | refine e_one ?_ | refine e_and ?_ | refine e_or ?_)
  | ((with_reducible show Me.E _ (Expr.Call (Expr.Name _ _) _ _ _) _ _ _); walk_at "ec"))
local macro_rules | `(tactic| walk_at "bb") => `(tactic| first
  | refine b_nil ?_ | refine b_ret ?_ | refine b_setIx ?_ | refine b_expr ?_
  | refine b_set 0 ?_ | refine b_set 1 ?_ | refine b_set 2 ?_ | refine b_set 3 ?_ | refine b_set 4 ?_ | refine b_set 5 ?_ | refine b_set 6 ?_ | refine b_set 7 ?_ | refine b_set 8 ?_ | refine b_set 9 ?_ | refine b_set 10 ?_ | refine b_set 11 ?_ | refine b_set 12 ?_ | refine b_set 13 ?_ | refine b_set 14 ?_ | refine b_set 15 ?_ | refine b_set 16 ?_ | refine b_set 17 ?_ | refine b_set 18 ?_)
local macro_rules | `(tactic| walk_at "oo") => `(tactic| first
  | ((with_reducible show Op2 _ (binaryOp _) _ _ _ _ _); first
    | (with_reducible refine o_add ?_) | (with_reducible refine o_sub ?_)
    | ((with_reducible show Op2 _ (binaryOp Operator.Mod) (D.int _) (D.int _) _ _ _); refine o_mod (by first | decide | assumption | omega) ?_)
    | ((with_reducible show Op2 _ (binaryOp Operator.FloorDiv) (D.int _) (D.int _) _ _ _); refine o_fdiv (by first | decide | assumption | omega) ?_)
    | ((with_reducible show Op2 _ (binaryOp Operator.Mult) (D.int _) (D.int _) _ _ _); first | refine o_mul (Or.inr ⟨by decide, by decide⟩) ?_ | refine o_mul (Or.inl ⟨by decide, by decide⟩) ?_))
  | ((with_reducible show Op2 _ (compareOp _) _ _ _ _ _); first
    | (with_reducible refine o_lt ?_) | (with_reducible refine o_le ?_) | (with_reducible refine o_gt ?_) | (with_reducible refine o_ge ?_) | (with_reducible refine o_eqI ?_) | (with_reducible refine o_neI ?_) | (with_reducible refine o_eqS ?_) | (with_reducible refine o_neS ?_) | (with_reducible refine o_isN ?_) | (with_reducible refine o_isntN ?_))
  | (with_reducible refine o_neg ?_)
  | ((with_reducible show Cl _ (Value.type "int") _ _ _ _); refine c_int ?_)
  | ((with_reducible show Cl _ (Value.builtin "len") _ _ _ _); first | (with_reducible refine c_lenN ?_) | (with_reducible refine c_lenT ?_) | refine c_lenL rfl ?_)
  | ((with_reducible show Ix2 _ (D.tup _) _ _ _ _); refine x_tup rfl ?_)
  | ((with_reducible show Ix2 _ _ _ _ _ _); refine x_lst rfl rfl ?_))
local macro_rules | `(tactic| walk_at "me") => `(tactic| first
  | ((with_reducible show Me.E _ _ _ _ _); walk_at "ee")
  | ((with_reducible show Me.A _ _ _ _ _); first | refine a_cons ?_ | refine a_nil ?_)
  | ((with_reducible show Me.Thn _ _ _ (Out.next _ _)); refine thn_n ?_)
  | ((with_reducible show Me.B _ _ _ _ _); walk_at "bb")
  | ((with_reducible show Me.T _ _ _ _ _); first | refine t_cmp ?_ | refine t_bop ?_ | refine t_not ?_)
  | ((with_reducible show Me.W _ _ _ _ _); first | refine w_and1 ?_ | refine w_or1 ?_ | refine w_and ?_ | refine w_or ?_)
  | ((with_reducible show Me.OI _ _ _ _ _); first | refine o_none ?_ | refine o_some ?_)
  | walk_at "oo"
  | (with_reducible refine asT_i ?_)
  | (with_reducible refine ⟨_, rfl, ?_⟩))
local macro_rules | `(tactic| walk_at "go") => `(tactic| repeat (walk_at "me"))
variable {w : World} {P : Program} {base : Heap} {mg : Str → Option Value} {K : PySem.W.Frag} {Γ : Gam}
theorem ok_zinitG {C fI : Addr} (hK : Γ.K = K) {f : Addr} {fd : FuncData} {k j1 : Nat} (F : Fun K "__init__" "Zone.__init__" sZone_init f fd) (hb : Bi mg) (FV : Fn P w K mg base Γ j1 "are_values" (CValsG w)) (h1 : j1 ≤ k) (hf : Fld Γ "Zone" "its_values") (T : Er.ErrTxt P K mg "Wrong" "place" C fI) (hC : Γ.cls "Wrong" = some C) :
    Gd.FnG P w K mg base (L2.CX P w) (k + 1) f fd pZone_init (spM Γ (CZInitG w)) := by
  refine okM hK hb F scZone_init (by rintro _ _ _ _ ⟨i, d, b, rfl, _⟩; rfl) ?_
  rintro cdv A outer s H E hg rm _ μ Q Z ⟨i, d, b, rfl, hi, ha, r0, r1⟩
  refine b_if (t_not (t_val (e_call FV (a_cons (e_var 1 rfl (a_nil ⟨d, b, rfl, ha, asT_i ⟨fun z => ?_, fun z => b_nil (thn_n ?_)⟩⟩))))))
  · have z : b = false := by simpa using z
    exact b_raise T hC (a_cons (e_int (a_nil ⟨_, rfl, zr0 (env := []) (r0 z) (by simp [D.refsF, D.refs])⟩)))
  have z : b = true := by simpa using z
  subst z
  obtain ⟨j, ps, rfl, hj, hz⟩ := ha.yes
  have q := r1 rfl j ps rfl hj hz
  refine b_fld "Zone" hf ?_
  refine e_lock j hj fun lk => ?_
  have hlk : (μ.set j (.dct true (some lk) (zk ps)))[j]? = some (.dct true (some lk) (zk ps)) := at_set hj
  refine e_dc true 2 rfl (blkOk_by (N := nZone_init) (sc := defScope sZone_init) (by decide +kernel)) (i_keys ?_)
  walk_at "go"
  refine ⟨j, true, lk, _, rfl, hlk, ?_⟩
  rw [zk_keys]
  refine CompD.pure (pairAt ps) (by unfold nmsD keysZ; rw [List.length_map, List.length_map, sizeLine_eq]; have := hz.len; omega) hlk (fun i d hd => ?_) ?_
  · unfold nmsD keysZ at hd
    rw [List.map_map, List.getElem?_map] at hd
    obtain ⟨p, hp, rfl⟩ := Option.map_eq_some_iff.mp hd
    have hv : valD (zk ps) (nmK p.1) = some (.int p.2) := by rw [valZ, getZ_mem hz.nd (List.mem_of_getElem? hp)]; rfl
    refine ⟨_, true, rfl, fun s H C cl fp => ts_nil ⟨rfl, rfl⟩, fun _ => ⟨nameD p.1, nmK p.1, .int p.2, ?_, asDK_name p.1, fun s H C cl fp => ?_, fun s H C cl fp => ?_⟩, fun z => nomatch z⟩
    · exact pairAt_of hz.nd (List.mem_of_getElem? hp)
    · walk_at "go"
      exact ⟨rfl, rfl⟩
    · walk_at "go"
      refine x_dct (k := nmK p.1) (d := .int p.2) (vw_dct hlk) (asDK_name p.1) hv ⟨rfl, rfl⟩
  · rw [filt_zk hz.nd]
    have e : (zk ps).foldl (fun acc p => putD acc p.1 p.2) [] = zk ps := hz.puts
    rw [e]
    refine ⟨at_app hlk, ?_⟩
    rw [set_app hlk, set_back hj, List.length_set]
    walk_at "go"
    refine ⟨i, [], rfl, at_app hi, by show 0 < 1000; decide, b_nil ?_⟩
    exact rt q
theorem ok_ltried {C CE CF CN fI : Addr} (hK : Γ.K = K) {f : Addr} {fd : FuncData} {k j1 j2 j3 : Nat} (F : Fun K "_law_tried" "_law_tried" sLTried f fd) (hb : Bi mg) (T : Er.ErrTxt P K mg "Wrong" "place" C fI) (O : WrOk Γ K mg C CE)
    (MZ : Mak P w K mg base Γ j1 "Zone" "Zone" (CZInitG w)) (h1 : j1 + 1 ≤ k) (MN : Mth P w K mg base Γ j2 "Zone" "names" CZNames) (h2 : j2 ≤ k) (MG : Dn P w K mg base Γ j3 "Zone" "__getitem__" CZGet) (h3 : j3 + 1 ≤ k)
    (hF : Γ.cls "Full" = some CF) (hFm : mg "Full" = some (.ref CF)) (hN : Γ.cls "NoName" = some CN) (hNm : mg "NoName" = some (.ref CN))
    (kf : PySem.W.kitOne K (.ref C) (.ref CF) = some false) (kn : PySem.W.kitOne K (.ref C) (.ref CN) = some false) :
    Gd.FnG P w K mg base (L2.CX P w) (k + 1) f fd pLTried (spM Γ (CTried w)) := by
  refine okM hK hb F scLTried (by rintro _ _ _ _ ⟨d, b, rfl, _⟩; rfl) ?_
  rintro cdv A outer s H E hg rm _ μ Q Z ⟨d, b, rfl, ha, r0, r1⟩
  have two : ∀ {m : Nat}, m ≤ 10 → m ≤ sizeLine := fun h => by rw [sizeLine_eq]; omega
  have h3' : j3 ≤ k := by omega
  refine b_try 2 O.he O.hE fun pn xe hp => ?_
  refine b_set 1 (e_make MZ (a_cons (e_var 0 rfl (a_nil ?_))))
  refine ⟨_, d, b, rfl, by simp, ha.app, fun z => ?_, fun z j ps e hj zn => ⟨rfl, b_nil (thn_n ?_)⟩⟩
  · refine ⟨fun C1 hC1 => ?_, fun a oe C1 dd pn hC1 hz hfl nem nee nef => ?_⟩
    · have hC1 : Γ.cls "Wrong" = some C1 := hC1
      rw [O.hC] at hC1
      obtain rfl := Option.some.inj hC1
      exact O.hx
    have hC1 : Γ.cls "Wrong" = some C1 := hC1
    rw [O.hC] at hC1
    obtain rfl := Option.some.inj hC1
    refine b_ret (e_ite (t_bop (w_and (t_val (k_isinstance (a_cons (e_var 2 rfl (a_cons (e_cls (cn := "Wrong") O.hC T.gC (a_nil (c_isiE hz hfl O.X (clsV_c O.hC) O.ks (by simp) ?_)))))))))))
    refine asT_i ⟨fun _ => w_and1 (t_not (t_val (k_isinstance (a_cons (e_var 2 rfl (a_cons (e_tup (a_cons (e_cls (cn := "Full") hF hFm (a_cons (e_cls (cn := "NoName") hN hNm (a_nil ⟨two (by decide), a_nil ?_⟩)))))))))))), fun z => nomatch z⟩
    refine c_isiTE hz hfl O.X (us' := [.ref CF, .ref CN]) (clsVs2 hF hN) (kitAny2 kf kn) (by simp) (asT_i ⟨fun _ => ?_, fun z => nomatch z⟩)
    refine e_tup (a_cons (e_str (a_cons ?_)))
    refine e_xf hz hfl ⟨T.ga, T.gg, T.exC, T.hdC⟩ T.noN (e_var 2 rfl ⟨_, _, _, rfl, rfl, a_nil ⟨two (by decide), ?_⟩⟩)
    exact ⟨rfl, nem, rt_drop0 (r0 z) (fun i hi => by simp [D.refs, D.refsL] at hi)⟩
  subst e
  subst z
  obtain ⟨j', ps', e', hj', zn'⟩ := ha.yes
  obtain rfl := D.cell.inj e'
  have hq := r1 rfl j ps' rfl hj' zn'
  have : some (Cell.dct true none (zk ps)) = some (Cell.dct true none (zk ps')) := by rw [← hj, at_app hj']
  have zke : zk ps = zk ps' := by injection this with this; injection this
  have hpe : ps = ps' := by
    have : ∀ a b : Zp, zk a = zk b → a = b := fun a => by
      induction a with
      | nil => intro b h; cases b with
        | nil => rfl
        | cons _ _ => exact nomatch h
      | cons p a ih => intro b h; cases b with
        | nil => exact nomatch h
        | cons q b =>
          obtain ⟨p1, p2⟩ := p
          obtain ⟨q1, q2⟩ := q
          have h : (nmK p1, D.int p2) :: zk a = (nmK q1, D.int q2) :: zk b := h
          injection h with h1 h2
          injection h1 with h1 h3
          rw [ih b h2, nmK_inj.mp h1, D.int.inj h3]
    exact this _ _ zke
  subst hpe
  have hvv : ((μ ++ [Cell.ins "Zone" []]) ++ [Cell.dct true none (zk ps)]).set μ.length (.ins "Zone" (zfs (μ ++ [Cell.ins "Zone" []]).length)) = μ ++ [.ins "Zone" (zfs (μ.length + 1)), .dct true none (zk ps)] := by simp
  rw [hvv]
  have hzi : (μ ++ [Cell.ins "Zone" (zfs (μ.length + 1)), .dct true none (zk ps)])[μ.length]? = some (.ins "Zone" (zfs (μ.length + 1))) := by simp
  have hzj : (μ ++ [Cell.ins "Zone" (zfs (μ.length + 1)), .dct true none (zk ps)])[μ.length + 1]? = some (.dct true none (zk ps)) := by simp
  have hZ : ZoneAt (μ ++ [Cell.ins "Zone" (zfs (μ.length + 1)), .dct true none (zk ps)]) (.cell μ.length) ps := ⟨_, _, rfl, hzi, hzj, zn⟩
  refine b_ret (e_tup (a_cons (e_str (a_cons ?_))))
  refine e_lc 3 rfl (blkOk_by (N := nLTried) (sc := defScope sLTried) (by decide +kernel)) (i_lst (e_meth0 MN (e_var 1 rfl ⟨⟨_, vw_ins hzi, rfl⟩, _, ps, rfl, hZ, ⟨_, rfl, ?_⟩⟩)))
  have al : (asc (keysZ ps)).length ≤ 30 := by rw [len_asc]; unfold keysZ; rw [List.length_map]; exact zn.len
  refine ⟨fun c acc m' => m' = μ ++ [Cell.ins "Zone" (zfs (μ.length + 1)), .dct true none (zk ps)] ∧ acc = ((asc (keysZ ps)).take c).map fun n => zpD (n, (getZ ps n).getD 0), ?_⟩
  refine ⟨by rw [nms_len, sizeLine_eq]; omega, ⟨rfl, rfl⟩, fun _ _ _ _ => rfl, ?_, ?_⟩
  · rintro c acc0 _ _ hd ⟨rfl, rfl⟩
    obtain ⟨n, rfl, hn, hnc⟩ := nms_at hd
    have hn := mem_asc.mp hn
    obtain ⟨p, hp, hpn⟩ := List.mem_map.mp hn
    have hv : getZ ps n = some p.2 := by rw [← hpn]; exact getZ_mem zn.nd hp
    refine ⟨_, fun q m' => q = true ∧ m' = μ ++ [Cell.ins "Zone" (zfs (μ.length + 1)), .dct true none (zk ps)], rfl, fun _ _ _ _ _ => ts_nil ⟨rfl, rfl⟩, ?_⟩
    rintro _ _ ⟨rfl, rfl⟩
    refine ⟨fun _ s H C cl fp => ?_, fun z => nomatch z⟩
    refine e_tup (a_cons (e_var 3 rfl (a_cons (e_ix' (e_var 1 rfl (e_var 3 rfl ?_))))))
    refine x_ins MG (vw_ins hzi) ⟨_, n, p.2, ps, rfl, hZ, by rw [← hpn]; exact (zn.ok p hp).1, hv, ?_⟩
    refine a_nil ⟨two (by show 2 ≤ 10; decide), rfl, ?_⟩
    rw [take_one hnc, List.map_append]
    show _ = _ ++ [zpD (n, (getZ ps n).getD 0)]
    rw [hv]
    rfl
  rintro acc _ ⟨rfl, rfl⟩
  rw [nms_len, List.take_length]
  exact a_nil ⟨two (by show 2 ≤ 10; decide), rt_drop0 hq (by rw [madeD_refs]; exact fun _ h => nomatch h)⟩
end
end Lm

set_option maxHeartbeats 4000000
namespace Lm
open PySem PySem.Spec PyProof.Rows L2 Me
/-! ### the law's own reading -/
theorem joinL0 : ∀ ps : List (List Nat), TL.joinL [] ps = ps.flatten
  | [] => rfl
  | [p] => by simp [TL.joinL]
  | p :: q :: r => by
    show p ++ ([] ++ TL.joinL [] (q :: r)) = _
    rw [joinL0 (q :: r), List.nil_append]
    rfl
theorem join0 (xs : List Str) : (Txt.join "" xs).cps.toList = (xs.map fun x => x.cps.toList).flatten := by
  rw [TL.join_eq]
  have := TL.tl_join "" xs
  rw [show TL.tl (Str.join "" xs) = (Str.join "" xs).cps.toList from rfl] at this
  rw [this, ← joinL0]
  rfl
def lensB (n : List Str) : Bool := !n.isEmpty && n.all fun x => decide (1 ≤ x.length) && decide (x.length ≤ 8)
def letB (n : List Str) : Bool := (n.map fun x => x.cps.toList).flatten.all fun c => decide (c ∈ letS.cps.toList)
theorem full_parts (n : List Str) : isFullD [] (nameD n) = (lensB n && letB n) := by
  have h1 : isFullD [] (nameD n) = ((n.all fun x => labB x) && !n.isEmpty) := by
    show (((n.map D.str).all fun d => isLabD (vw [] d)) && !(n.map D.str).isEmpty) = _
    rw [List.all_map, List.isEmpty_map]
    rfl
  have h2 : letB n = n.all fun x => x.cps.toList.all fun c => decide (c ∈ letS.cps.toList) := by
    unfold letB
    rw [List.all_flatten, List.all_map]
    rfl
  rw [h1, h2]
  unfold lensB labB
  rw [Bool.eq_iff_iff]
  simp only [Bool.and_eq_true, List.all_eq_true, decide_eq_true_eq, Bool.not_eq_true']
  constructor
  · rintro ⟨a, b⟩
    exact ⟨⟨b, fun x hx => (a x hx).1⟩, fun x hx => (a x hx).2⟩
  · rintro ⟨⟨b, a⟩, c⟩
    exact ⟨fun x hx => ⟨a x hx, c x hx⟩, b⟩
def KeysT (kvs : Kvs) : Prop := ∀ p ∈ kvs, ∃ n : List Str, p.1 = nmK n ∧ n.length ≤ 10 ∧ ∀ x ∈ n, x.length ≤ 20
def CDueZ : Ct := fun args μ P _ => ∃ (j : Nat) (kvs : Kvs), args = [.cell j] ∧ μ[j]? = some (.dct true none kvs) ∧ KvOk true kvs ∧ KeysT kvs ∧ (okZ kvs = false → P wrongD μ) ∧ (okZ kvs = true → ∀ ps, kvs = zk ps → Zn ps 10 30 → P (madeD ps) μ)
def lenDD : D → D | .str x => .int (x.length : Nat) | _ => .non
section
local macro_rules | `(tactic| walk_at "ev") => `(tactic| first
  | refine e_var 0 rfl ?_ | refine e_var 1 rfl ?_ | refine e_var 2 rfl ?_ | refine e_var 3 rfl ?_ | refine e_var 4 rfl ?_ | refine e_var 5 rfl ?_ | refine e_var 6 rfl ?_ | refine e_var 7 rfl ?_ | refine e_var 8 rfl ?_ | refine e_var 9 rfl ?_
  | refine e_var 10 rfl ?_ | refine e_var 11 rfl ?_ | refine e_var 12 rfl ?_ | refine e_var 13 rfl ?_ | refine e_var 14 rfl ?_ | refine e_var 15 rfl ?_ | refine e_var 16 rfl ?_ | refine e_var 17 rfl ?_ | refine e_var 18 rfl ?_ | refine e_var 19 rfl ?_ | refine e_var 20 rfl ?_)
local macro_rules | `(tactic| walk_at "ec") => `(tactic| first
  | refine k_len ?_ | refine k_int ?_ | refine k_tuple ?_ | refine k_list ?_ | refine k_repr ?_ | refine k_sorted ?_ | refine k_dict ?_ | refine k_all ?_ | refine k_min ?_ | refine k_abs ?_ | refine k_isinstance ?_)
local macro_rules | `(tactic| walk_at "ee") => `(tactic| first
  | ((with_reducible show Me.E _ (Expr.Name _ _) _ _ _); walk_at "ev")
  | ((with_reducible show Me.E _ (Expr.Constant _ _ _) _ _ _); first | refine e_int ?_ | refine e_str ?_ | refine e_bl ?_ | refine e_non ?_)
  | ((with_reducible show Me.E _ (Expr.BinOp _ _ _ _) _ _ _); refine e_bin ?_)
  | ((with_reducible show Me.E _ (Expr.Compare _ _ _ _) _ _ _); refine e_cmp ?_)
  | ((with_reducible show Me.E _ (Expr.Subscript _ (Expr.Slice _ _ _ _) _) _ _ _); refine e_sl ?_)
  | ((with_reducible show Me.E _ (Expr.Subscript _ _ _) _ _ _); refine e_ix ?_)
  | ((with_reducible show Me.E _ (Expr.Tuple _ _ _) _ _ _); refine e_tup ?_)
  | ((with_reducible show Me.E _ (Expr.UnaryOp UnaryOp.Not _ _) _ _ _); refine e_not ?_)
  | ((with_reducible show Me.E _ (Expr.UnaryOp _ _ _) _ _ _); refine e_un ?_)
  | ((with_reducible show Me.E _ (Expr.IfExp _ _ _ _) _ _ _); refine e_ite ?_)
  | ((with_reducible show Me.E _ (Expr.BoolOp _ _ _) _ _ _); first | refine e_one ?_ | refine e_and ?_ | refine e_or ?_)
  | ((with_reducible show Me.E _ (Expr.Call (Expr.Name _ _) _ _ _) _ _ _); walk_at "ec"))
local macro_rules | `(tactic| walk_at "bb") => `(tactic| first
  | refine b_nil ?_ | refine b_ret ?_ | refine b_setIx ?_ | refine b_expr ?_
  | refine b_set 0 ?_ | refine b_set 1 ?_ | refine b_set 2 ?_ | refine b_set 3 ?_ | refine b_set 4 ?_ | refine b_set 5 ?_ | refine b_set 6 ?_ | refine b_set 7 ?_ | refine b_set 8 ?_ | refine b_set 9 ?_ | refine b_set 10 ?_ | refine b_set 11 ?_ | refine b_set 12 ?_ | refine b_set 13 ?_ | refine b_set 14 ?_ | refine b_set 15 ?_ | refine b_set 16 ?_ | refine b_set 17 ?_ | refine b_set 18 ?_)
local macro_rules | `(tactic| walk_at "oo") => `(tactic| first
  | ((with_reducible show Op2 _ (binaryOp _) _ _ _ _ _); first
    | (with_reducible refine o_add ?_) | (with_reducible refine o_sub ?_)
    | ((with_reducible show Op2 _ (binaryOp Operator.Mod) (D.int _) (D.int _) _ _ _); refine o_mod (by first | decide | assumption | omega) ?_)
    | ((with_reducible show Op2 _ (binaryOp Operator.FloorDiv) (D.int _) (D.int _) _ _ _); refine o_fdiv (by first | decide | assumption | omega) ?_)
    | ((with_reducible show Op2 _ (binaryOp Operator.Mult) (D.int _) (D.int _) _ _ _); first | refine o_mul (Or.inr ⟨by decide, by decide⟩) ?_ | refine o_mul (Or.inl ⟨by decide, by decide⟩) ?_))
  | ((with_reducible show Op2 _ (compareOp _) _ _ _ _ _); first
    | (with_reducible refine o_lt ?_) | (with_reducible refine o_le ?_) | (with_reducible refine o_gt ?_) | (with_reducible refine o_ge ?_) | (with_reducible refine o_eqI ?_) | (with_reducible refine o_neI ?_) | (with_reducible refine o_eqS ?_) | (with_reducible refine o_neS ?_) | (with_reducible refine o_isN ?_) | (with_reducible refine o_isntN ?_))
  | (with_reducible refine o_neg ?_)
  | ((with_reducible show Cl _ (Value.type "int") _ _ _ _); refine c_int ?_)
  | ((with_reducible show Cl _ (Value.builtin "len") _ _ _ _); first | (with_reducible refine c_lenN ?_) | (with_reducible refine c_lenT ?_) | refine c_lenL rfl ?_)
  | ((with_reducible show Ix2 _ (D.tup _) _ _ _ _); refine x_tup rfl ?_)
  | ((with_reducible show Ix2 _ _ _ _ _ _); refine x_lst rfl rfl ?_))
local macro_rules | `(tactic| walk_at "me") => `(tactic| first
  | ((with_reducible show Me.E _ _ _ _ _); walk_at "ee")
  | ((with_reducible show Me.A _ _ _ _ _); first | refine a_cons ?_ | refine a_nil ?_)
  | ((with_reducible show Me.Thn _ _ _ (Out.next _ _)); refine thn_n ?_)
  | ((with_reducible show Me.B _ _ _ _ _); walk_at "bb")
  | ((with_reducible show Me.T _ _ _ _ _); first | refine t_cmp ?_ | refine t_bop ?_ | refine t_not ?_)
  | ((with_reducible show Me.W _ _ _ _ _); first | refine w_and1 ?_ | refine w_or1 ?_ | refine w_and ?_ | refine w_or ?_)
  | ((with_reducible show Me.OI _ _ _ _ _); first | refine o_none ?_ | refine o_some ?_)
  | walk_at "oo"
  | (with_reducible refine asT_i ?_)
  | (with_reducible refine ⟨_, rfl, ?_⟩))
local macro_rules | `(tactic| walk_at "go") => `(tactic| repeat (walk_at "me"))
variable {w : World} {P : Program} {base : Heap} {mg : Str → Option Value} {K : PySem.W.Frag} {Γ : Gam}
theorem ok_ldueZ (hK : Γ.K = K) {f : Addr} {fd : FuncData} {k : Nat} (F : Fun K "_law_due" "_law_due" sLDue f fd) (hb : Bi mg) : Gd.FnG P w K mg base (L2.CX P w) (k + 1) f fd pLDue (spM Γ CDueZ) := by
  refine okM hK hb F scLDue (by rintro _ _ _ _ ⟨j, kvs, rfl, _⟩; rfl) ?_
  rintro cdv A outer s H E hg rm _ μ Q Z ⟨j, kvs, rfl, hj, ok, kt, r0, r1⟩
  have sz : ∀ {l : Nat}, l ≤ 10000 → l ≤ sizeLine := fun h => by rw [sizeLine_eq]; omega
  refine b_set 1 (e_str ?_)
  refine b_forD j hj rfl (g_name 2) fun lk => i_keys (e_var 0 rfl ⟨j, true, lk, kvs, rfl, at_set hj, ?_⟩)
  have hlk : (μ.set j (.dct true (some lk) kvs))[j]? = some (.dct true (some lk) kvs) := at_set hj
  refine ⟨fun c env' m => m = μ.set j (.dct true (some lk) kvs) ∧ okKV (kvs.take c) = true ∧ ∃ x2 x3, env' = [some (.cell j), some (.str letS), x2, x3, none, none], ?_⟩
  have fls : okKV kvs = false → Rt Γ μ Q wrongD ((μ.set j (.dct true (some lk) kvs)).set j (.dct true none kvs)) := fun h => by
    rw [set_back hj]
    refine rt (r0 ?_)
    unfold okZ
    rw [h, Bool.and_false]
  have okNo : ∀ {p : DK × D}, p ∈ kvs → (isFullD [] (dkD p.1) && isNumD 1000 p.2) = false → okKV kvs = false := fun {p} hp h => by
    unfold okKV
    rw [List.all_eq_false]
    exact ⟨p, hp, by rw [h]; exact Bool.false_ne_true⟩
  refine ⟨⟨rfl, rfl, none, none, rfl⟩, fun c env m h => by rw [h.1]; exact hlk, ?_, ?_⟩
  · rintro c d _ _ hd ⟨rfl, hok, x2, x3, rfl⟩
    rw [List.getElem?_map] at hd
    obtain ⟨p, hp, rfl⟩ := Option.map_eq_some_iff.mp hd
    have hm := List.mem_of_getElem? hp
    obtain ⟨n, hn, hnl, hx20⟩ := kt p hm
    have e : dkD p.1 = nameD n := by rw [hn, dk_nm]
    have hfp := full_parts n
    rw [← e] at hfp
    rw [e]
    have wr : lensB n = false ∨ letB n = false ∨ isNumD 1000 p.2 = false → LkR j true lk kvs (Thn (bodyS P w K mg base Γ hK nLDue "_law_due" sLDue f cdv A outer s H E (ZR μ Z) hg scLDue.nd hb k rm) [Stmt.Return (some (Expr.IfExp (Expr.Compare (Expr.Call (Expr.Name "len" default) [] [] default) [] [] default) (Expr.Name "x" default) (Expr.Name "x" default) default)) default] (RetR Γ μ Q)) (.ret wrongD (μ.set j (.dct true (some lk) kvs))) := fun h => ⟨hlk, fls (okNo hm (by rw [hfp]; rcases h with h | h | h <;> rw [h] <;> simp))⟩
    refine ⟨_, rfl, ?_⟩
    refine b_lc 4 3 (blkOk_by (N := nLDue) (sc := defScope sLDue) (by decide +kernel)) (i_tup (e_var 2 rfl ⟨_, rfl, ?_⟩))
    refine Comp.map lenDD (by rw [List.length_map]; exact sz (by omega)) trivial ?_ ?_
    · intro i d2 hd2
      rw [List.getElem?_map] at hd2
      obtain ⟨x, hx, rfl⟩ := Option.map_eq_some_iff.mp hd2
      exact ⟨_, rfl, fun s H C cl fp => k_len (a_cons (e_var 4 rfl (a_nil (c_lenS (sz (by have := hx20 x (List.mem_of_getElem? hx); omega)) ⟨rfl, rfl⟩))))⟩
    have hls : (n.map D.str).map lenDD = (n.map fun x => ((x.length : Nat) : Int)).map D.int := by
      rw [List.map_map, List.map_map]; rfl
    rw [hls]
    have hsum : (n.map (·.length)).sum ≤ n.length * 20 := by
      clear hfp e hls wr hn hp hd hnl
      induction n with
      | nil => exact Nat.zero_le _
      | cons x n ih =>
        have h1 := ih fun y hy => hx20 y (List.mem_cons_of_mem _ hy)
        have h2 := hx20 x (List.mem_cons_self ..)
        simp only [List.map_cons, List.sum_cons, List.length_cons]
        omega
    refine b_if (T.imp (PB := fun q m => m = μ.set j (.dct true (some lk) kvs) ∧ q = !lensB n) (t_bop (w_or (t_cmp (e_var 3 rfl (e_lst (a_nil ⟨Nat.zero_le _, Me.o_eqNil rfl rfl (asT_i ⟨fun z => ?_, fun z => ?_⟩)⟩)))))) ?_)
    · rw [List.isEmpty_map, List.isEmpty_map] at z
      refine ⟨rfl, ?_⟩
      unfold lensB
      rw [z]
      rfl
    · rw [List.isEmpty_map, List.isEmpty_map] at z
      have n0 : n ≠ [] := fun h => by rw [h] at z; exact nomatch z
      have i0 : (n.map fun x => ((x.length : Nat) : Int)) ≠ [] := fun h => n0 (List.map_eq_nil_iff.mp h)
      refine w_or (t_cmp (k_min (a_cons (e_var 3 rfl (a_nil (c_minI rfl i0 fun mn h1 h2 => e_int (o_lt (asT_i ⟨fun z2 => ?_, fun z2 => ?_⟩))))))))
      · refine ⟨rfl, ?_⟩
        obtain ⟨x, hx, e1⟩ := List.mem_map.mp h1
        have z2 := of_decide_eq_true z2
        have : (n.all fun x => decide (1 ≤ x.length) && decide (x.length ≤ 8)) = false := by
          rw [List.all_eq_false]
          exact ⟨x, hx, by rw [decide_eq_false (show ¬ 1 ≤ x.length by omega)]; simp⟩
        unfold lensB
        rw [this, Bool.and_false]
        rfl
      · have z2 := of_decide_eq_false z2
        refine w_or1 (t_cmp (k_max (a_cons (e_var 3 rfl (a_nil (c_maxI rfl i0 fun mx h3 h4 => e_int (o_gt (asT_i ⟨rfl, ?_⟩))))))))
        unfold lensB
        rw [z, Bool.not_false, Bool.true_and]
        by_cases h8 : (8 : Int) < mx
        · rw [decide_eq_true h8]
          obtain ⟨x, hx, e1⟩ := List.mem_map.mp h3
          have : (n.all fun x => decide (1 ≤ x.length) && decide (x.length ≤ 8)) = false := by
            rw [List.all_eq_false]
            exact ⟨x, hx, by rw [decide_eq_false (show ¬ x.length ≤ 8 by omega)]; simp⟩
          rw [this]
          rfl
        · rw [decide_eq_false h8]
          have : (n.all fun x => decide (1 ≤ x.length) && decide (x.length ≤ 8)) = true := by
            rw [List.all_eq_true]
            intro x hx
            have a1 := h2 _ (List.mem_map_of_mem (f := fun x : Str => ((x.length : Nat) : Int)) hx)
            have a2 := h4 _ (List.mem_map_of_mem (f := fun x : Str => ((x.length : Nat) : Int)) hx)
            rw [decide_eq_true (show 1 ≤ x.length by omega), decide_eq_true (show x.length ≤ 8 by omega)]
            rfl
          rw [this]
          rfl
    rintro q _ ⟨rfl, rfl⟩
    refine ⟨fun z => b_ret (e_tup (a_cons (e_str (a_cons (e_int (a_nil ⟨sz (by show 2 ≤ 10000; decide), ?_⟩)))))), fun z => b_nil (thn_n ?_)⟩
    · exact wr (.inl (by simpa using z))
    have hL : lensB n = true := by simpa using z
    refine b_if (t_cmp (e_lc 5 rfl (blkOk_by (N := nLDue) (sc := defScope sLDue) (by decide +kernel)) (i_str (e_join (e_str ⟨_, rfl, e_var 2 rfl ⟨n, .inr rfl, ?_, _, rfl, ?_⟩⟩)))))
    · show _ + _ * 0 ≤ _
      omega
    have hj' : (Txt.join "" n).cps.toList = (n.map fun x => x.cps.toList).flatten := join0 n
    have hjl : (Txt.join "" n).cps.toList.length ≤ 1000 := by
      rw [hj', List.length_flatten, List.map_map]
      have : (n.map (List.length ∘ fun x => x.cps.toList)) = n.map (·.length) := by
        refine List.map_congr_left fun x _ => ?_
        show x.cps.toList.length = x.cps.size
        simp
      rw [this]
      omega
    refine Comp.filt badLet (by unfold signsD; rw [List.length_map]; exact sz (by omega)) trivial (fun i d2 hd2 => ?_) ?_
    · unfold signsD at hd2
      rw [List.getElem?_map] at hd2
      obtain ⟨ch, hc, rfl⟩ := Option.map_eq_some_iff.mp hd2
      exact ⟨_, rfl, fun s H C cl fp => t_cmp (e_var 5 rfl (e_var 1 rfl (o_notInS (asT_i ⟨rfl, rfl⟩)))), fun _ s H C cl fp => e_var 5 rfl ⟨rfl, rfl⟩⟩
    refine e_lst (a_nil ⟨Nat.zero_le _, Me.o_neNil rfl rfl (asT_i ?_)⟩)
    unfold signsD
    rw [bad_none, hj']
    refine ⟨fun z => b_ret (e_tup (a_cons (e_str (a_cons (e_int (a_nil ⟨sz (by show 2 ≤ 10000; decide), ?_⟩)))))), fun z => b_nil (thn_n ?_)⟩
    · refine wr (.inr (.inl ?_))
      unfold letB
      simpa using z
    have hT : letB n = true := by unfold letB; simpa using z
    have hv := valD_nd ok.nd hm
    have fl := ok.vl p hm
    have look : ∀ {Q2 : KD}, Q2 p.2 (μ.set j (.dct true (some lk) kvs)) → ∀ (S' : Sc) (env : En), Ix2 S' (.cell j) (nameD n) env (μ.set j (.dct true (some lk) kvs)) Q2 := fun h S' env => x_dct (vw_dct hlk) (by rw [← e]; exact ok.kd p hm) hv h
    have kn := fl_kn fl (μ.set j (.dct true (some lk) kvs))
    have vv := fl_vw fl (μ.set j (.dct true (some lk) kvs))
    refine b_if (T.imp (PB := fun q m => m = μ.set j (.dct true (some lk) kvs) ∧ q = !isNumD 1000 p.2) (t_bop (w_or (t_not (t_val (k_isinstance (a_cons (e_ix (e_var 0 rfl (e_var 2 rfl (look (a_cons (e_ty hb.int Me.boot_int (a_nil ?_))) _ _)))))))))) ?_)
    · refine c_isi kn.ty rfl (kit_int kn.tyne) (asT_i ⟨fun z => ?_, fun z => ?_⟩)
      · rw [vv] at z
        refine ⟨rfl, ?_⟩
        generalize p.2 = v at z
        cases v <;> first | rfl | exact nomatch z
      · rw [vv] at z
        refine w_or (t_val (k_isinstance (a_cons (e_ix (e_var 0 rfl (e_var 2 rfl (look (a_cons (e_ty hb.bool Me.boot_bool (a_nil ?_))) _ _)))))))
        refine c_isi kn.ty rfl (kit_bool kn.tyne) (asT_i ⟨fun z2 => ?_, fun z2 => ?_⟩)
        · rw [vv] at z2
          refine ⟨rfl, ?_⟩
          generalize p.2 = v at z2
          cases v <;> first | rfl | exact nomatch z2
        · rw [vv] at z2
          obtain ⟨iv, hiv⟩ : ∃ iv, p.2 = .int iv := by
            generalize p.2 = v at z z2
            cases v <;> first | exact ⟨_, rfl⟩ | exact Bool.noConfusion (show true = false from z2) | exact Bool.noConfusion (show true = false from z) | exact Bool.noConfusion (show false = true from z)
          refine w_or1 (t_not (t_chLe (e_int (e_ix (e_var 0 rfl (e_var 2 rfl (look ?_ _ _)))))))
          rw [hiv]
          refine ⟨0, iv, rfl, rfl, fun h0 => e_int ⟨999, rfl, rfl, ?_⟩, fun h0 => ⟨rfl, ?_⟩⟩
          · show (!decide (iv ≤ 999)) = !(decide (0 ≤ iv) && decide (iv < 1000))
            rw [decide_eq_true h0, Bool.true_and]
            congr 1
            rw [decide_eq_decide]
            omega
          · show (!false) = !(decide (0 ≤ iv) && decide (iv < 1000))
            rw [decide_eq_false h0]
            rfl
    rintro q _ ⟨rfl, rfl⟩
    refine ⟨fun z => b_ret (e_tup (a_cons (e_str (a_cons (e_int (a_nil ⟨sz (by show 2 ≤ 10000; decide), ?_⟩)))))), fun z => b_nil (thn_n (b_nil ⟨rfl, ?_, _, _, rfl⟩))⟩
    · exact wr (.inr (.inr (by simpa using z)))
    rw [take_one hp]
    unfold okKV at hok ⊢
    rw [List.all_append, hok, Bool.true_and, List.all_cons, List.all_nil, Bool.and_true, hfp, hL, hT]
    simpa using z
  · rintro _ _ ⟨rfl, hok, x2, x3, rfl⟩
    rw [List.length_map, List.take_length] at hok
    refine ⟨hlk, ?_⟩
    rw [set_back hj]
    refine b_ret (e_ite (t_cmp (k_len (a_cons (e_var 0 rfl (a_nil (c_lenD hj (e_int (o_lt (asT_i ⟨fun z => ?_, fun z => ?_⟩))))))))))
    · have z := of_decide_eq_true z
      have hz : okZ kvs = true := by unfold okZ; rw [hok, decide_eq_true (by omega)]; rfl
      obtain ⟨ps, rfl, hps⟩ := zk_of ok.kd ok.kl hok
      have zn : Zn ps 10 30 := by
        obtain ⟨j', ps', e', hj2, zn⟩ := (ZArg.dct (w := w) (μ := μ) j true (zk ps) rfl hj ok (.inl rfl)).yes' hz
        obtain rfl := D.cell.inj e'
        rw [hj] at hj2
        injection hj2 with hj2
        injection hj2 with _ _ hj2
        refine ⟨hps, ?_, by unfold zk at z; rw [List.length_map] at z; omega⟩
        have : keysZ ps = keysZ ps' := by
          have := congrArg (fun l : List (DK × D) => l.map (·.1)) hj2
          unfold zk at this
          rw [List.map_map, List.map_map] at this
          have h2 : (ps.map (·.1)).map nmK = (ps'.map (·.1)).map nmK := by rw [List.map_map, List.map_map]; exact this
          exact (List.map_inj_right (fun a b h => nmK_inj.mp h)).mp h2
        rw [this]
        exact zn.nd
      refine e_tup (a_cons (e_str (a_cons (e_sortedItems (e_var 0 rfl ⟨j, zk ps, rfl, hj, by rw [items_zk]; exact zp_srtOk zn (by decide), .l ?_⟩)))))
      rw [items_zk, srt_pairs zn.nd]
      exact a_nil ⟨sz (by show 2 ≤ 10000; decide), rt (r1 hz ps rfl zn)⟩
    · have z := of_decide_eq_false z
      have hz : okZ kvs = false := by unfold okZ; rw [decide_eq_false (by omega)]; rfl
      exact e_tup (a_cons (e_str (a_cons (e_int (a_nil ⟨sz (by show 2 ≤ 10000; decide), rt (r0 hz)⟩)))))
end
end Lm

/-! LM7: the first labels. -/
namespace Lm
open PySem PySem.Spec PyProof.Rows L2 Me
abbrev letT : Str := "abcdefghijklmnopqrstuvwxyz"
def sg (c : Nat) : Str := ⟨#[c]⟩
def lettersL : List Nat := letT.cps.toList
def firsA : List Str := (List.range 8).map fun (k : Nat) => Txt.mul "a" ((k : Int) + 1)
def firsB : List Str := (lettersL.drop 1).map fun c => Txt.mul "a" 7 ++ sg c
def firsC : List Str := (lettersL.drop 1).flatMap fun c => (Txt.mul "a" 6 ++ sg c) :: lettersL.map fun l => Txt.mul "a" 6 ++ sg c ++ sg l
def firsts : List Str := (firsA ++ firsB ++ firsC).take 200
/-- y comes behind x -/
def StepTo (x y : Str) : Prop := (x.length < 8 ∧ y = x ++ "a") ∨ (x.length = 8 ∧ ∃ (c i c' : Nat) (rest : List Nat), L2.atI (Txt.rstripChars x "z").cps.toList (-1) = some c ∧ (Txt.rstripChars x "z").length ≤ 8 ∧
  Builtin.Str.occurrences letT (sg c) 0 letT.length 1 = i :: rest ∧ L2.atI letT.cps.toList ((i : Int) + 1) = some c' ∧ y = cutS (Txt.rstripChars x "z") none (some (-1)) ++ sg c' ∧ (cutS (Txt.rstripChars x "z") none (some (-1))).length ≤ 8)
def stepB (x y : Str) : Bool := (decide (x.length < 8) && decide (y = x ++ "a")) || (decide (x.length = 8) && match L2.atI (Txt.rstripChars x "z").cps.toList (-1) with
  | some c => decide ((Txt.rstripChars x "z").length ≤ 8) && (match Builtin.Str.occurrences letT (sg c) 0 letT.length 1 with
    | i :: _ => (match L2.atI letT.cps.toList ((i : Int) + 1) with
      | some c' => decide (y = cutS (Txt.rstripChars x "z") none (some (-1)) ++ sg c') && decide ((cutS (Txt.rstripChars x "z") none (some (-1))).length ≤ 8)
      | none => false)
    | [] => false)
  | none => false)
end Lm

/-! LM8: the least label that is not known; dicts by texts. -/
namespace Lm
open PySem PySem.Spec PyProof.Rows L2 Me
theorem sub_len {α : Type} [DecidableEq α] : ∀ {l k : List α}, l.Nodup → (∀ x ∈ l, x ∈ k) → l.length ≤ k.length
  | [], k, _, _ => Nat.zero_le _
  | a :: l, k, h, s => by
    obtain ⟨h1, h2⟩ := List.nodup_cons.mp h
    have ha := s a List.mem_cons_self
    have ih := sub_len (l := l) (k := k.erase a) h2 fun x hx => (List.mem_erase_of_ne (fun z => h1 (by rw [← z]; exact hx))).mpr (s x (List.mem_cons_of_mem _ hx))
    have e := List.length_erase_of_mem ha
    have := List.length_pos_of_mem ha
    rw [List.length_cons]
    omega
/-- the least label that is in none -/
def leastS (ks : List Str) : Str := (firsts.find? fun x => decide (x ∉ ks)).getD "a"
/-! ### dicts by texts -/
abbrev skK (x : Str) : DK := .k (.inr x)
/-! ### contracts -/
def CAfter : Ct := fun args μ P _ => ∃ x y, args = [.str x] ∧ StepTo x y ∧ P (.str y) μ
/-- names in a list; some of the first labels is in none -/
def CLeast : Ct := fun args μ P _ => ∃ d ns, args = [d] ∧ vw μ d = .lst (nmsD ns) ∧ ns.length ≤ 1000 ∧ ns.flatten.length ≤ 199 ∧ P (.str (leastS ns.flatten)) μ
end Lm

/-! MA3: the least machine of a machine. -/
namespace Mc
section
variable {α : Type} [BEq α] [LawfulBEq α]
/-- classes, what they accept and lead to -/
structure Quo (k : Nat) (rows : List Row) (c : List Nat) (A : Nat → Bool) (G : Nat → List Nat) : Prop where
  cl : ClsOk k rows c
  acc : ∀ s, s < rows.length → A (c.getD s 0) = acc rows s
  go : ∀ s, s < rows.length → G (c.getD s 0) = (gls rows s).map fun t => c.getD t 0
def keptOf (k : Nat) (G : Nat → List Nat) (reached : List Nat) : List Nat := (List.range k).filter fun j => reached.any fun i => decide ((G i).getD j 0 ≠ (G i).getD k 0)
def cutG (k : Nat) (G : Nat → List Nat) (kept : List Nat) (i : Nat) : List Nat := (kept ++ [k]).map fun j => (G i).getD j 0
def rowsOf (A : Nat → Bool) (G' : Nat → List Nat) (order : List Nat) : List Row := order.map fun i => (A i, (G' i).map order.idxOf)
def pickL (ls : List α) (kept : List Nat) : List α := kept.filterMap fun j => ls[j]?
/-- what the least machine is -/
structure Least (lt : α → α → Prop) (ls : List α) (rows : List Row) (ls' : List α) (rows' : List Row) : Prop where
  can : Canon lt ls' rows'
  lg : ∀ u, Lg ls' rows' u = Lg ls rows u
  len : rows'.length ≤ rows.length
  sub : ∀ x ∈ ls', x ∈ ls
section
variable {lt : α → α → Prop} {ls : List α} {rows : List Row} {c : List Nat} {A : Nat → Bool} {G : Nat → List Nat} {reached order : List Nat}
theorem Quo.of {k : Nat} (q : Quo k rows c A G) (hw : WF k rows) {i : Nat} (h : Rch G (c.getD 0 0) i) : ∃ s, s < rows.length ∧ c.getD s 0 = i := by
  induction h with
  | here => exact ⟨0, hw.ne, rfl⟩
  | step _ hy ih =>
    obtain ⟨s, hs, rfl⟩ := ih
    rw [q.go s hs] at hy
    obtain ⟨t, ht, rfl⟩ := List.mem_map.mp hy
    exact ⟨t, hw.lt s hs t ht, rfl⟩
/-- a column among the kept ones -/
def colTo (k : Nat) (kept : List Nat) (j : Nat) : Nat := kept.idxOf j
end
end
end Mc

/-! MA4: machines made of systems; what the makers' machines accept. -/
namespace Mc
/-! ### a system of states, numbered -/
section
variable {σ : Type} [DecidableEq σ]
/-- a list of all states, numbered -/
structure Sys (k : Nat) (G : σ → List σ) (first : σ) (o : List σ) : Prop where
  nd : o.Nodup
  at0 : o[0]? = some first
  cl : ∀ x ∈ o, ∀ y ∈ G x, y ∈ o
  len : ∀ x ∈ o, (G x).length = k + 1
def sysRows (a : σ → Bool) (G : σ → List σ) (o : List σ) : List Row := o.map fun s => (a s, (G s).map o.idxOf)
section
variable {k : Nat} {G : σ → List σ} {first : σ} {o : List σ} {a : σ → Bool}
theorem Sys.hd (h : Sys k G first o) : first ∈ o := List.mem_of_getElem? h.at0
theorem Sys.idx0 (h : Sys k G first o) : o.idxOf first = 0 := idx_get h.nd h.at0
theorem Sys.row (h : Sys k G first o) {s : σ} (hs : s ∈ o) : (sysRows a G o)[o.idxOf s]? = some (a s, (G s).map o.idxOf) := by
  unfold sysRows
  rw [List.getElem?_map, get_idx hs]
  rfl
theorem Sys.accAt (h : Sys k G first o) {s : σ} (hs : s ∈ o) : acc (sysRows a G o) (o.idxOf s) = a s := by
  unfold acc
  rw [List.getD_eq_getElem?_getD, h.row hs]
  rfl
theorem Sys.glsAt (h : Sys k G first o) {s : σ} (hs : s ∈ o) : gls (sysRows a G o) (o.idxOf s) = (G s).map o.idxOf := by
  unfold gls
  rw [List.getD_eq_getElem?_getD, h.row hs]
  rfl
/-- the state behind a column -/
def dlt (G : σ → List σ) (s : σ) (c : Nat) : σ := (G s).getD c s
theorem Sys.dltO (h : Sys k G first o) {s : σ} (hs : s ∈ o) {c : Nat} (hc : c ≤ k) : dlt G s c ∈ o ∧ (G s)[c]? = some (dlt G s c) := by
  have hl := h.len s hs
  unfold dlt
  rw [List.getD_eq_getElem?_getD, List.getElem?_eq_getElem (by omega)]
  exact ⟨h.cl s hs _ (List.getElem_mem _), rfl⟩
theorem Sys.goAt (h : Sys k G first o) {s : σ} (hs : s ∈ o) {c : Nat} (hc : c ≤ k) : go (sysRows a G o) (o.idxOf s) c = o.idxOf (dlt G s c) := by
  unfold go
  rw [h.glsAt hs, List.getD_eq_getElem?_getD, List.getElem?_map, (h.dltO hs hc).2]
  rfl
theorem Sys.wf (h : Sys k G first o) : WF k (sysRows a G o) := by
  have hl : (sysRows a G o).length = o.length := List.length_map ..
  have ofN : ∀ n, n < o.length → ∃ s ∈ o, o.idxOf s = n := fun n hn => ⟨o[n], List.getElem_mem hn, idx_get h.nd (List.getElem?_eq_getElem hn)⟩
  refine ⟨by rw [hl]; exact List.length_pos_of_mem h.hd, fun n hn => ?_, fun n hn g hg => ?_⟩
  · obtain ⟨s, hs, rfl⟩ := ofN n (hl ▸ hn)
    rw [h.glsAt hs, List.length_map, h.len s hs]
  · obtain ⟨s, hs, rfl⟩ := ofN n (hl ▸ hn)
    rw [h.glsAt hs] at hg
    obtain ⟨t, ht, rfl⟩ := List.mem_map.mp hg
    rw [hl]
    exact List.idxOf_lt_length_iff.mpr (h.cl s hs t ht)
theorem Sys.run (h : Sys k G first o) : ∀ {cs : List Nat} {s : σ}, s ∈ o → (∀ c ∈ cs, c ≤ k) → run (sysRows a G o) (o.idxOf s) cs = o.idxOf (cs.foldl (dlt G) s) ∧ cs.foldl (dlt G) s ∈ o
  | [], s, hs, _ => ⟨rfl, hs⟩
  | c :: cs, s, hs, hc => by
    have h0 := hc c (List.mem_cons_self ..)
    rw [run_cons, h.goAt hs h0, List.foldl_cons]
    exact Sys.run h (h.dltO hs h0).1 fun x hx => hc x (List.mem_cons_of_mem _ hx)
/-- what is reached by a name -/
def stS {α : Type} [BEq α] (G : σ → List σ) (first : σ) (ls : List α) (u : List α) : σ := (cols ls u).foldl (dlt G) first
theorem Sys.lg {α : Type} [BEq α] [LawfulBEq α] {ls : List α} (h : Sys ls.length G first o) (u : List α) : Lg ls (sysRows a G o) u = a (stS G first ls u) ∧ stS G first ls u ∈ o := by
  have := h.run (a := a) h.hd (cols_le ls u)
  rw [h.idx0] at this
  unfold Lg st
  rw [this.1, h.accAt this.2]
  exact ⟨rfl, this.2⟩
end
end
/-! ### goals told letter by letter -/
section
variable {α : Type} [BEq α] [LawfulBEq α]
/-- a row of goals: one for each letter, one for the rest -/
def mkG {β : Type} (ls : List α) (f : α → β) (d : β) : List β := ls.map f ++ [d]
/-! ### what a machine means -/
/-- letters ascending, rows; what is accepted; the empty name is not -/
structure Mach (lt : α → α → Prop) (ls : List α) (rows : List Row) (L : List α → Bool) : Prop where
  wf : WF ls.length rows
  asc : ls.Pairwise lt
  nd : ls.Nodup
  lg : ∀ u, Lg ls rows u = L u
/-! ### two side by side -/
def pairG (l1 l2 ls : List α) (r1 r2 : List Row) (p : Nat × Nat) : List (Nat × Nat) := mkG ls (fun x => (go r1 p.1 (l1.idxOf x), go r2 p.2 (l2.idxOf x))) (go r1 p.1 l1.length, go r2 p.2 l2.length)
/-- the rows of the product, by an order of the pairs -/
def prodRows (tb : Bool → Bool → Bool) (l1 l2 ls : List α) (r1 r2 : List Row) (o : List (Nat × Nat)) : List Row := sysRows (fun p => tb (acc r1 p.1) (acc r2 p.2)) (pairG l1 l2 ls r1 r2) o
/-! ### a new first state -/
def firstRows (rows : List Row) (s : Nat) : List Row := (false, (gls rows s).map (· + 1)) :: rows.map fun r => (r.1, r.2.map (· + 1))
end
end Mc

/-! MA5: the makers' machines. -/
namespace Mc
section
variable {α : Type} [BEq α] [LawfulBEq α] {lt : α → α → Prop} {ls : List α}
/-! ### all; those longer -/
def everyRows : List Row := [(false, [1]), (true, [1])]
def longerRows (many : Nat) : List Row := (List.range (many + 1)).map (fun at_ => (false, [at_ + 1])) ++ [(true, [many + 1])]
/-! ### those over some labels -/
def overRows (m : Nat) : List Row := [(false, List.replicate m 1 ++ [2]), (true, List.replicate m 1 ++ [2]), (false, List.replicate (m + 1) 2)]
/-! ### those under a name -/
def endRow (ls name : List α) (at_ : Nat) : Row := (false, mkG ls (fun l => if name[name.length - 1 - at_]? == some l then at_ + 1 else name.length + 1) (name.length + 1))
def endingRows (ls name : List α) : List Row := (List.range name.length).map (endRow ls name) ++ [(true, List.replicate (ls.length + 1) name.length), (false, List.replicate (ls.length + 1) (name.length + 1))]
/-! ### the ends of a name, repeated -/
/-- on the ray -/
def OnRay (name u : List α) : Prop := ∀ (i : Nat) x, u.reverse[i]? = some x → name.reverse[i % name.length]? = some x
def rayRow (ls name : List α) (at_ : Nat) : Row := (decide (0 < at_), mkG ls (fun l => if name[name.length - 1 - at_ % name.length]? == some l then at_ % name.length + 1 else name.length + 1) (name.length + 1))
def rayRows (ls name : List α) : List Row := (List.range (name.length + 1)).map (rayRow ls name) ++ [(false, List.replicate (ls.length + 1) (name.length + 1))]
/-! ### a name put behind -/
def plusRow (ls name : List α) (at_ : Nat) : Row := (false, mkG ls (fun l => if name[name.length - 1 - at_]? == some l then (if at_ + 1 < name.length then at_ + 1 else name.length + 1) else name.length) name.length)
def plusIn (ls l1 : List α) (r1 : List Row) (name : List α) (t : Nat) : Row := (acc r1 t, mkG ls (fun l => go r1 t (l1.idxOf l) + name.length + 1) (go r1 t l1.length + name.length + 1))
def plusRows (ls l1 : List α) (r1 : List Row) (name : List α) : List Row := (List.range name.length).map (plusRow ls name) ++ ((false, List.replicate (ls.length + 1) name.length) :: (List.range r1.length).map (plusIn ls l1 r1 name))
/-! ### some names -/
section
variable [DecidableEq α]
def onlyG (ls : List α) (E : List (List α)) (key : Option (List α)) : List (Option (List α)) := mkG ls (fun l => key.bind fun w => if l :: w ∈ E then some (l :: w) else none) none
end
end
end Mc

/-! MA6: what a machine's classes accept and lead to. -/
namespace Mc
def quoA (c : List Nat) (rows : List Row) (i : Nat) : Bool := acc rows (c.idxOf i)
def quoG (c : List Nat) (rows : List Row) (i : Nat) : List Nat := (gls rows (c.idxOf i)).map fun t => c.getD t 0
theorem Quo.sub {k : Nat} {rows : List Row} {c : List Nat} {A : Nat → Bool} {G : Nat → List Nat} (hw : WF k rows) (q : Quo k rows c A G) {i : Nat} (hi : i ∈ c) : (G i).length = k + 1 ∧ ∀ g ∈ G i, g ∈ c := by
  obtain ⟨s, hs, rfl⟩ := List.mem_iff_getElem.mp hi
  have hs' : s < rows.length := q.cl.len ▸ hs
  have e := q.go s hs'
  rw [List.getD_eq_getElem?_getD, List.getElem?_eq_getElem hs] at e
  have e : G c[s] = (gls rows s).map fun t => c.getD t 0 := e
  rw [e]
  refine ⟨by rw [List.length_map]; exact hw.len s hs', fun g hg => ?_⟩
  obtain ⟨t, ht, rfl⟩ := List.mem_map.mp hg
  have := hw.lt s hs' t ht
  rw [List.getD_eq_getElem?_getD, List.getElem?_eq_getElem (by rw [q.cl.len]; exact this)]
  exact List.getElem_mem _
end Mc

/-! MA7: how many residuals a language has. -/
namespace Mc
/-- few values -/
def Res {α β : Type} (f : α → β) (n : Nat) : Prop := ∃ xs : List β, xs.length ≤ n ∧ ∀ w, f w ∈ xs
theorem Res.map {α β γ : Type} {f : α → β} {n : Nat} (h : Res f n) (g : β → γ) : Res (fun w => g (f w)) n := by
  obtain ⟨xs, h1, h2⟩ := h
  exact ⟨xs.map g, by rw [List.length_map]; exact h1, fun w => List.mem_map_of_mem (h2 w)⟩
theorem Res.sub {α α' β : Type} {f : α → β} {n : Nat} (h : Res f n) (g : α' → α) : Res (fun w => f (g w)) n := by
  obtain ⟨xs, h1, h2⟩ := h
  exact ⟨xs, h1, fun w => h2 _⟩
theorem Res.le {α β : Type} {f : α → β} {n m : Nat} (h : Res f n) (hn : n ≤ m) : Res f m := by
  obtain ⟨xs, h1, h2⟩ := h
  exact ⟨xs, Nat.le_trans h1 hn, h2⟩
theorem Res.congr {α β : Type} {f g : α → β} {n : Nat} (h : Res f n) (e : ∀ w, g w = f w) : Res g n := by
  rw [show g = f from funext e]
  exact h
/-- values of one sort and of another one -/
theorem Res.either {α β : Type} {f g h : α → β} {n m : Nat} (h1 : Res f n) (h2 : Res g m) (e : ∀ w, h w = f w ∨ h w = g w) : Res h (n + m) := by
  obtain ⟨xs, a1, a2⟩ := h1
  obtain ⟨ys, b1, b2⟩ := h2
  refine ⟨xs ++ ys, by rw [List.length_append]; omega, fun w => List.mem_append.mpr ?_⟩
  rcases e w with z | z
  · exact .inl (z ▸ a2 w)
  · exact .inr (z ▸ b2 w)
theorem Res.const {α β : Type} (b : β) : Res (fun _ : α => b) 1 := ⟨[b], Nat.le_refl _, fun _ => List.mem_singleton.mpr rfl⟩
theorem Res.pair {α β γ : Type} {f : α → β} {g : α → γ} {n m : Nat} (h1 : Res f n) (h2 : Res g m) : Res (fun w => (f w, g w)) (n * m) := by
  obtain ⟨xs, a1, a2⟩ := h1
  obtain ⟨ys, b1, b2⟩ := h2
  refine ⟨xs.flatMap fun x => ys.map fun y => (x, y), ?_, fun w => List.mem_flatMap.mpr ⟨_, a2 w, List.mem_map_of_mem (b2 w)⟩⟩
  have : ∀ l : List β, (l.flatMap fun x => ys.map fun y => (x, y)).length = l.length * ys.length := fun l => by
    induction l with
    | nil => simp
    | cons x l ih => rw [List.flatMap_cons, List.length_append, List.length_map, ih, List.length_cons, Nat.succ_mul]; omega
  rw [this]
  exact Nat.mul_le_mul a1 b1
theorem Res.bool {α : Type} (f : α → Bool) : Res f 2 := ⟨[true, false], Nat.le_refl _, fun w => by cases f w <;> simp⟩
/-- one value of many -/
theorem Res.range {α : Type} (f : α → Nat) (n : Nat) (h : ∀ w, f w < n) : Res f n := ⟨List.range n, by rw [List.length_range]; exact Nat.le_refl _, fun w => List.mem_range.mpr (h w)⟩
section
variable {α : Type}
/-- what may stand ahead of w -/
def rsd (L : List α → Bool) (w : List α) : List α → Bool := fun v => L (v ++ w)
/-- at most n residuals -/
abbrev Nb (L : List α → Bool) (n : Nat) : Prop := Res (rsd L) n
theorem Nb.congr {L L' : List α → Bool} {n : Nat} (h : Nb L n) (e : ∀ u, L' u = L u) : Nb L' n := by
  rw [show L' = L from funext e]
  exact h
/-- the empty name is none -/
theorem Nb.ne {L L' : List α → Bool} {n : Nat} (h : Nb L n) (e : ∀ u, u ≠ [] → L' u = L u) : Nb L' (n + 1) := by
  refine Res.either (f := rsd L) (g := fun _ => rsd L' []) h (Res.const _) fun w => ?_
  cases w with
  | nil => exact .inr rfl
  | cons x w => exact .inl (funext fun v => e _ (by simp))
theorem Nb.cut {L : List α → Bool} {n : Nat} (h : Nb L n) (name : List α) : Nb (fun u => !u.isEmpty && L (u ++ name)) (n + 1) := by
  have : Nb (fun u => L (u ++ name)) n := (Res.sub h (fun w => w ++ name)).congr fun w => funext fun v => by
    show L (v ++ w ++ name) = L (v ++ (w ++ name))
    rw [List.append_assoc]
  refine this.ne fun u hu => ?_
  cases u with
  | nil => exact absurd rfl hu
  | cons x u => rfl
theorem Nb.neg {L : List α → Bool} {n : Nat} (h : Nb L n) : Nb (fun u => !u.isEmpty && !L u) (n + 1) := by
  have : Nb (fun u => !L u) n := (Res.map h fun r v => !r v).congr fun w => rfl
  refine this.ne fun u hu => ?_
  cases u with
  | nil => exact absurd rfl hu
  | cons x u => rfl
theorem Nb.joint {L1 L2 : List α → Bool} {n : Nat} (tb : Bool → Bool → Bool) (h : Res (fun w => (rsd L1 w, rsd L2 w)) n) : Nb (fun u => tb (L1 u) (L2 u)) n :=
  (Res.map h fun p v => tb (p.1 v) (p.2 v)).congr fun w => rfl
theorem Nb.join {L1 L2 : List α → Bool} {n m : Nat} (tb : Bool → Bool → Bool) (h1 : Nb L1 n) (h2 : Nb L2 m) : Nb (fun u => tb (L1 u) (L2 u)) (n * m) := Nb.joint tb (Res.pair h1 h2)
/-- a name put behind -/
theorem Nb.plus [DecidableEq α] {L L' : List α → Bool} {n : Nat} (h : Nb L n) (name : List α) (e : ∀ u, L' u = true ↔ ∃ v, u = v ++ name ∧ L v = true) : Nb L' (n + name.length + 1) := by
  have c : ∀ v, L' (v ++ name) = L v := fun v => by
    rw [Bool.eq_iff_iff, e]
    exact ⟨fun ⟨x, h1, h2⟩ => (List.append_cancel_right h1) ▸ h2, fun h => ⟨v, rfl, h⟩⟩
  obtain ⟨xs, a1, a2⟩ := h
  refine ⟨xs ++ ((List.range name.length).map (fun k => rsd L' (name.drop (name.length - k))) ++ [fun _ => false]), by simp; omega, fun w => ?_⟩
  by_cases q : name <:+ w
  · obtain ⟨v', rfl⟩ := q
    refine List.mem_append_left _ ?_
    have : rsd L' (v' ++ name) = rsd L v' := funext fun v => by
      show L' (v ++ (v' ++ name)) = L (v ++ v')
      rw [← List.append_assoc, c]
    rw [this]
    exact a2 v'
  refine List.mem_append_right _ ?_
  by_cases p : w <:+ name
  · refine List.mem_append_left _ (List.mem_map.mpr ⟨w.length, List.mem_range.mpr ?_, ?_⟩)
    · have := p.length_le
      rcases Nat.lt_or_ge w.length name.length with z | z
      · exact z
      · exact absurd (p.eq_of_length (by omega) ▸ List.suffix_refl _) q
    · obtain ⟨x, rfl⟩ := p
      rw [List.length_append, Nat.add_sub_cancel, List.drop_left]
  · refine List.mem_append_right _ (List.mem_singleton.mpr (funext fun v => ?_))
    rw [Bool.eq_false_iff]
    intro z
    obtain ⟨x, h1, _⟩ := (e _).mp z
    have s1 : w <:+ x ++ name := ⟨v, h1⟩
    have s2 : name <:+ x ++ name := ⟨x, rfl⟩
    rcases Nat.le_total w.length name.length with l | l
    · exact p (List.suffix_of_suffix_length_le s1 s2 l)
    · exact q (List.suffix_of_suffix_length_le s2 s1 l)
end
section
variable {α : Type} [BEq α] [LawfulBEq α] {lt : α → α → Prop} {ls : List α} {rows : List Row} {L : List α → Bool}
/-- a least machine has no more rows than there are residuals -/
theorem Canon.le (hI : Inf α) (h : Canon lt ls rows) (e : ∀ u, Lg ls rows u = L u) {n : Nat} (b : Nb L n) : rows.length ≤ n := by
  haveI : DecidableEq (List α → Bool) := fun a b => Classical.propDecidable (a = b)
  obtain ⟨xs, h1, h2⟩ := b
  have hw : ∀ s, ∃ u, s < rows.length → Mc.st ls rows u = s := fun s => by
    by_cases q : s < rows.length
    · obtain ⟨u, hu⟩ := h.st hI q
      exact ⟨u, fun _ => hu⟩
    · exact ⟨[], fun z => absurd z q⟩
  obtain ⟨U, hU⟩ := Classical.axiomOfChoice hw
  have inj : ∀ a ∈ List.range rows.length, ∀ b ∈ List.range rows.length, rsd L (U a) = rsd L (U b) → a = b := fun a ha b hb q => by
    rw [← hU a (List.mem_range.mp ha), ← hU b (List.mem_range.mp hb), h.same hI]
    intro x
    rw [e, e]
    exact congrFun q x
  have nd : ((List.range rows.length).map fun s => rsd L (U s)).Nodup := by
    refine List.pairwise_map.mpr (List.Pairwise.imp_of_mem (fun {a b} ha hb hne q => hne (inj a ha b hb q)) List.nodup_range)
  have := sub_len nd fun x hx => by
    obtain ⟨s, _, rfl⟩ := List.mem_map.mp hx
    exact h2 (U s)
  rw [List.length_map, List.length_range] at this
  omega
/-- only these labels are told apart -/
def Obl (L : List α → Bool) (S : List α) : Prop := ∀ u w x y, x ∉ S → y ∉ S → L (u ++ x :: w) = L (u ++ y :: w)
theorem Obl.mono {S S' : List α} (h : Obl L S) (hs : ∀ x ∈ S, x ∈ S') : Obl L S' := fun u w x y hx hy => h u w x y (fun z => hx (hs _ z)) (fun z => hy (hs _ z))
theorem Canon.letters (hI : Inf α) (h : Canon lt ls rows) (e : ∀ u, Lg ls rows u = L u) {S : List α} (o : Obl L S) : ∀ a ∈ ls, a ∈ S := fun a ha => by
  by_cases q : a ∈ S
  · exact q
  exfalso
  obtain ⟨s, hs, hne⟩ := h.mat (ls.idxOf a) (List.idxOf_lt_length_iff.mpr ha)
  obtain ⟨u, rfl⟩ := h.st hI hs
  obtain ⟨z, hz⟩ := hI (ls ++ S)
  have z1 : z ∉ ls := fun q => hz (List.mem_append_left _ q)
  have z2 : z ∉ S := fun q => hz (List.mem_append_right _ q)
  have : Mc.st ls rows (a :: u) ≠ Mc.st ls rows (z :: u) := by rw [st_cons, st_cons, List.idxOf_eq_length z1]; exact hne
  refine this ((h.same hI _ _).mpr fun x => ?_)
  rw [e, e]
  exact o x u a z q z2
theorem Canon.few (hI : Inf α) (h : Canon lt ls rows) (e : ∀ u, Lg ls rows u = L u) {S : List α} (o : Obl L S) : ls.length ≤ S.length := by
  haveI : DecidableEq α := fun a b => if h : (a == b) = true then .isTrue (eq_of_beq h) else .isFalse fun e => h (e ▸ beq_self_eq_true a)
  exact sub_len h.nd (h.letters hI e o)
end
end Mc

namespace Lm
open PySem PySem.Spec PyProof.Rows L2 Me
/-! LS1: trees of sets of short names, what they mean, the laws' own machine. -/
inductive Jn | and | or | minus | unlike
def Jn.tb : Jn → Bool → Bool → Bool
  | .and => fun a b => a && b
  | .or => fun a b => a || b
  | .minus => fun a b => a && !b
  | .unlike => fun a b => a != b
def Jn.tx : Jn → Str | .and => "and" | .or => "or" | .minus => "minus" | .unlike => "unlike"
inductive Tree
  | only (ns : List (List Str))
  | ending (n : List Str)
  | ray (n : List Str)
  | longer (k : Nat)
  | over (ls : List Str)
  | every
  | neg (t : Tree)
  | cut (t : Tree) (n : List Str)
  | plus (t : Tree) (n : List Str)
  | join (j : Jn) (a b : Tree)
def Tree.deep : Tree → Nat
  | .neg t => t.deep + 1
  | .cut t _ => t.deep + 1
  | .plus t _ => t.deep + 1
  | .join _ a b => max a.deep b.deep + 1
  | _ => 0
def treeD : Tree → D
  | .only ns => .tup [.str "only", .lst (nmsD ns)]
  | .ending n => .tup [.str "ending", nameD n]
  | .ray n => .tup [.str "ray", nameD n]
  | .longer k => .tup [.str "longer", .int ((k : Nat) : Int)]
  | .over ls => .tup [.str "over", .lst (strsD ls)]
  | .every => .tup [.str "every"]
  | .neg t => .tup [.str "not", treeD t]
  | .cut t n => .tup [.str "cut", treeD t, nameD n]
  | .plus t n => .tup [.str "plus", treeD t, nameD n]
  | .join j a b => .tup [.str j.tx, treeD a, treeD b]
def Labs (n : List Str) : Prop := ∀ x ∈ n, L8 x
/-- trees whose words are over some labels -/
def TreeOk (S : List Str) : Tree → Prop
  | .only ns => ns.length ≤ 4 ∧ ∀ n ∈ ns, n ≠ [] ∧ n.length ≤ 4 ∧ ∀ x ∈ n, x ∈ S
  | .ending n => n.length ≤ 3 ∧ ∀ x ∈ n, x ∈ S
  | .ray n => n ≠ [] ∧ n.length ≤ 4 ∧ ∀ x ∈ n, x ∈ S
  | .longer k => k ≤ 3
  | .over ls => ls.length ≤ 3 ∧ ls.Pairwise slt ∧ ls.Nodup ∧ ∀ x ∈ ls, x ∈ S
  | .every => True
  | .neg t => TreeOk S t
  | .cut t n => TreeOk S t ∧ n.length ≤ 3 ∧ ∀ x ∈ n, x ∈ S
  | .plus t n => TreeOk S t ∧ n.length ≤ 3 ∧ ∀ x ∈ n, x ∈ S
  | .join _ a b => TreeOk S a ∧ TreeOk S b
/-! ### rays -/
def rep (n : List Str) (k : Nat) : List Str := (List.replicate k n).flatten
def rayB (n u : List Str) : Bool := decide ((rep n u.length).drop ((rep n u.length).length - u.length) = u)
/-- which names a tree means -/
def lg : Tree → List Str → Bool
  | .only ns, u => decide (u ∈ ns)
  | .ending n, u => !u.isEmpty && decide (n <:+ u)
  | .ray n, u => !u.isEmpty && rayB n u
  | .longer k, u => decide (k < u.length)
  | .over ls, u => !u.isEmpty && u.all fun x => decide (x ∈ ls)
  | .every, u => !u.isEmpty
  | .neg t, u => !u.isEmpty && !lg t u
  | .cut t n, u => !u.isEmpty && lg t (u ++ n)
  | .plus t n, u => decide (n <:+ u) && lg t (u.take (u.length - n.length))
  | .join j a b, u => j.tb (lg a u) (lg b u)
/-! ### the laws' own machine -/
inductive St
  | n (r : Bool) (k : Int)
  | w (r : Bool) (o : Option (List Str))
  | u (r : Bool) (s : St)
  | b (r : Bool) (s t : St)
  | p (r : Bool) (k : Int) (s : St)
def stD : St → D
  | .n r k => .tup [.bl r, .int k]
  | .w r (some x) => .tup [.bl r, nameD x]
  | .w r none => .tup [.bl r, .non]
  | .u r s => .tup [.bl r, stD s]
  | .b r s t => .tup [.bl r, stD s, stD t]
  | .p r k s => .tup [.bl r, .int k, stD s]
def nxt : Tree → St → Str → St
  | .join _ a b, .b _ s t, x => .b true (nxt a s x) (nxt b t x)
  | .neg t, .u _ s, x => .u true (nxt t s x)
  | .cut t _, .u _ s, x => .u true (nxt t s x)
  | .plus t n, .p _ k s, x => if k = n.length then .p true k (nxt t s x) else .p true (if 0 ≤ k ∧ n[n.length - 1 - k.toNat]? = some x then k + 1 else -1) s
  | .only ns, .w _ o, x => .w true (o.bind fun w => if ∃ n ∈ ns, x :: w <:+ n then some (x :: w) else none)
  | .ending n, .n _ k, x => .n true (if k = n.length ∨ k < 0 then k else if n[n.length - 1 - k.toNat]? = some x then k + 1 else -1)
  | .ray n, .n _ k, x => .n true (if 0 ≤ k ∧ n[n.length - 1 - k.toNat]? = some x then ((k.toNat + 1) % n.length : Nat) else -1)
  | .longer m, .n _ k, x => .n true (if m + 1 < k + 1 then m + 1 else k + 1)
  | .over ls, .n _ k, x => .n true (if x ∈ ls then k else -1)
  | .every, .n _ k, _ => .n true k
  | _, s, _ => s
def St.r : St → Bool | .n r _ => r | .w r _ => r | .u r _ => r | .b r _ _ => r | .p r _ _ => r
def good : Tree → St → Bool
  | .join j a b, .b r s t => r && j.tb (good a s) (good b t)
  | .neg t, .u r s => r && !good t s
  | .cut t _, .u r s => r && good t s
  | .plus t n, .p r k s => r && (decide (k = n.length) && good t s)
  | .only ns, .w r o => r && (match o with | some w => decide (w ∈ ns) | none => false)
  | .ending n, .n r k => r && decide (k = n.length)
  | .longer m, .n r k => r && decide (k = (m + 1 : Nat))
  | .ray _, .n r k => r && decide (0 ≤ k)
  | .over _, .n r k => r && decide (0 ≤ k)
  | .every, .n r k => r && decide (0 ≤ k)
  | _, _ => false
/-- how much of an end was read: -1 if it is another one -/
def pos (n w : List Str) : Int := if n <:+ w then n.length else if w <:+ n then w.length else -1
def rest (n w : List Str) : List Str := if n <:+ w then w.take (w.length - n.length) else []
open Classical in
noncomputable def stT : Tree → List Str → St
  | .only ns, w => .w (!w.isEmpty) (if w = [] ∨ ∃ n ∈ ns, w <:+ n then some w else none)
  | .ending n, w => .n (!w.isEmpty) (pos n w)
  | .ray n, w => .n (!w.isEmpty) (if Mc.OnRay n w then (w.length % n.length : Nat) else -1)
  | .longer m, w => .n (!w.isEmpty) (if m + 1 < w.length then (m + 1 : Nat) else (w.length : Nat))
  | .over ls, w => .n (!w.isEmpty) (if w.all (fun x => decide (x ∈ ls)) then 0 else -1)
  | .every, w => .n (!w.isEmpty) 0
  | .neg t, w => .u (!w.isEmpty) (stT t w)
  | .cut t n, w => .u (!w.isEmpty) (stT t (w ++ n))
  | .plus t n, w => .p (!w.isEmpty) (pos n w) (stT t (rest n w))
  | .join _ a b, w => .b (!w.isEmpty) (stT a w) (stT b w)
end Lm

namespace Lm
open PySem PySem.Spec PyProof.Rows L2 Me
/-! LS9: the order of names, the least name of a set. -/
instance (a b : Str) : Decidable (slt a b) := inferInstanceAs (Decidable (a.cps.toList < b.cps.toList))
theorem slt_irrefl (a : Str) : ¬ slt a a := fun h => List.lt_irrefl _ h
theorem slt_trans {a b c : Str} (h1 : slt a b) (h2 : slt b c) : slt a c := List.lt_trans h1 h2
theorem slt_total (a b : Str) : a = b ∨ slt a b ∨ slt b a := by
  by_cases e : a = b
  · exact .inl e
  · have := List.le_total a.cps.toList b.cps.toList
    rcases this with h | h
    · exact .inr (.inl (sle_slt (decide_eq_true h) e))
    · exact .inr (.inr (sle_slt (decide_eq_true h) fun z => e z.symm))
theorem nlt_cons_self (x : Str) (a b : List Str) : nlt (x :: a) (x :: b) = nlt a b := by rw [nlt, if_pos rfl]
theorem nlt_cons_ne {x y : Str} (h : x ≠ y) (a b : List Str) : nlt (x :: a) (y :: b) = decide (slt x y) := by rw [nlt, if_neg h]; rfl
theorem nlt_total : ∀ a b : List Str, nlt a b = false → nlt b a = false → a = b
  | [], [], _, _ => rfl
  | [], _ :: _, h, _ => nomatch h
  | _ :: _, [], _, h => nomatch h
  | x :: a, y :: b, h1, h2 => by
    by_cases e : x = y
    · subst e
      rw [nlt_cons_self] at h1 h2
      rw [nlt_total a b h1 h2]
    · rw [nlt_cons_ne e] at h1
      rw [nlt_cons_ne fun z => e z.symm] at h2
      rcases slt_total x y with z | z | z
      · exact absurd z e
      · exact absurd z (of_decide_eq_false h1)
      · exact absurd z (of_decide_eq_false h2)
/-- not behind -/
abbrev nle (a b : List Str) : Prop := nlt b a = false
theorem nle_trans : ∀ {a b c : List Str}, nle a b → nle b c → nle a c
  | [], _, [], _, _ => rfl
  | [], _, _ :: _, _, _ => rfl
  | _ :: _, [], _, h, _ => nomatch h
  | _ :: _, _ :: _, [], _, h => nomatch h
  | x :: a, y :: b, z :: c, h1, h2 => by
    unfold nle at h1 h2 ⊢
    by_cases e1 : y = x
    · subst e1
      rw [nlt_cons_self] at h1
      by_cases e2 : z = y
      · subst e2
        rw [nlt_cons_self] at h2 ⊢
        exact nle_trans (a := a) (b := b) (c := c) h1 h2
      · rw [nlt_cons_ne e2] at h2 ⊢
        exact h2
    · rw [nlt_cons_ne e1] at h1
      have l1 : slt x y := (slt_total x y).elim (fun z => absurd z.symm e1) fun z => z.elim id fun z => absurd z (of_decide_eq_false h1)
      have l2 : slt x z := by
        by_cases e2 : z = y
        · rw [e2]; exact l1
        · rw [nlt_cons_ne e2] at h2
          have := of_decide_eq_false h2
          exact slt_trans l1 ((slt_total y z).elim (fun q => absurd q.symm e2) fun q => q.elim id fun q => absurd q this)
      have e3 : z ≠ x := fun q => slt_irrefl x (q ▸ l2)
      rw [nlt_cons_ne e3]
      exact decide_eq_false fun q => slt_irrefl x (slt_trans l2 q)
/-- the least of some names -/
structure Least (L : List Str → Bool) (n : List Str) : Prop where
  lab : Labs n
  mem : L n = true
  min : ∀ u, Labs u → L u = true → n.length < u.length ∨ n.length = u.length ∧ nle n u
theorem Least.uniq {L L' : List Str → Bool} {n m : List Str} (h : Least L n) (h' : Least L' m) (e : ∀ u, L u = L' u) : n = m := by
  have a := h.min m h'.lab (by rw [e]; exact h'.mem)
  have b := h'.min n h.lab (by rw [← e]; exact h.mem)
  rcases a with a | ⟨a1, a2⟩
  · rcases b with b | ⟨b1, _⟩ <;> omega
  · rcases b with b | ⟨_, b2⟩
    · omega
    · exact nlt_total n m b2 a2
/-! ### the least label -/
def As : List Str := ["a", "aa", "aaa", "aaaa", "aaaaa", "aaaaaa", "aaaaaaa", "aaaaaaaa"]
end Lm

/-! Me87: sorted of tuples, one of which is empty, not the first one. -/
namespace Me
open PySem PySem.Spec PyProof.Rows L2
open PyProof.Rows PySem.W in
theorem firsts_data {M : Model} {A : Around} {E : Value → Shared → Prop} {s : Shared} : ∀ (vs : List Value) (ds : List PyData) {Q : List (Option Value) → Shared → Prop}, EachIs (fun v d => ∃ as, Reads s.heap v d as) vs ds → (∀ d ∈ ds, ∃ xs, d = .tuple xs) →
    (∀ fs : List (Option Value), fs.map (·.isSome) = ds.map (fun d => match d with | .tuple xs => !xs.isEmpty | _ => false) → Q fs s) → wpAny M A (vs.mapM firstOfTuple') Q E s
  | _, _, Q, .nil, _, h => by rw [List.mapM_nil]; exact wpAny_pure (h [] rfl)
  | _, _, Q, .cons (a := v) (b := d) (as := vs) (bs := ds) ⟨as, r⟩ t, ht, h => by
    obtain ⟨xs, rfl⟩ := ht d (List.mem_cons_self ..)
    rw [List.mapM_cons]
    refine wpAny_bind ?_
    rw [kas_first_eq]
    cases r with
    | @tuple a o us n _ _ ho hc hd hr =>
      refine wpAny_bind (Looks.here (show Looks M s.heap (typeOf (.ref a)) o.cls from (Looks.ld ho).andThen .now) ?_)
      rw [hc, if_neg (by first | decide | simp)]
      refine wpAny_bind (listItems_at ho hd (wpAny_pure ?_))
      refine wpAny_bind (firsts_data vs ds (Q := fun bs s' => wpAny M A (pure (us[0]? :: bs)) Q E s') t (fun d hd => ht d (List.mem_cons_of_mem _ hd)) fun fs hf => wpAny_pure (h _ ?_))
      rw [List.map_cons, List.map_cons, hf]
      congr 1
      have hl : us.size = xs.length := by simpa using SeqAt.ReadsAll.length _ _ _ hr
      show us[0]?.isSome = !xs.isEmpty
      cases xs with
      | nil => rw [Array.getElem?_eq_none (by rw [hl]; exact Nat.le_refl _)]; rfl
      | cons x xs => rw [Array.getElem?_eq_getElem (by rw [hl]; exact Nat.zero_lt_succ _)]; rfl
/-- tuples, the first one not empty, one that is -/
structure SortE (ds : List PyData) : Prop where
  tup : ∀ d ∈ ds, ∃ xs, d = .tuple xs
  hd : ∃ x r l, ds = .tuple (x :: r) :: l
  em : PyData.tuple [] ∈ ds
structure SrtOkE (ds : List D) : Prop where
  py : D.isPys ds = true
  nd : PyData.hasDictAll (D.pys ds) = false
  al : PySem.W.AllAlike (ds.map D.py)
  so : SortE (ds.map D.py)
  sz : ds.length ≤ sizeLine
  dp : ∀ d ∈ ds, d.py.depth ≤ 60
open PyProof.Rows PySem.W in
theorem sorts_general {prog : Program} {w : World} {A : Around} {s : Shared} {vs : List Value} {ds : List PyData} (e : EachIs (fun v d => ∃ as, Reads s.heap v d as) vs ds) (hal : AllAlike ds) (hk : SortE ds) (hu : ∀ d, d ∈ ds → A.units + d.depth < cLine) : SortsAt prog w A s (dataKind s.heap ds) vs := by
  have room : ∀ {d d' : PyData}, d ∈ ds → A.units + min d.depth d'.depth < cLine := fun {d d'} hd => Nat.lt_of_le_of_lt (Nat.add_le_add_left (Nat.min_le_left _ _) _) (hu d hd)
  refine ⟨fun v hv => ?_, ?_⟩
  · obtain ⟨d, hd, as, r⟩ := e.left v hv
    exact ⟨_, dataKind_some hal hd r⟩
  · refine ⟨general', ?_, fun h2 E Q hq => ?_⟩
    · intro E x y a b Q ha hb hq
      obtain ⟨d, as, hd, ra, rfl⟩ := dataKind_inv ha
      obtain ⟨d', as', hd', rb, rfl⟩ := dataKind_inv hb
      show wpAny (model prog w) A (oneLt' false x y) _ _ s
      refine oneLt_alike (fun h => nomatch h) ra rb (hal d hd d' hd') ?_ (room hd) hq
      obtain ⟨xs, rfl⟩ := hk.tup d hd
      exact fun z => nomatch z
    · rw [kat_kind_eq, List.mapM_toArray, map_eq_pure_bind]
      refine wpAny_bind (wpAny_bind (firsts_data vs ds e hk.tup fun fs hf => wpAny_pure ?_))
      have hall : ((fs.toArray.all fun x => x.isSome) = true) → False := fun h => by
        rw [List.all_toArray, List.all_eq_true] at h
        obtain ⟨i, hi, he⟩ := List.getElem_of_mem hk.em
        have hl : fs.length = ds.length := by have := congrArg List.length hf; simpa using this
        have h1 := h fs[i] (List.getElem_mem _)
        have h2 : (fs.map (·.isSome))[i]? = (ds.map (fun d => match d with | .tuple xs => !xs.isEmpty | _ => false))[i]? := by rw [hf]
        rw [List.getElem?_map, List.getElem?_map, List.getElem?_eq_getElem (by omega), List.getElem?_eq_getElem hi, he] at h2
        have h2 : fs[i].isSome = false := Option.some.inj h2
        rw [h1] at h2
        exact nomatch h2
      rw [if_neg hall]
      obtain ⟨x, r, l, rfl⟩ := hk.hd
      cases fs with
      | nil => exact nomatch hf
      | cons f fs =>
        rw [List.map_cons, List.map_cons] at hf
        have h1 : f.isSome = true := (List.cons.inj hf).1
        rw [if_pos (by show ((f :: fs).toArray[0]?.bind id).isSome = true; simpa using h1)]
        exact wpAny_pure hq
section
variable {X : Cx} {pins : List (Addr × Obj)} {s : Shared} {σ : L2.St} {H F : Hp} {as : List Ad} {Γ : Gam}
theorem sorted_runZ {u : Value} {vs : List V} {ds : List D} {Q : VK} (ok : SrtOkE ds) (sF : Same F H) (dv : DVs Γ F as vs ds) (hu : X.A.units + 70 < cLine)
    (col : ∀ {R : List Value → Shared → Prop} {E : Value → Shared → Prop}, (∀ us s1, Inv X pins σ H s1 → Vals vs us → R us s1) → wpAny (model X.prog X.w) X.A.in1 (collect u) R E s)
    (q : ∀ p ws, H p = none → DVs Γ F as ws (srt ds) → Q (.ref p) (upd H p (.lst ws))) : wpAny (model X.prog X.w) X.A (call (.builtin "sorted") [u]) (EP X pins σ Q) X.xe s := by
  refine Calls.call_function_entry kind_sorted plain_sorted entry_sorted (args_sorted1 _) ?_
  unfold Builtin.«sorted»
  refine wpAny_bind (m := checkCount "sorted" 1 1 _) (wpAny_pure (wpAny_bind (col fun us s1 I1 rv => ?_)))
  have hl : us.length = ds.length := by rw [← rv.length, dv.length]
  refine wpAny_bind (wpAny_newList ?_ (by rw [hl]; exact ok.sz))
  generalize ea : s1.heap.objs.size = a
  generalize eh : s1.heap.push (seqObj "list" us.toArray 0) = h2
  have ho : h2.get? a = some (seqObj "list" us.toArray 0) := by rw [← eh, ← ea]; exact Heap.get?_push_size _ rfl
  have old : ∀ b o, s1.heap.get? b = some o → h2.get? b = some o := fun b o e => by rw [← eh]; exact Heap.get?_push_of_some _ e
  have nea : ∀ b o, s1.heap.get? b = some o → b ≠ a := fun b o e => by rw [← ea]; exact Nat.ne_of_lt (Heap.lt_size e)
  obtain ⟨ar, rd⟩ := Dp.readsAll I1 _ _ _ (DVs.dpn X.K sF dv ok.py ok.nd) rv
  rw [pys_map] at rd
  have er : PySem.W.EachIs (fun v d => ∃ as, Reads (PySem.W.sortingHeap h2 a us) v (D.py d) as) us ds :=
    PySem.W.readsAll_each D.py (PyProof.Rows.ReadsAll.keeps (fun b o e => PySem.W.sortingHeap_old (nea b o e) (old b o e)) rd)
  have ee := each_vals dv rv
  refine wpAny_bind (wpAny_holding (wpAny_call_entry slot_list_sort ⟨_, ho, rfl⟩ entry_list_sort ?_ (args_list_sort _)))
  show wpAny (model X.prog X.w) X.A.in1.in1 (Builtin.«list.sort» ⟨[.ref a], []⟩) _ _ ({ s1 with heap := h2 } : Shared)
  refine PySem.W.list_sort_vals (κ := PySem.W.dataKind (PySem.W.sortingHeap h2 a us) (ds.map D.py)) (s := { s1 with heap := h2 }) ho
    (sorts_general (s := { s1 with heap := PySem.W.sortingHeap h2 a us }) (PySem.W.each_map (R := fun v d => ∃ as, Reads (PySem.W.sortingHeap h2 a us) v d as) D.py er) ok.al ok.so fun d hd => ?_) (by rw [hl]; exact ok.sz) ⟨.none, rfl, ?_⟩
  · obtain ⟨b, hb, rfl⟩ := List.mem_map.mp hd
    have := ok.dp b hb
    show X.A.units + 1 + 1 + _ < cLine
    omega
  · obtain ⟨ws, w1, w2⟩ := each_out (PySem.W.sortVals_data false ee er ok.al)
    obtain ⟨c, hc⟩ := sortedHeap_at (vs := us) (out := (PySem.W.sortVals (PySem.W.dataKind (PySem.W.sortingHeap h2 a us) (ds.map D.py)) false us us).toArray) ho
    have hsz : h2.objs.size = a + 1 := by rw [← eh, ← ea, size_push']
    refine wpAny_pure ⟨_, rfl, .ref a, upd H a (.lst ws), I1.laid (t' := s1.toks) (fun b o e => ?_) (Nat.le_of_eq ea) ⟨?_, _, c, w1, hc⟩, rfl, q a ws (I1.hok.fresh (Nat.le_of_eq ea)) w2⟩
    · rw [sortedHeap_old (nea b o e) (Heap.lt_size (old b o e))]
      exact old b o e
    · rw [w2.length, List.length_mergeSort]
      exact ok.sz
end
section
variable {S : Sc} {env : En} {μ : Mu} {d : D} {ds : List D} {P : KD} {kvs : List (DK × D)}
theorem c_sortedDTE (h1 : vw μ d = .dct true kvs) (hc : S.X.calm = true) (ok : SrtOkE (kvs.map fun p => dkD p.1)) (k : Nl P (srt (kvs.map fun p => dkD p.1)) μ) : Cl S (.builtin "sorted") [d] env μ P := by
  intro pins s σ H xs us Q F as I rx a r kk
  obtain ⟨x, rfl, rr⟩ := dvs1 r
  obtain ⟨p, rfl, vs, hr, dv⟩ := a.w.dct rr h1
  obtain ⟨u, rfl, e⟩ := vals1 rx
  cases e
  obtain ⟨bs, hk, col⟩ := col_dT hc I hr
  obtain ⟨F2, W2, g2, dv2⟩ := adoptKeys a.w dv hk
  exact sorted_runZ ok W2.sub dv2 S.hu (fun k => col k) fun p ws n dw => (kk.go g2).new W2 n k dw
end
end Me

set_option maxHeartbeats 4000000
namespace Lm
open PySem PySem.Spec PyProof.Rows L2 Me
theorem le_nlt (x y : List Str) : PySem.W.dataLe false D.py (nameD x) (nameD y) = !nlt y x := by
  show (!PySem.W.dataLt (nameD y).py (nameD x).py) = _
  rw [show PySem.W.dataLt (nameD y).py (nameD x).py = nlt y x from dataLt_nm y x]
theorem nle_tot (x y : List Str) : nle x y ∨ nle y x := by
  cases h : nlt y x with
  | false => exact .inl h
  | true =>
    refine .inr ?_
    show nlt x y = false
    cases h2 : nlt x y with
    | false => rfl
    | true =>
      exfalso
      have e : PySem.W.dataLt (nameD y).py (nameD x).py = true := (dataLt_nm y x).trans h
      have e2 : PySem.W.dataLt (nameD x).py (nameD y).py = true := (dataLt_nm x y).trans h2
      unfold PySem.W.dataLt at e e2
      have := lex_trans _ _ _ e e2
      rw [lex_irrefl] at this
      exact nomatch this
theorem asc_pw (ns : List (List Str)) : (asc ns).Pairwise nle := by
  have : (asc ns).Pairwise fun a b => PySem.W.dataLe false D.py (nameD a) (nameD b) = true := by
    refine List.pairwise_mergeSort (fun a b c h1 h2 => ?_) (fun a b => ?_) ns
    · rw [le_nlt] at h1 h2 ⊢
      have h1 : nle a b := by simpa using h1
      have h2 : nle b c := by simpa using h2
      rw [show nlt c a = false from nle_trans h1 h2]; rfl
    · rw [le_nlt, le_nlt]
      rcases nle_tot a b with h | h
      · rw [show nlt b a = false from h]; rfl
      · rw [show nlt a b = false from h]; simp
  exact this.imp fun {a b} h => by
    rw [le_nlt] at h
    show nlt b a = false
    simpa using h
theorem nle_anti {a b : List Str} (h1 : nle a b) (h2 : nle b a) : a = b := nlt_total a b h2 h1
theorem asc_prm (ns : List (List Str)) : (asc ns).Perm ns := List.mergeSort_perm _ _
theorem pw_eq {a b : List (List Str)} (h1 : a.Pairwise nle) (h2 : b.Pairwise nle) (p : a.Perm b) : a = b := List.Perm.eq_of_pairwise (fun _ _ _ _ x y => nle_anti x y) h1 h2 p
theorem asc_eq {a b : List (List Str)} (p : a.Perm b) : asc a = asc b := pw_eq (asc_pw a) (asc_pw b) ((asc_prm a).trans (p.trans (asc_prm b).symm))
mutual
theorem rw_fl (μ : Mu) : ∀ {d : D}, d.fl = true → Rw μ d d.py
  | .non, _ => .non
  | .bl _, _ => .bl _
  | .int _, _ => .int _
  | .str _, _ => .str _
  | .lst ds, h => .lst (rws_fl μ (by simpa [D.fl] using h))
  | .tup ds, h => .tup (rws_fl μ (by simpa [D.fl] using h))
  | .dct _ _, h => by simp [D.fl] at h
  | .ins _ _, h => by simp [D.fl] at h
  | .err _ _, h => by simp [D.fl] at h
  | .ty _, h => by simp [D.fl] at h
  | .cls _, h => by simp [D.fl] at h
  | .cell _, h => by simp [D.fl] at h
theorem rws_fl (μ : Mu) : ∀ {ds : List D}, D.fls ds = true → Rws μ ds (D.pys ds)
  | [], _ => .nil
  | d :: ds, h => by
    simp only [D.fls, Bool.and_eq_true] at h
    exact .cons (rw_fl μ h.1) (rws_fl μ h.2)
end
theorem rws_map {α : Type} {μ : Mu} (f : α → D) (g : α → PyData) : ∀ {l : List α}, (∀ x ∈ l, Rw μ (f x) (g x)) → Rws μ (l.map f) (l.map g)
  | [], _ => .nil
  | x :: l, h => .cons (h x List.mem_cons_self) (rws_map f g fun y hy => h y (List.mem_cons_of_mem _ hy))
/-- whatever bag, whatever more -/
def Al (m : Mu) (p : Mu → Prop) : Prop := ∀ (s : Bag) (x : Mu), p (bagC s :: (m ++ x))

def ANamesZ : List D → Prop := fun r => ∃ (ls : List Str) (many : Nat), r = [.lst (ls.map D.str), .int ((many : Nat) : Int), .int 4] ∧ Labs8 ls ∧ 1 ≤ many ∧ many ≤ 40
def RNamesZ : List D → D → Prop := fun r d => ∃ (ls : List Str) (many : Nat) (ns : List (List Str)), r = [.lst (ls.map D.str), .int ((many : Nat) : Int), .int 4] ∧ d = .lst (nmsD ns) ∧ Ns ns 4 many ∧ ns.Nodup ∧ ns ≠ []
/-- a dict by names of any texts, its names in order -/
structure VOk (ns : List (List Str)) (kvs : Kvs) : Prop where
  ks : kvs.map (·.1) = ns.map nmK
  nd : ns.Nodup
  nm : ∀ n ∈ ns, n.length ≤ 10 ∧ ∀ x ∈ n, PyData.strOk x = true ∧ x.length ≤ 20
  vl : ∀ p ∈ kvs, p.2.fl = true ∧ Ok p.2.py 2 3000
  ln : ns.length ≤ 40
theorem VOk.mem {ns : List (List Str)} {kvs : Kvs} (h : VOk ns kvs) {p : DK × D} (hp : p ∈ kvs) : ∃ n ∈ ns, p.1 = nmK n := by
  have : p.1 ∈ ns.map nmK := by rw [← h.ks]; exact List.mem_map_of_mem hp
  obtain ⟨n, hn, e⟩ := List.mem_map.mp this
  exact ⟨n, hn, e.symm⟩
theorem nmK_key {n : List Str} (h : n.length ≤ 10 ∧ ∀ x ∈ n, PyData.strOk x = true ∧ x.length ≤ 20) : keyB (nmK n) = true := by
  unfold keyB
  rw [dk_nm, Bool.and_eq_true, Bool.and_eq_true]
  refine ⟨⟨?_, ?_⟩, ?_⟩
  · show D.fls (n.map D.str) = true
    clear h
    induction n with
    | nil => rfl
    | cons x n ih => show (true && D.fls (n.map D.str)) = true; rw [ih]; rfl
  · show decide ((n.map D.str).length ≤ 1000) = true
    rw [List.length_map]
    exact decide_eq_true (by omega)
  · show ((n.map D.str).all fun d => d.fl && smallB d) = true
    rw [List.all_eq_true]
    intro d hd
    obtain ⟨x, hx, rfl⟩ := List.mem_map.mp hd
    show (true && decide (x.length ≤ 1000)) = true
    rw [decide_eq_true (by have := (h.2 x hx).2; omega)]
    rfl
theorem VOk.kv {ns : List (List Str)} {kvs : Kvs} (h : VOk ns kvs) : KvOk true kvs := by
  refine ⟨fun p hp => ?_, ?_, ?_, fun p hp => ?_, fun p hp => (h.vl p hp).1, fun p hp x e => ?_⟩
  · obtain ⟨n, hn, e⟩ := h.mem hp
    rw [e, dk_nm]
    exact asDK_name n
  · rw [h.ks]
    exact List.pairwise_map.mpr (h.nd.imp fun a b => a (nmK_inj.mp b))
  · have := congrArg List.length h.ks
    rw [List.length_map, List.length_map] at this
    have := h.ln
    omega
  · obtain ⟨n, hn, e⟩ := h.mem hp
    rw [e]
    exact nmK_key (h.nm n hn)
  · obtain ⟨n, hn, e2⟩ := h.mem hp
    rw [e2] at e
    have : n.map Sum.inr = x := DK.t.inj e
    have h1 := (h.nm n hn).1
    rw [← this, List.length_map]
    exact h1
theorem VOk.kt {ns : List (List Str)} {kvs : Kvs} (h : VOk ns kvs) : KeysT kvs := fun p hp => by
  obtain ⟨n, hn, e⟩ := h.mem hp
  exact ⟨n, e, (h.nm n hn).1, fun x hx => ((h.nm n hn).2 x hx).2⟩
theorem VOk.lens {ns : List (List Str)} {kvs : Kvs} (h : VOk ns kvs) : kvs.length = ns.length := by
  have := congrArg List.length h.ks
  rwa [List.length_map, List.length_map] at this
theorem VOk.put {ns : List (List Str)} {kvs : Kvs} (h : VOk ns kvs) {n : List Str} {v : D} (hn : n.length ≤ 10 ∧ ∀ x ∈ n, PyData.strOk x = true ∧ x.length ≤ 20) (hv : v.fl = true ∧ Ok v.py 2 3000) (hl : ns.length ≤ 39) :
    VOk (if n ∈ ns then ns else ns ++ [n]) (putD kvs (nmK n) v) := by
  have hany : (kvs.any fun kv => decide (kv.1 = nmK n)) = decide (n ∈ ns) := by
    rw [Bool.eq_iff_iff, List.any_eq_true, decide_eq_true_iff]
    constructor
    · rintro ⟨p, hp, e⟩
      obtain ⟨m, hm, e2⟩ := h.mem hp
      have e := of_decide_eq_true e
      rw [e2] at e
      rw [← nmK_inj.mp e]
      exact hm
    · intro hm
      have : nmK n ∈ kvs.map (·.1) := by rw [h.ks]; exact List.mem_map_of_mem hm
      obtain ⟨p, hp, e⟩ := List.mem_map.mp this
      exact ⟨p, hp, decide_eq_true e⟩
  unfold putD
  rw [hany]
  by_cases hm : n ∈ ns
  · rw [decide_eq_true hm, if_pos rfl, if_pos hm]
    refine ⟨?_, h.nd, h.nm, fun p hp => ?_, h.ln⟩
    · rw [← h.ks, List.map_map]
      refine List.map_congr_left fun p _ => ?_
      show (if p.1 = nmK n then (p.1, v) else p).1 = p.1
      split <;> rfl
    · obtain ⟨q, hq, rfl⟩ := List.mem_map.mp hp
      show (if q.1 = nmK n then (q.1, v) else q).2.fl = true ∧ _
      split
      · exact hv
      · exact h.vl q hq
  · rw [decide_eq_false hm, if_neg Bool.false_ne_true, if_neg hm]
    refine ⟨by rw [List.map_append, h.ks, List.map_append]; rfl, ?_, fun m hm2 => ?_, fun p hp => ?_, by rw [List.length_append]; exact Nat.succ_le_succ hl⟩
    · exact nd_snoc h.nd hm
    · rcases List.mem_append.mp hm2 with z | z
      · exact h.nm m z
      · rw [List.mem_singleton.mp z]; exact hn
    · rcases List.mem_append.mp hp with z | z
      · exact h.vl p z
      · rw [List.mem_singleton.mp z]; exact hv
theorem VOk.zk {ps : Zp} {m : Nat} (h : Zn ps 4 m) (hm : m ≤ 40) : VOk (keysZ ps) (Lm.zk ps) := by
  refine ⟨by unfold Lm.zk keysZ; rw [List.map_map, List.map_map]; rfl, h.nd, fun n hn => ?_, fun p hp => ?_, by unfold keysZ; rw [List.length_map]; have := h.len; omega⟩
  · obtain ⟨p, hp, rfl⟩ := List.mem_map.mp hn
    have := (h.ok p hp).1
    exact ⟨by have := this.len; omega, fun x hx => ⟨(this.lab x hx).1.ok, by have := (this.lab x hx).2; omega⟩⟩
  · unfold Lm.zk at hp
    obtain ⟨q, hq, rfl⟩ := List.mem_map.mp hp
    have := h.ok q hq
    exact ⟨rfl, (int_ok this.2.2.1 this.2.2.2).mono (by decide) (by decide)⟩
/-- shown -/
theorem kv_show {ps : List (PyData × PyData)} {h n : Nat} (k : ∀ p ∈ ps, Ok p.1 h n ∧ Ok p.2 h n) : PyData.showableKv ps = true ∧ PyData.depthKv ps ≤ h ∧ (PyData.shownKv ps).length = ps.length ∧ ∀ t ∈ PyData.shownKv ps, t.length ≤ 2 * n + 2 := by
  induction ps with
  | nil => exact ⟨rfl, Nat.zero_le _, rfl, fun _ h => nomatch h⟩
  | cons p ps ih =>
    obtain ⟨h1, h2, h3, h4⟩ := ih fun q hq => k q (List.mem_cons_of_mem _ hq)
    obtain ⟨o1, o2⟩ := k p (List.mem_cons_self ..)
    obtain ⟨a, b⟩ := p
    refine ⟨by show (a.showable && b.showable && PyData.showableKv ps) = true; rw [o1.shw, o2.shw, h1]; rfl, ?_, by show (_ :: PyData.shownKv ps).length = _; rw [List.length_cons, h3, List.length_cons], fun t ht => ?_⟩
    · show max (max a.depth b.depth) (PyData.depthKv ps) ≤ h
      have := o1.dep
      have := o2.dep
      simp only at *
      omega
    · have ht : t ∈ (a.shown ++ ": " ++ b.shown) :: PyData.shownKv ps := ht
      rcases List.mem_cons.mp ht with rfl | ht
      · rw [str_len_append, str_len_append]
        have := o1.txt
        have := o2.txt
        have e : (Str.ofString ": ").length = 2 := by decide
        simp only at *
        omega
      · exact h4 t ht
theorem dict_show {ps : List (PyData × PyData)} {h n m : Nat} (k : ∀ p ∈ ps, Ok p.1 h n ∧ Ok p.2 h n) (hm : ps.length ≤ m) : (PyData.dict ps).showable = true ∧ (PyData.dict ps).depth ≤ h + 1 ∧ (PyData.dict ps).shown.length ≤ m * (2 * n + 4) + 2 := by
  obtain ⟨h1, h2, h3, h4⟩ := kv_show k
  refine ⟨h1, Nat.succ_le_succ h2, ?_⟩
  show (("{" : Str) ++ Str.join ", " (PyData.shownKv ps) ++ "}").length ≤ _
  rw [str_len_append, str_len_append]
  have b := piled_le h4
  rw [h3] at b
  have c : (Str.ofString "{").length = 1 := by decide
  have d : (Str.ofString "}").length = 1 := by decide
  have e : ps.length * (2 * n + 2 + 2) ≤ m * (2 * n + 4) := Nat.mul_le_mul_right _ hm
  by_cases hz : PyData.shownKv ps = []
  · rw [hz]
    have f : (Str.join (Str.ofString ", ") []).length = 0 := by decide
    omega
  · have := join_length_add (PyData.shownKv ps) hz
    omega
def kvPy (kvs : Kvs) : PyData := .dict (kvs.map fun p => (dkPy p.1, p.2.py))
theorem nm_okT {n : List Str} (h : n.length ≤ 10 ∧ ∀ x ∈ n, PyData.strOk x = true ∧ x.length ≤ 20) : Ok (dkPy (nmK n)) 2 3000 := by
  have e : dkPy (nmK n) = .tuple (n.map PyData.str) := by
    show PyData.tuple ((n.map Sum.inr).map keyPy) = _
    rw [List.map_map]
    rfl
  rw [e]
  refine (Ok.tuple (h := 0) (n := 202) (m := 10) (fun d hd => ?_) (by rw [List.length_map]; exact h.1)).mono (by decide) (by decide)
  obtain ⟨x, hx, rfl⟩ := List.mem_map.mp hd
  exact Ok.str (h.2 x hx).1 (h.2 x hx).2
theorem VOk.show {ns : List (List Str)} {kvs : Kvs} (h : VOk ns kvs) {μ : Mu} {j : Nat} (hj : μ[j]? = some (.dct true none kvs)) : Rw μ (.cell j) (kvPy kvs) ∧ (kvPy kvs).showable = true ∧ (kvPy kvs).depth ≤ 64 ∧ (kvPy kvs).shown.length ≤ sizeLine := by
  refine ⟨.dct (vw_dct hj) (by rw [List.map_map]; rfl) rfl rfl ?_, ?_⟩
  · rw [List.map_map]
    exact rws_map _ _ fun p hp => rw_fl μ (h.vl p hp).1
  · obtain ⟨h1, h2, h3⟩ := dict_show (ps := kvs.map fun p => (dkPy p.1, p.2.py)) (h := 2) (n := 3000) (m := 40) (fun q hq => by
      obtain ⟨p, hp, rfl⟩ := List.mem_map.mp hq
      obtain ⟨n, hn, e⟩ := h.mem hp
      refine ⟨?_, (h.vl p hp).2⟩
      show Ok (dkPy p.1) 2 3000
      rw [e]
      exact nm_okT (h.nm n hn)) (by rw [List.length_map, h.lens]; exact h.ln)
    exact ⟨h1, Nat.le_trans h2 (by decide), by rw [sizeLine_eq]; exact Nat.le_trans h3 (by decide)⟩
section
local macro_rules | `(tactic| walk_at "ev") => `(tactic| first
  | refine e_var 0 rfl ?_ | refine e_var 1 rfl ?_ | refine e_var 2 rfl ?_ | refine e_var 3 rfl ?_ | refine e_var 4 rfl ?_ | refine e_var 5 rfl ?_ | refine e_var 6 rfl ?_ | refine e_var 7 rfl ?_ | refine e_var 8 rfl ?_ | refine e_var 9 rfl ?_
  | refine e_var 10 rfl ?_ | refine e_var 11 rfl ?_ | refine e_var 12 rfl ?_ | refine e_var 13 rfl ?_ | refine e_var 14 rfl ?_ | refine e_var 15 rfl ?_ | refine e_var 16 rfl ?_ | refine e_var 17 rfl ?_ | refine e_var 18 rfl ?_ | refine e_var 19 rfl ?_ | refine e_var 20 rfl ?_)
local macro_rules | `(tactic| walk_at "ec") => `(tactic| first
  | refine k_len ?_ | refine k_int ?_ | refine k_tuple ?_ | refine k_list ?_ | refine k_repr ?_ | refine k_sorted ?_ | refine k_dict ?_ | refine k_all ?_ | refine k_min ?_ | refine k_abs ?_ | refine k_isinstance ?_)
local macro_rules | `(tactic| walk_at "ee") => `(tactic| first
  | ((with_reducible show Me.E _ (Expr.Name _ _) _ _ _); walk_at "ev")
  | ((with_reducible show Me.E _ (Expr.Constant _ _ _) _ _ _); first | refine e_int ?_ | refine e_str ?_ | refine e_bl ?_ | refine e_non ?_)
  | ((with_reducible show Me.E _ (Expr.BinOp _ _ _ _) _ _ _); refine e_bin ?_)
  | ((with_reducible show Me.E _ (Expr.Compare _ _ _ _) _ _ _); refine e_cmp ?_)
  | ((with_reducible show Me.E _ (Expr.Subscript _ (Expr.Slice _ _ _ _) _) _ _ _); refine e_sl ?_)
  | ((with_reducible show Me.E _ (Expr.Subscript _ _ _) _ _ _); refine e_ix ?_)
  | ((with_reducible show Me.E _ (Expr.Tuple _ _ _) _ _ _); refine e_tup ?_)
  | ((with_reducible show Me.E _ (Expr.UnaryOp UnaryOp.Not _ _) _ _ _); refine e_not ?_)
  | ((with_reducible show Me.E _ (Expr.UnaryOp _ _ _) _ _ _); refine e_un ?_)
  | ((with_reducible show Me.E _ (Expr.IfExp _ _ _ _) _ _ _); refine e_ite ?_)
  | ((with_reducible show Me.E _ (Expr.BoolOp _ _ _) _ _ _); first | refine e_one ?_ | refine e_and ?_ | refine e_or ?_)
  | ((with_reducible show Me.E _ (Expr.Call (Expr.Name _ _) _ _ _) _ _ _); walk_at "ec"))
local macro_rules | `(tactic| walk_at "bb") => `(tactic| first
  | refine b_nil ?_ | refine b_ret ?_ | refine b_setIx ?_ | refine b_expr ?_
  | refine b_set 0 ?_ | refine b_set 1 ?_ | refine b_set 2 ?_ | refine b_set 3 ?_ | refine b_set 4 ?_ | refine b_set 5 ?_ | refine b_set 6 ?_ | refine b_set 7 ?_ | refine b_set 8 ?_ | refine b_set 9 ?_ | refine b_set 10 ?_ | refine b_set 11 ?_ | refine b_set 12 ?_ | refine b_set 13 ?_ | refine b_set 14 ?_ | refine b_set 15 ?_ | refine b_set 16 ?_ | refine b_set 17 ?_ | refine b_set 18 ?_)
local macro_rules | `(tactic| walk_at "oo") => `(tactic| first
  | ((with_reducible show Op2 _ (binaryOp _) _ _ _ _ _); first
    | (with_reducible refine o_add ?_) | (with_reducible refine o_sub ?_)
    | ((with_reducible show Op2 _ (binaryOp Operator.Mod) (D.int _) (D.int _) _ _ _); refine o_mod (by first | decide | assumption | omega) ?_)
    | ((with_reducible show Op2 _ (binaryOp Operator.FloorDiv) (D.int _) (D.int _) _ _ _); refine o_fdiv (by first | decide | assumption | omega) ?_)
    | ((with_reducible show Op2 _ (binaryOp Operator.Mult) (D.int _) (D.int _) _ _ _); first | refine o_mul (Or.inr ⟨by decide, by decide⟩) ?_ | refine o_mul (Or.inl ⟨by decide, by decide⟩) ?_))
  | ((with_reducible show Op2 _ (compareOp _) _ _ _ _ _); first
    | (with_reducible refine o_lt ?_) | (with_reducible refine o_le ?_) | (with_reducible refine o_gt ?_) | (with_reducible refine o_ge ?_) | (with_reducible refine o_eqI ?_) | (with_reducible refine o_neI ?_) | (with_reducible refine o_eqS ?_) | (with_reducible refine o_neS ?_) | (with_reducible refine o_isN ?_) | (with_reducible refine o_isntN ?_))
  | (with_reducible refine o_neg ?_)
  | ((with_reducible show Cl _ (Value.type "int") _ _ _ _); refine c_int ?_)
  | ((with_reducible show Cl _ (Value.builtin "len") _ _ _ _); first | (with_reducible refine c_lenN ?_) | (with_reducible refine c_lenT ?_) | refine c_lenL rfl ?_)
  | ((with_reducible show Ix2 _ (D.tup _) _ _ _ _); refine x_tup rfl ?_)
  | ((with_reducible show Ix2 _ _ _ _ _ _); refine x_lst rfl rfl ?_))
local macro_rules | `(tactic| walk_at "me") => `(tactic| first
  | ((with_reducible show Me.E _ _ _ _ _); walk_at "ee")
  | ((with_reducible show Me.A _ _ _ _ _); first | refine a_cons ?_ | refine a_nil ?_)
  | ((with_reducible show Me.Thn _ _ _ (Out.next _ _)); refine thn_n ?_)
  | ((with_reducible show Me.B _ _ _ _ _); walk_at "bb")
  | ((with_reducible show Me.T _ _ _ _ _); first | refine t_cmp ?_ | refine t_bop ?_ | refine t_not ?_)
  | ((with_reducible show Me.W _ _ _ _ _); first | refine w_and1 ?_ | refine w_or1 ?_ | refine w_and ?_ | refine w_or ?_)
  | ((with_reducible show Me.OI _ _ _ _ _); first | refine o_none ?_ | refine o_some ?_)
  | walk_at "oo"
  | (with_reducible refine asT_i ?_)
  | (with_reducible refine ⟨_, rfl, ?_⟩))
local macro_rules | `(tactic| walk_at "go") => `(tactic| repeat (walk_at "me"))
variable {w : World} {P : Program} {base : Heap} {mg : Str → Option Value} {K : PySem.W.Frag} {Γ : Gam}
theorem ok_lnamesZ (hK : Γ.K = K) {f : Addr} {fd : FuncData} {k j1 j2 j3 : Nat} (F : Fun K "_law_names" "_law_names" sLNames f fd) (hb : Bi mg) (FT : Fn P w K mg base Γ j1 "_law_take" CTake) (h1 : j1 ≤ k) (FW : Fn P w K mg base Γ j2 "_law_word" (CBag AWord RWord)) (h2 : j2 ≤ k)
    (FP : Fn P w K mg base Γ j3 "_law_pick" CPickV) (h3 : j3 ≤ k) : Gd.FnG P w K mg base (L2.CX P w) (k + 1) f fd pLNames (spM Γ (CBag ANamesZ RNamesZ)) := by
  refine okM hK hb F scLNames (by rintro _ _ _ _ ⟨b, m, r, rfl, _, _, ⟨ls, many, rfl, _⟩, _⟩; rfl) ?_
  rintro cdv A outer s H E hg rm _ _ Q Z ⟨b, m, _, rfl, rfl, gb, ⟨ls, many, rfl, hl, hm1, hm40⟩, q⟩
  have hw : AWord [.lst (ls.map D.str), .int 1, .int 4] := ⟨ls, 1, 4, rfl, hl.1, by have := hl.2.1; omega, by decide, by decide, by decide⟩
  refine b_set 4 (e_lstC (a_nil ⟨Nat.zero_le _, ?_⟩))
  refine b_for rfl (g_name 5) (i_range1 hb.range ?_)
  walk_at "go"
  refine ⟨by omega, fun c env' μ' => ∃ s' ns x5 x6, Good s' ∧ μ' = bagC s' :: (m ++ [.lst (nmsD ns)]) ∧ Ns ns 4 c ∧ ns.Nodup ∧ (0 < c → ns ≠ []) ∧ env' = [some (.cell 0), some (.lst (ls.map D.str)), some (.int ((many : Nat) : Int)), some (.int 4), some (.cell (m.length + 1)), x5, x6], ?_⟩
  refine ⟨⟨b, [], none, none, gb, rfl, ⟨(fun n hn => nomatch hn), Nat.le_refl _⟩, List.nodup_nil, (fun z => absurd z (Nat.lt_irrefl 0)), rfl⟩, fun _ _ _ _ => trivial, ?_, ?_⟩
  · rintro c d _ _ hd ⟨s', ns, x5, x6, gs, rfl, hN, hnd, hne0, rfl⟩
    have hc5 : c < many := by have := (List.getElem?_eq_some_iff.mp hd).1; rw [rangeD_len] at this; omega
    have hnl := hN.len
    refine ⟨_, rfl, b_set 6 (e_call FW ?_)⟩
    walk_at "go"
    refine cbag gs hw ?_
    rintro d2 s2 hd2 g2
    obtain ⟨n, rfl, hn1, hn2, hn3⟩ := word_of hd2
    have hB : ∀ s', (bagC s' :: (m ++ [Cell.lst (nmsD ns)]))[m.length + 1]? = some (.lst (nmsD ns)) := fun _ => by simp
    refine b_ifJ (fun env' μ' => ∃ s3 n', Good s3 ∧ μ' = bagC s3 :: (m ++ [.lst (nmsD ns)]) ∧ N8 n' 4 ∧ n' ≠ [] ∧ env' = [some (.cell 0), some (.lst (ls.map D.str)), some (.int ((many : Nat) : Int)), some (.int 4), some (.cell (m.length + 1)), some d, some (nameD n')]) (t_bop (w_and (t_cmp (e_var 4 rfl ?_)))) ?_
    · refine e_lst (a_nil ⟨Nat.zero_le _, ?_⟩)
      have n8 : N8 n 4 := word_n8 hl hn3 (by omega)
      have n0 : n ≠ [] := fun z => by rw [z] at hn1; simp at hn1
      refine o_neNilV (vw_lst (hB s2)) hN (asT_i ⟨fun hne => ?_, fun _ => ⟨(fun z => nomatch z), fun _ => b_nil ⟨s2, n, g2, rfl, n8, n0, rfl⟩⟩⟩)
      have hne : ns ≠ [] := fun z => by rw [z] at hne; exact nomatch hne
      refine w_and1 (t_cmp (e_call FT ?_))
      walk_at "go"
      refine ctake g2 (by decide) ?_
      walk_at "go"
      have g3 := takeS_good (n := 2) g2 (by decide)
      generalize takeS s2 2 = s3 at g3 ⊢
      refine ⟨fun _ => ?_, fun _ => b_nil ⟨s3, n, g3, rfl, n8, n0, rfl⟩⟩
      refine b_set 6 (e_sl (e_bin (e_var 6 rfl ?_)))
      refine e_call FP ?_
      walk_at "go"
      refine ⟨s3, m ++ [.lst (nmsD ns)], _, nmsD ns, rfl, rfl, g3, fun s' => vw_lst (hB s'), fun z => hne (by unfold nmsD at z; exact List.map_eq_nil_iff.mp z), by rw [nms_len]; omega, fun x s5 hx g5 => ?_⟩
      unfold nmsD at hx
      obtain ⟨n3, hn3m, rfl⟩ := List.mem_map.mp hx
      obtain ⟨o1, o2⟩ := hN.ok n3 hn3m
      have l3 := o1.len
      refine o_addT (by rw [List.length_map, List.length_map, sizeLine_eq]; omega) ?_
      walk_at "go"
      refine s_tup ?_
      rw [show (0 - 4 : Int) = -((4 : Nat) : Int) from rfl, cutD_neg _ 4 (by decide), ← List.map_append, List.length_map, ← List.map_drop]
      refine b_nil ⟨s5, (n ++ n3).drop ((n ++ n3).length - 4), g5, rfl, ⟨fun x hx => ?_, by rw [List.length_drop]; omega⟩, fun z => ?_, rfl⟩
      · rcases List.mem_append.mp (List.mem_of_mem_drop hx) with y | y
        · exact hl.2.2 x (hn3 x y)
        · exact o1.lab x y
      · have := congrArg List.length z
        rw [List.length_drop, List.length_append] at this
        have : 0 < n3.length := List.length_pos_iff.mpr o2
        simp only [List.length_nil] at *
        omega
    · rintro _ _ ⟨s3, n', g3, rfl, n8, n0, rfl⟩
      refine b_if (t_cmp ?_)
      walk_at "go"
      refine o_notInN (vw_lst (hB s3)) hN n8.nm (asT_i ⟨fun h => ?_, fun h => b_nil (thn_n (b_nil ⟨s3, ns, _, _, g3, rfl, ⟨hN.ok, Nat.le_succ_of_le hN.len⟩, hnd, fun _ z => ?_, rfl⟩))⟩)
      rotate_left 1
      · have h : n' ∈ ns := by simpa using h
        rw [z] at h
        exact nomatch h
      have hni : n' ∉ ns := by simpa using h
      refine b_expr (e_append ?_)
      walk_at "go"
      refine ⟨⟨_, vw_lst (hB s3)⟩, ?_⟩
      walk_at "go"
      refine ⟨_, hB s3, by rw [nms_len, sizeLine_eq]; omega, b_nil (thn_n (b_nil ?_))⟩
      refine ⟨s3, ns ++ [n'], _, _, g3, by rw [← nms_snoc]; simp, hN.snoc n8 n0, nd_snoc hnd hni, fun _ z => by simp at z, rfl⟩
  · rintro _ _ ⟨s', ns, x5, x6, gs, rfl, hN, hnd, hne0, rfl⟩
    have hN : Ns ns 4 many := ⟨hN.ok, by have := hN.len; rw [rangeD_len] at this; omega⟩
    have hne := hne0 (by rw [rangeD_len]; omega)
    have hB : (bagC s' :: (m ++ [Cell.lst (nmsD ns)]))[m.length + 1]? = some (.lst (nmsD ns)) := by simp
    refine b_ret (e_var 4 rfl (rt_frz hB (by show m.length + 1 ≤ m.length + 1; omega) ?_))
    rw [show (bagC s' :: (m ++ [Cell.lst (nmsD ns)])).set (m.length + 1) .dead = (bagC s' :: m) ++ [.dead] by simp]
    exact rt_drop (q _ _ ⟨ls, many, ns, rfl, rfl, hN, hnd, hne⟩ gs) (fun i hi => by rw [show D.refs (.lst (nmsD ns)) = [] from refs_nms ns] at hi; exact nomatch hi) (Nat.le_refl _) low_bag
end
end Lm

set_option maxHeartbeats 8000000
namespace Lm
open PySem PySem.Spec PyProof.Rows L2 Me
def valN (kvs : Kvs) (n : List Str) : D := (valD kvs (nmK n)).getD .non
theorem VOk.eq {ns : List (List Str)} {kvs : Kvs} (h : VOk ns kvs) : kvs = ns.map fun n => (nmK n, valN kvs n) := by
  have hl := h.lens
  have nd := h.kv.nd
  refine List.ext_getElem? fun i => ?_
  rw [List.getElem?_map]
  by_cases hi : i < kvs.length
  · have e1 : (kvs.map (·.1))[i]? = (ns.map nmK)[i]? := by rw [h.ks]
    rw [List.getElem?_map, List.getElem?_map, List.getElem?_eq_getElem hi, List.getElem?_eq_getElem (by omega)] at e1
    have e1 : kvs[i].1 = nmK ns[i] := Option.some.inj e1
    rw [List.getElem?_eq_getElem hi, List.getElem?_eq_getElem (by omega)]
    show some kvs[i] = some (nmK ns[i], valN kvs ns[i])
    congr 1
    refine Prod.ext e1 ?_
    show kvs[i].2 = valN kvs ns[i]
    unfold valN
    rw [← e1, valD_nd nd (List.getElem_mem hi)]
    rfl
  · rw [List.getElem?_eq_none (by omega), List.getElem?_eq_none (by omega)]
    rfl
theorem VOk.perm {ns cs : List (List Str)} {kvs : Kvs} (h : VOk ns kvs) (p : cs.Perm ns) : VOk cs (cs.map fun n => (nmK n, valN kvs n)) ∧ (cs.map fun n => (nmK n, valN kvs n)).Perm kvs := by
  have pk : (cs.map fun n => (nmK n, valN kvs n)).Perm kvs := by
    conv => rhs; rw [h.eq]
    exact p.map _
  exact ⟨⟨by rw [List.map_map]; rfl, p.nodup_iff.mpr h.nd, fun n hn => h.nm n (p.mem_iff.mp hn), fun q hq => h.vl q (pk.mem_iff.mp hq), by rw [p.length_eq]; exact h.ln⟩, pk⟩
theorem okZ_perm {a b : Kvs} (p : a.Perm b) : okZ a = okZ b := by
  unfold okZ okKV
  rw [p.length_eq]
  congr 1
  rw [Bool.eq_iff_iff, List.all_eq_true, List.all_eq_true]
  exact forall_congr' fun x => by rw [p.mem_iff]
theorem getZ_perm {ps qs : Zp} (nd : (keysZ ps).Nodup) (p : (zk ps).Perm (zk qs)) (nq : (keysZ qs).Nodup) (n : List Str) (hn : n ∈ keysZ ps) : getZ ps n = getZ qs n := by
  obtain ⟨x, hx, rfl⟩ := List.mem_map.mp hn
  have h1 : (nmK x.1, D.int x.2) ∈ zk qs := p.mem_iff.mp (List.mem_map.mpr ⟨x, hx, rfl⟩)
  obtain ⟨y, hy, e⟩ := List.mem_map.mp h1
  have e1 : y.1 = x.1 := nmK_inj.mp (Prod.ext_iff.mp e).1
  have e2 : y.2 = x.2 := D.int.inj (Prod.ext_iff.mp e).2
  rw [getZ_mem nd hx, ← e1, getZ_mem nq hy, e2]
theorem made_perm {ps qs : Zp} (nd : (keysZ ps).Nodup) (nq : (keysZ qs).Nodup) (p : (zk ps).Perm (zk qs)) : madeD ps = madeD qs := by
  have pk : (keysZ ps).Perm (keysZ qs) := by
    have := p.map (·.1)
    unfold zk at this
    rw [List.map_map, List.map_map] at this
    have h2 : ((keysZ ps).map nmK).Perm ((keysZ qs).map nmK) := by unfold keysZ; rw [List.map_map, List.map_map]; exact this
    refine (List.perm_ext_iff_of_nodup nd nq).mpr fun a => ?_
    have inj : ∀ (l : List (List Str)), nmK a ∈ l.map nmK ↔ a ∈ l := fun l => ⟨fun h => by
      obtain ⟨b, hb, e⟩ := List.mem_map.mp h
      rw [← nmK_inj.mp e]; exact hb, fun h => List.mem_map_of_mem h⟩
    rw [← inj, ← inj, h2.mem_iff]
  show D.tup [.str "made", .lst _] = D.tup [.str "made", .lst _]
  rw [asc_eq pk]
  have hm : ((asc (keysZ qs)).map fun n => zpD (n, (getZ ps n).getD 0)) = (asc (keysZ qs)).map fun n => zpD (n, (getZ qs n).getD 0) := by
    refine List.map_congr_left fun n hn => ?_
    have hn : n ∈ keysZ ps := pk.mem_iff.mpr (mem_asc.mp hn)
    rw [getZ_perm nd p nq n hn]
  rw [hm]
theorem made_ok {ps : Zp} (hz : Zn ps 10 30) : (madeD ps).fl = true ∧ Ok (madeD ps).py 4 300000 := by
  have al : (asc (keysZ ps)).length ≤ 30 := by rw [len_asc]; unfold keysZ; rw [List.length_map]; exact hz.len
  have fl : ∀ l : List (List Str), D.fls (l.map fun n => zpD (n, (getZ ps n).getD 0)) = true := fun l => by
    induction l with
    | nil => rfl
    | cons n l ih =>
      show ((zpD (n, (getZ ps n).getD 0)).fl && D.fls (l.map fun n => zpD (n, (getZ ps n).getD 0))) = true
      rw [ih, Bool.and_true]
      have fn : ∀ m : List Str, D.fls (m.map D.str) = true := fun m => by
        induction m with
        | nil => rfl
        | cons x m ih => show (true && D.fls (m.map D.str)) = true; rw [ih]; rfl
      show (D.fls (n.map D.str) && (true && true)) = true
      rw [fn]
      rfl
  refine ⟨?_, ?_⟩
  · show (true && (D.fls ((asc (keysZ ps)).map fun n => zpD (n, (getZ ps n).getD 0)) && true)) = true
    rw [fl]
    rfl
  · have hp : ∀ n ∈ asc (keysZ ps), Ok (zpD (n, (getZ ps n).getD 0)).py 2 4000 := fun n hn => by
      have hn := mem_asc.mp hn
      obtain ⟨p, hp, rfl⟩ := List.mem_map.mp hn
      have := hz.ok p hp
      rw [getZ_mem hz.nd hp]
      refine (Ok.tuple (h := 1) (n := 1900) (m := 2) (fun d hd => ?_) (Nat.le_refl _)).mono (Nat.le_refl _) (by decide)
      have hd : d ∈ [namePy p.1, PyData.int p.2] := by
        have hd : d ∈ [(nameD p.1).py, PyData.int p.2] := hd
        rw [py_name] at hd
        exact hd
      simp only [List.mem_cons, List.not_mem_nil, or_false] at hd
      rcases hd with rfl | rfl
      · exact (this.1.nm.okD).mono (Nat.le_refl _) (by decide)
      · exact (int_ok this.2.2.1 this.2.2.2).mono (by decide) (by decide)
    refine (Ok.tuple (h := 3) (n := 130000) (m := 2) (fun d hd => ?_) (Nat.le_refl _)).mono (Nat.le_refl _) (by decide)
    have hd : d ∈ [PyData.str "made", PyData.list (D.pys ((asc (keysZ ps)).map fun n => zpD (n, (getZ ps n).getD 0)))] := hd
    simp only [List.mem_cons, List.not_mem_nil, or_false] at hd
    rcases hd with rfl | rfl
    · exact (Ok.str (n := 4) (by decide +kernel) (by decide +kernel)).mono (by decide) (by decide)
    · refine (Ok.list (h := 2) (n := 4000) (m := 30) (fun d hd => ?_) (by rw [pys_map, List.length_map, List.length_map]; exact al)).mono (Nat.le_refl _) (by decide)
      rw [pys_map, List.map_map] at hd
      obtain ⟨n, hn, rfl⟩ := List.mem_map.mp hd
      exact hp n hn
theorem wrong_ok : wrongD.fl = true ∧ Ok wrongD.py 1 100 := by
  refine ⟨rfl, by decide +kernel, by decide +kernel, by decide +kernel, by decide +kernel⟩
def oddN (l : Str) : List (List Str) := [[], [""], ["A"], ["abcdefghi"], ["a", "b-"], ["a1"], ["a b"], [l, l, l, l, l, l, l, l]]
def oddV : List D := [.int 1000, .int (-1), .non, .bl true, .bl false, .str "1", .tup [.int 1], .int (10 ^ 39)]
theorem oddN_ok {l : Str} (hl : L8 l) : ∀ n ∈ oddN l, n.length ≤ 10 ∧ ∀ x ∈ n, PyData.strOk x = true ∧ x.length ≤ 20 := by
  have h1 : ∀ n ∈ (oddN l).take 7, n.length ≤ 10 ∧ ∀ x ∈ n, PyData.strOk x = true ∧ x.length ≤ 20 := by
    show ∀ n ∈ ([[], [""], ["A"], ["abcdefghi"], ["a", "b-"], ["a1"], ["a b"]] : List (List Str)), n.length ≤ 10 ∧ ∀ x ∈ n, PyData.strOk x = true ∧ x.length ≤ 20
    decide +kernel
  intro n hn
  have hn : n ∈ (oddN l).take 7 ++ [[l, l, l, l, l, l, l, l]] := hn
  rcases List.mem_append.mp hn with z | z
  · exact h1 n z
  · rw [List.mem_singleton.mp z]
    refine ⟨by show 8 ≤ 10; decide, fun x hx => ?_⟩
    have : x = l := by simpa using hx
    subst this
    exact ⟨hl.1.ok, by have := hl.2; omega⟩
theorem oddV_ok : ∀ v ∈ oddV, v.fl = true ∧ Ok v.py 2 3000 := by
  have h : ∀ v ∈ oddV, v.fl = true ∧ (v.py.canLay0 = true ∧ v.py.showable = true ∧ v.py.depth ≤ 2 ∧ v.py.shown.length ≤ 3000) := by
    intro v hv
    unfold oddV at hv
    simp only [List.mem_cons, List.not_mem_nil, or_false] at hv
    rcases hv with rfl | rfl | rfl | rfl | rfl | rfl | rfl | rfl <;> decide +kernel
  exact fun v hv => ⟨(h v hv).1, (h v hv).2.1, (h v hv).2.2.1, (h v hv).2.2.2.1, (h v hv).2.2.2.2⟩
/-- how the names may be sorted -/
def Srt1 (ns : List (List Str)) : Prop := (∀ n ∈ ns, n ≠ []) ∨ ∃ n l, ns = n :: l ∧ n ≠ [] ∧ [] ∈ ns
theorem srt_nmsAny {S : Sc} {env : En} {μ : Mu} {P : KD} {ns : List (List Str)} {kvs : Kvs} {d : D} (hv : vw μ d = .dct true kvs) (h : VOk ns kvs) (hs : Srt1 ns) (hc : S.X.calm = true) (k : Nl P (nmsD (asc ns)) μ) : Cl S (.builtin "sorted") [d] env μ P := by
  have e : (kvs.map fun p => dkD p.1) = nmsD ns := by
    have : (kvs.map fun p => dkD p.1) = (kvs.map (·.1)).map dkD := by rw [List.map_map]; rfl
    rw [this, h.ks, List.map_map]
    unfold nmsD
    exact List.map_congr_left fun n _ => dk_nm n
  have al : PySem.W.AllAlike ((nmsD ns).map D.py) := by
    intro d hd d' hd'
    unfold nmsD at hd hd'
    rw [List.map_map] at hd hd'
    obtain ⟨n, _, rfl⟩ := List.mem_map.mp hd
    obtain ⟨n', _, rfl⟩ := List.mem_map.mp hd'
    show PySem.W.alike (nameD n).py (nameD n').py = true
    rw [py_name, py_name]
    exact alike_strs n n'
  have sz : (nmsD ns).length ≤ sizeLine := by unfold nmsD; rw [List.length_map, sizeLine_eq]; have := h.ln; omega
  have dp : ∀ d ∈ nmsD ns, d.py.depth ≤ 60 := fun d hd => by
    obtain ⟨n, hn, rfl⟩ := List.mem_map.mp hd
    rw [py_name]
    show PyData.depthAll (n.map .str) + 1 ≤ 60
    rw [depth_strs]
    decide
  rcases hs with hs | ⟨n, l, e1, n0, hm⟩
  · refine c_sortedDT hv hc ?_ (by rw [e, srt_nms]; exact k)
    rw [e]
    refine ⟨isPys_nms ns, hasDict_nms ns, al, .inl fun d hd => ?_, sz, dp⟩
    unfold nmsD at hd
    rw [List.map_map] at hd
    obtain ⟨n, hn, rfl⟩ := List.mem_map.mp hd
    show ∃ x r, (nameD n).py = _
    rw [py_name]
    cases n with
    | nil => exact absurd rfl (hs _ hn)
    | cons x r => exact ⟨.str x, r.map .str, rfl⟩
  · refine c_sortedDTE hv hc ?_ (by rw [e, srt_nms]; exact k)
    rw [e]
    refine ⟨isPys_nms ns, hasDict_nms ns, al, ⟨fun d hd => ?_, ?_, ?_⟩, sz, dp⟩
    · unfold nmsD at hd
      rw [List.map_map] at hd
      obtain ⟨n, hn, rfl⟩ := List.mem_map.mp hd
      exact ⟨n.map .str, by show (nameD n).py = _; rw [py_name]⟩
    · subst e1
      cases n with
      | nil => exact absurd rfl n0
      | cons x r => exact ⟨.str x, r.map .str, (l.map fun n => (nameD n).py), by unfold nmsD; rw [List.map_map, List.map_cons]; show (nameD (x :: r)).py :: _ = _; rw [py_name]; rfl⟩
    · unfold nmsD
      rw [List.map_map]
      exact List.mem_map.mpr ⟨[], hm, rfl⟩
theorem srt1_put {ns : List (List Str)} (h0 : ns ≠ []) (h : ∀ n ∈ ns, n ≠ []) (n : List Str) : Srt1 (if n ∈ ns then ns else ns ++ [n]) := by
  split
  · exact .inl h
  · by_cases hn : n = []
    · subst hn
      cases ns with
      | nil => exact absurd rfl h0
      | cons m l => exact .inr ⟨m, l ++ [[]], rfl, h m (List.mem_cons_self ..), by simp⟩
    · exact .inl fun m hm => by
        rcases List.mem_append.mp hm with z | z
        · exact h m z
        · rw [List.mem_singleton.mp z]; exact hn
end Lm

set_option maxHeartbeats 8000000
namespace Lm
open PySem PySem.Spec PyProof.Rows L2 Me
def AMix : List D → Prop := fun r => ∃ ns : List (List Str), r = [.lst (nmsD ns)] ∧ ns.length ≤ 100
def RMix : List D → D → Prop := fun r d => ∃ ns ns' : List (List Str), r = [.lst (nmsD ns)] ∧ d = .lst (nmsD ns') ∧ ns'.Perm ns
def pairV (kvs : Kvs) : D → D := fun d => .tup [d, ((asDK true d).bind (valD kvs)).getD .non]
theorem pairV_name (kvs : Kvs) (n : List Str) : pairV kvs (nameD n) = .tup [nameD n, valN kvs n] := by
  unfold pairV
  rw [asDK_name]
  rfl
theorem alike_fl {μ : Mu} {P : KD} {Z : KX} {d : D} {h n : Nat} (fl : d.fl = true) (ok : Ok d.py h n) (hh : h ≤ 64) (hn : n ≤ sizeLine) (k : P (.bl true) μ) : CAlike [d, d] μ P Z := ⟨d, d, d, h, n, rfl, Dv.self d fl, Dv.self d fl, ok, hh, hn, k⟩
theorem set_last17 {m : Mu} {x y : Cell} : (m ++ [x]).set m.length y = m ++ [y] := by simp
theorem nms_inj17 {a b : List (List Str)} (h : nmsD a = nmsD b) : a = b :=
  (List.map_inj_right (f := nameD) fun x y e => (List.map_inj_right (f := D.str) fun p q e => D.str.inj e).mp (D.tup.inj e)).mp h
theorem ins_nms (ns : List (List Str)) (n : List Str) (i : Nat) : (nmsD ns).take i ++ [nameD n] ++ (nmsD ns).drop i = nmsD (ns.take i ++ [n] ++ ns.drop i) := by
  unfold nmsD
  rw [List.map_append, List.map_append, List.map_take, List.map_drop]
  rfl
theorem ins_perm (ns : List (List Str)) (n : List Str) (i : Nat) : (ns.take i ++ [n] ++ ns.drop i).Perm (n :: ns) := by
  have h : (ns.take i ++ n :: ns.drop i).Perm (n :: (ns.take i ++ ns.drop i)) := List.perm_middle
  rw [List.take_append_drop] at h
  simpa using h
theorem bag_at {s s' : Bag} {X : Mu} {j : Nat} {c : Cell} (h : (bagC s :: X)[j]? = some c) (hc : ∀ ds, c ≠ .lst ds) : (bagC s' :: X)[j]? = some c := by
  cases j with
  | zero => exact absurd (Option.some.inj h).symm (hc _)
  | succ j => exact h
theorem kv1 {t : Bool} {k : DK} {v : D} (h1 : asDK t (dkD k) = some k) (h2 : keyB k = true) (h3 : v.fl = true) (h4 : ∀ x, k = .t x → x.length ≤ 10) : KvOk t [(k, v)] := by
  refine ⟨fun p hp => ?_, by simp, by show 1 ≤ 1000; decide, fun p hp => ?_, fun p hp => ?_, fun p hp => ?_⟩ <;> obtain rfl := List.mem_singleton.mp hp <;> assumption
theorem kv0 : KvOk true [] := ⟨(fun _ h => nomatch h), List.nodup_nil, Nat.zero_le _, (fun _ h => nomatch h), (fun _ h => nomatch h), (fun _ h => nomatch h)⟩
theorem odds {w : World} {s : Bag} {X : Mu} {j1 j2 j3 j4 j5 j6 j7 : Nat} {fs : List (Str × D)} {dps : List D} (hf : D.fls dps = true)
    (c1 : (bagC s :: X)[j1]? = some (.dct false none [(.k (.inr "a"), .int 1)])) (c2 : (bagC s :: X)[j2]? = some (.gd w [(.none, 1)])) (c3 : (bagC s :: X)[j3]? = some (.dct false none [(.k (.inl 1), .int 1)]))
    (c4 : (bagC s :: X)[j4]? = some (.dct true none [(.t [.inr "a", .inl 1], .int 1)])) (c5 : (bagC s :: X)[j5]? = some (.dct true none [(.t [.inr "a"], .lst [.int 1])])) (c6 : (bagC s :: X)[j6]? = some (.ins "Zone" fs))
    (c7 : (bagC s :: X)[j7]? = some (.dct true none [(.t [.inr "a"], .lst dps)])) (s' : Bag) :
    ∀ d ∈ [D.non, .lst [], .tup [], .str "", .int 5, .lst [.tup [.str "a"]], .cell j1, .cell j2, .cell j3, .cell j4, .cell j5, .lst (List.replicate (Int.toNat 9000) [D.non]).flatten, .lst dps, .cell j6, .cell j7], ZArg w (bagC s' :: X) d false := by
  intro d hd
  simp only [List.mem_cons, List.not_mem_nil, or_false] at hd
  have fl : ∀ {d : D}, d.fl = true → (tyS d ≠ "dict") → ZArg w (bagC s' :: X) d false := fun {d} h h2 => .kn (fl_kn h _) (by rw [fl_vw h]; exact h2)
  rcases hd with rfl | rfl | rfl | rfl | rfl | rfl | rfl | rfl | rfl | rfl | rfl | rfl | rfl | rfl | rfl
  · exact fl rfl (by decide)
  · exact fl rfl (by decide)
  · exact fl rfl (by decide)
  · exact fl rfl (by decide)
  · exact fl rfl (by decide)
  · exact fl rfl (by decide)
  · exact .dct j1 false _ rfl (bag_at c1 fun _ z => nomatch z) (kv1 rfl (by decide +kernel) rfl fun x e => nomatch e) (.inr (by decide +kernel))
  · exact .gd j2 1 _ rfl rfl (bag_at c2 fun _ z => nomatch z)
  · exact .dct j3 false _ rfl (bag_at c3 fun _ z => nomatch z) (kv1 rfl (by decide +kernel) rfl fun x e => nomatch e) (.inr (by decide +kernel))
  · exact .dct j4 true _ rfl (bag_at c4 fun _ z => nomatch z) (kv1 rfl (by decide +kernel) rfl fun x e => by obtain rfl := DK.t.inj e; decide) (.inl rfl)
  · exact .dct j5 true _ rfl (bag_at c5 fun _ z => nomatch z) (kv1 rfl (by decide +kernel) rfl fun x e => by obtain rfl := DK.t.inj e; decide) (.inl rfl)
  · exact fl rfl (by decide)
  · exact fl hf (fun z => by simp [tyS] at z)
  · exact .ins fs (vw_ins (bag_at c6 fun _ z => nomatch z))
  · exact .dct j7 true [(.t [.inr "a"], .lst dps)] rfl (bag_at c7 fun _ z => nomatch z) (kv1 rfl (by decide +kernel) hf fun x e => by obtain rfl := DK.t.inj e; decide) (.inl rfl)
section
variable {S : Sc} {env : En} {P : KD} {pos : Pos}
abbrev Grow (b0 : Cell) (X X1 : Mu) : Prop := ∀ (i : Nat) (y : Cell), (b0 :: X)[i]? = some y → (b0 :: X1)[i]? = some y
theorem grow1 (b0 : Cell) (X : Mu) (x : Cell) : Grow b0 X (X ++ [x]) := fun i y h => at_app (ext := [x]) h
theorem e_dK17 {a b : Expr} {b0 : Cell} {X : Mu} (h : E S a env (b0 :: X ++ [.dct false none []]) fun d1 μ1 => E S b env μ1 fun d2 μ2 => ∃ k, asKey d1 = some k ∧ μ2 = b0 :: X ++ [.dct false none []] ∧ ∀ X1 j, (b0 :: X1)[j]? = some (.dct false none [(.k k, d2)]) → Grow b0 X X1 → P (.cell j) (b0 :: X1)) : E S (.Dict [some a] [b] pos) env (b0 :: X) P := by
  refine e_disp1K (h.imp fun d1 μ1 h => h.imp fun d2 μ2 ⟨k, h1, h2, h3⟩ => ⟨k, h1, ?_, ?_⟩)
  · rw [h2]; exact List.getElem?_concat_length
  · rw [h2, set_last17]
    exact h3 (X ++ [_]) _ List.getElem?_concat_length (grow1 _ _ _)
theorem e_dT17 {a b : Expr} {b0 : Cell} {X : Mu} (h : E S a env (b0 :: X ++ [.dct true none []]) fun d1 μ1 => E S b env μ1 fun d2 μ2 => ∃ k, asDK true d1 = some (.t k) ∧ μ2 = b0 :: X ++ [.dct true none []] ∧ ∀ X1 j, (b0 :: X1)[j]? = some (.dct true none [(.t k, d2)]) → Grow b0 X X1 → P (.cell j) (b0 :: X1)) : E S (.Dict [some a] [b] pos) env (b0 :: X) P := by
  refine e_disp1T (h.imp fun d1 μ1 h => h.imp fun d2 μ2 ⟨k, h1, h2, h3⟩ => ⟨k, h1, ?_, ?_⟩)
  · rw [h2]; exact List.getElem?_concat_length
  · rw [h2, set_last17]
    exact h3 (X ++ [_]) _ List.getElem?_concat_length (grow1 _ _ _)
theorem e_dG17 {a b : Expr} {b0 : Cell} {X : Mu} (h : E S a env (b0 :: X ++ [.gd S.X.w []]) fun d1 μ1 => E S b env μ1 fun d2 μ2 => ∃ k i, nk d1 = some k ∧ hdK k = true ∧ k.depth ≤ 8 ∧ d2 = .int i ∧ μ2 = b0 :: X ++ [.gd S.X.w []] ∧ ∀ X1 j, (b0 :: X1)[j]? = some (.gd S.X.w [(k, i)]) → Grow b0 X X1 → P (.cell j) (b0 :: X1)) : E S (.Dict [some a] [b] pos) env (b0 :: X) P := by
  refine e_disp1G (h.imp fun d1 μ1 h => h.imp fun d2 μ2 ⟨k, i, h1, h2, h3, h4, h5, h6⟩ => ⟨k, i, h1, h2, h3, h4, ?_, ?_⟩)
  · rw [h5]; exact List.getElem?_concat_length
  · rw [h5, set_last17]
    exact h6 (X ++ [_]) _ List.getElem?_concat_length (grow1 _ _ _)
end
section
local macro_rules | `(tactic| walk_at "ev") => `(tactic| first
  | refine e_var 0 rfl ?_ | refine e_var 1 rfl ?_ | refine e_var 2 rfl ?_ | refine e_var 3 rfl ?_ | refine e_var 4 rfl ?_ | refine e_var 5 rfl ?_ | refine e_var 6 rfl ?_ | refine e_var 7 rfl ?_ | refine e_var 8 rfl ?_ | refine e_var 9 rfl ?_
  | refine e_var 10 rfl ?_ | refine e_var 11 rfl ?_ | refine e_var 12 rfl ?_ | refine e_var 13 rfl ?_ | refine e_var 14 rfl ?_ | refine e_var 15 rfl ?_ | refine e_var 16 rfl ?_ | refine e_var 17 rfl ?_ | refine e_var 18 rfl ?_ | refine e_var 19 rfl ?_ | refine e_var 20 rfl ?_)
local macro_rules | `(tactic| walk_at "ec") => `(tactic| first
  | refine k_len ?_ | refine k_int ?_ | refine k_tuple ?_ | refine k_list ?_ | refine k_repr ?_ | refine k_sorted ?_ | refine k_dict ?_ | refine k_all ?_ | refine k_min ?_ | refine k_abs ?_ | refine k_isinstance ?_)
local macro_rules | `(tactic| walk_at "ee") => `(tactic| first
  | ((with_reducible show Me.E _ (Expr.Name _ _) _ _ _); walk_at "ev")
  | ((with_reducible show Me.E _ (Expr.Constant _ _ _) _ _ _); first | refine e_int ?_ | refine e_str ?_ | refine e_bl ?_ | refine e_non ?_)
  | ((with_reducible show Me.E _ (Expr.BinOp _ _ _ _) _ _ _); refine e_bin ?_)
  | ((with_reducible show Me.E _ (Expr.Compare _ _ _ _) _ _ _); refine e_cmp ?_)
  | ((with_reducible show Me.E _ (Expr.Subscript _ (Expr.Slice _ _ _ _) _) _ _ _); refine e_sl ?_)
  | ((with_reducible show Me.E _ (Expr.Subscript _ _ _) _ _ _); refine e_ix ?_)
  | ((with_reducible show Me.E _ (Expr.Tuple _ _ _) _ _ _); refine e_tup ?_)
  | ((with_reducible show Me.E _ (Expr.UnaryOp UnaryOp.Not _ _) _ _ _); refine e_not ?_)
  | ((with_reducible show Me.E _ (Expr.UnaryOp _ _ _) _ _ _); refine e_un ?_)
  | ((with_reducible show Me.E _ (Expr.IfExp _ _ _ _) _ _ _); refine e_ite ?_)
  | ((with_reducible show Me.E _ (Expr.BoolOp _ _ _) _ _ _); first | refine e_one ?_ | refine e_and ?_ | refine e_or ?_)
  | ((with_reducible show Me.E _ (Expr.Call (Expr.Name _ _) _ _ _) _ _ _); walk_at "ec"))
local macro_rules | `(tactic| walk_at "bb") => `(tactic| first
  | refine b_nil ?_ | refine b_ret ?_ | refine b_setIx ?_ | refine b_expr ?_
  | refine b_set 0 ?_ | refine b_set 1 ?_ | refine b_set 2 ?_ | refine b_set 3 ?_ | refine b_set 4 ?_ | refine b_set 5 ?_ | refine b_set 6 ?_ | refine b_set 7 ?_ | refine b_set 8 ?_ | refine b_set 9 ?_ | refine b_set 10 ?_ | refine b_set 11 ?_ | refine b_set 12 ?_ | refine b_set 13 ?_ | refine b_set 14 ?_ | refine b_set 15 ?_ | refine b_set 16 ?_ | refine b_set 17 ?_ | refine b_set 18 ?_)
local macro_rules | `(tactic| walk_at "oo") => `(tactic| first
  | ((with_reducible show Op2 _ (binaryOp _) _ _ _ _ _); first
    | (with_reducible refine o_add ?_) | (with_reducible refine o_sub ?_)
    | ((with_reducible show Op2 _ (binaryOp Operator.Mod) (D.int _) (D.int _) _ _ _); refine o_mod (by first | decide | assumption | omega) ?_)
    | ((with_reducible show Op2 _ (binaryOp Operator.FloorDiv) (D.int _) (D.int _) _ _ _); refine o_fdiv (by first | decide | assumption | omega) ?_)
    | ((with_reducible show Op2 _ (binaryOp Operator.Mult) (D.int _) (D.int _) _ _ _); first | refine o_mul (Or.inr ⟨by decide, by decide⟩) ?_ | refine o_mul (Or.inl ⟨by decide, by decide⟩) ?_))
  | ((with_reducible show Op2 _ (compareOp _) _ _ _ _ _); first
    | (with_reducible refine o_lt ?_) | (with_reducible refine o_le ?_) | (with_reducible refine o_gt ?_) | (with_reducible refine o_ge ?_) | (with_reducible refine o_eqI ?_) | (with_reducible refine o_neI ?_) | (with_reducible refine o_eqS ?_) | (with_reducible refine o_neS ?_) | (with_reducible refine o_isN ?_) | (with_reducible refine o_isntN ?_))
  | (with_reducible refine o_neg ?_)
  | ((with_reducible show Cl _ (Value.type "int") _ _ _ _); refine c_int ?_)
  | ((with_reducible show Cl _ (Value.builtin "len") _ _ _ _); first | (with_reducible refine c_lenN ?_) | (with_reducible refine c_lenT ?_) | refine c_lenL rfl ?_)
  | ((with_reducible show Ix2 _ (D.tup _) _ _ _ _); refine x_tup rfl ?_)
  | ((with_reducible show Ix2 _ _ _ _ _ _); refine x_lst rfl rfl ?_))
local macro_rules | `(tactic| walk_at "me") => `(tactic| first
  | ((with_reducible show Me.E _ _ _ _ _); walk_at "ee")
  | ((with_reducible show Me.A _ _ _ _ _); first | refine a_cons ?_ | refine a_nil ?_)
  | ((with_reducible show Me.Thn _ _ _ (Out.next _ _)); refine thn_n ?_)
  | ((with_reducible show Me.B _ _ _ _ _); walk_at "bb")
  | ((with_reducible show Me.T _ _ _ _ _); first | refine t_cmp ?_ | refine t_bop ?_ | refine t_not ?_)
  | ((with_reducible show Me.W _ _ _ _ _); first | refine w_and1 ?_ | refine w_or1 ?_ | refine w_and ?_ | refine w_or ?_)
  | ((with_reducible show Me.OI _ _ _ _ _); first | refine o_none ?_ | refine o_some ?_)
  | walk_at "oo"
  | (with_reducible refine asT_i ?_)
  | (with_reducible refine ⟨_, rfl, ?_⟩))
local macro_rules | `(tactic| walk_at "go") => `(tactic| repeat (walk_at "me"))
variable {w : World} {P : Program} {base : Heap} {mg : Str → Option Value} {K : PySem.W.Frag} {Γ : Gam}
theorem ok_lmix (hK : Γ.K = K) {f : Addr} {fd : FuncData} {k j1 : Nat} (F : Fun K "_law_mix" "_law_mix" sLMix f fd) (hb : Bi mg) (FT : Fn P w K mg base Γ j1 "_law_take" CTake) (h1 : j1 ≤ k) : Gd.FnG P w K mg base (L2.CX P w) (k + 1) f fd pLMix (spM Γ (CBag AMix RMix)) := by
  refine okM hK hb F scLMix (by rintro _ _ _ _ ⟨b, m, r, rfl, _, _, ⟨ns, rfl, _⟩, _⟩; rfl) ?_
  rintro cdv A outer s H E hg rm _ _ Q Z ⟨b, m, _, rfl, rfl, gb, ⟨ns, rfl, hl⟩, q⟩
  refine b_set 2 (e_lstC (a_nil ⟨Nat.zero_le _, ?_⟩))
  refine b_for rfl (g_name 3) (i_lst ?_)
  walk_at "go"
  refine ⟨fun c env' μ' => ∃ s' rs x3, Good s' ∧ μ' = bagC s' :: (m ++ [.lst (nmsD rs)]) ∧ rs.Perm (ns.take c) ∧ env' = [some (.cell 0), some (.lst (nmsD ns)), some (.cell (m.length + 1)), x3], ?_⟩
  refine ⟨⟨b, [], none, gb, rfl, by rw [List.take_zero], rfl⟩, fun _ _ _ _ => rfl, ?_, ?_⟩
  · rintro c d _ _ hd ⟨s', rs, x3, gs, rfl, hp, rfl⟩
    obtain ⟨n, rfl, hn, hnc⟩ := nms_at hd
    have hB : ∀ s', (bagC s' :: (m ++ [Cell.lst (nmsD rs)]))[m.length + 1]? = some (.lst (nmsD rs)) := fun _ => by simp
    have rl : rs.length ≤ 100 := by rw [hp.length_eq, List.length_take]; omega
    refine ⟨_, rfl, b_expr (e_bm PySem.F.plainAttrs_list PySem.F.slot_list_insert PySem.F.type_list_insert ?_)⟩
    refine e_var 2 rfl ⟨ty_lst (vw_lst (hB s')), ?_⟩
    refine a_cons (e_call FT ?_)
    walk_at "go"
    refine c_lenL (vw_lst (hB s')) ?_
    walk_at "go"
    rw [nms_len]
    refine ctake gs (by omega) ?_
    have t0 := takeV_nonneg (s := s') (n := (rs.length : Int) + 1) (by omega)
    have t1 := takeV_lt (s := s') (n := (rs.length : Int) + 1) (by omega)
    have g4 := takeS_good (n := (rs.length : Int) + 1) gs (by omega)
    generalize takeV s' ((rs.length : Int) + 1) = iv at t0 t1 ⊢
    generalize takeS s' ((rs.length : Int) + 1) = s4 at g4 ⊢
    walk_at "go"
    refine m_insert (hB s4) (by rw [nms_len, sizeLine_eq]; omega) ⟨t0, by omega⟩ (b_nil ?_)
    refine ⟨s4, rs.take iv.toNat ++ [n] ++ rs.drop iv.toNat, _, g4, by rw [ins_nms]; simp, ?_, rfl⟩
    rw [List.take_succ, hnc]
    exact (ins_perm rs n iv.toNat).trans ((List.Perm.cons n hp).trans (by simpa using (List.perm_append_comm (l₁ := [n]) (l₂ := ns.take c))))
  · rintro _ _ ⟨s', rs, x3, gs, rfl, hp, rfl⟩
    rw [nms_len, List.take_length] at hp
    have hB : (bagC s' :: (m ++ [Cell.lst (nmsD rs)]))[m.length + 1]? = some (.lst (nmsD rs)) := by simp
    refine b_ret (e_var 2 rfl (rt_frz hB (by show m.length + 1 ≤ m.length + 1; omega) ?_))
    rw [show (bagC s' :: (m ++ [Cell.lst (nmsD rs)])).set (m.length + 1) .dead = (bagC s' :: m) ++ [.dead] by simp]
    exact rt_drop (q _ _ ⟨ns, rs, rfl, rfl, hp⟩ gs) (fun i hi => by rw [show D.refs (.lst (nmsD rs)) = [] from refs_nms rs] at hi; exact nomatch hi) (Nat.le_refl _) low_bag
theorem ok_law (hK : Γ.K = K) {f fB : Addr} {fd fdB : FuncData} {k kB jt jl jn jv jm jd jr ja jz jp : Nat} (F : Fun K "law" "law" sLaw f fd) (hb : Bi mg) (GB : FnOk P w K mg base CX0 kB fB fdB ["_law_script"] (spBag K)) (hkb : kB ≤ k) (hmB : mg "_law_bag" = some (.ref fB)) (hkB : PySem.W.keepIn K (.ref fB) = true) (hbB : Binds K fdB ["_law_script"] [])
    (FT : Fn P w K mg base Γ jt "_law_take" CTake) (ht : jt ≤ k) (FL : Fn P w K mg base Γ jl "_law_labels" (CBag ALabels RLabels)) (hl : jl ≤ k) (FN : Fn P w K mg base Γ jn "_law_names" (CBag ANamesZ RNamesZ)) (hn : jn ≤ k) (FV : Fn P w K mg base Γ jv "_law_values" CLValues) (hv : jv ≤ k) (FP : Fn P w K mg base Γ jp "_law_pick" CPickV) (hp : jp ≤ k)
    (FM : Fn P w K mg base Γ jm "_law_mix" (CBag AMix RMix)) (hm : jm ≤ k) (FD : Fn P w K mg base Γ jd "_law_due" CDueZ) (hd : jd ≤ k) (FR : Fn P w K mg base Γ jr "_law_tried" (CTried w)) (hr : jr ≤ k) (FA : Fn P w K mg base Γ ja "_law_alike" CAlike) (ha : ja ≤ k) (MZ : Mak P w K mg base Γ jz "Zone" "Zone" (CZInitG w)) (hz : jz + 1 ≤ k) :
    Gd.FnG P w K mg base (L2.CX P w) (k + 1) f fd pLaw (spLaw K) := by
  obtain ⟨oc, od, kV, doc, pm, an, cdv, ct', osl, rfl, lk, hcd⟩ := F.ex
  refine Gd.fn_ofG lk hcd scLaw (fun vs H Q E h => by obtain ⟨a, ns, rfl, _⟩ := h; rfl) fun A outer s H vs Q E gA hr0 hsp => ?_
  refine law_first (S := bodyS P w K mg base Γ hK nLaw "law" sLaw f cdv A outer s H E (fun _ _ _ => False) gA scLaw.nd hb k ⟨hr0.dp, hr0.un⟩) 13 hsp (fun _ _ _ z => z) GB (hr0.mono hkb) hmB hkB hbB fun b gb => ?_
  have sz : ∀ {n : Nat}, n ≤ 10000 → n ≤ sizeLine := fun h => by rw [sizeLine_eq]; omega
  have t0 := takeV_nonneg (s := b) (n := 4) (by decide)
  have t1 := takeV_lt (s := b) (n := 4) (by decide)
  refine b_set 2 (e_call FL (a_cons (e_var 1 rfl (a_cons (e_bin (e_int (e_call FT (a_cons (e_var 1 rfl (a_cons (e_int (a_nil (ctake gb (by decide) (o_add (a_nil ?_)))))))))))))))
  obtain ⟨nl, hnl⟩ : ∃ n : Nat, 3 + takeV b 4 = (n : Int) := ⟨(3 + takeV b 4).toNat, by omega⟩
  rw [hnl]
  refine cbag (takeS_good gb (by decide)) ⟨nl, rfl, by omega⟩ ?_
  rintro dl s1 ⟨n', ls, e1, rfl, hll, hl8⟩ g1
  obtain rfl : nl = n' := by have := (List.cons.inj e1).1; have := D.int.inj this; omega
  have hne : ls ≠ [] := fun e => by have := congrArg List.length e; rw [List.length_nil] at this; omega
  have hL : Labs8 ls := ⟨hne, by omega, hl8⟩
  obtain ⟨l0, lt, rfl⟩ : ∃ l0 lt, ls = l0 :: lt := by cases ls with
    | nil => exact absurd rfl hne
    | cons a l => exact ⟨a, l, rfl⟩
  have hl0 : L8 l0 := hl8 l0 (List.mem_cons_self ..)
  refine b_for rfl (g_name 3) (i_range1 hb.range (e_int ⟨_, rfl, by decide, ?_⟩))
  refine ⟨fun _ env' μ' => ∃ s' ext x3 x4 x5 x6 x7 x8 x10 x11, Good s' ∧ μ' = bagC s' :: ext ∧ env' = [none, some (.cell 0), some (.lst ((l0 :: lt).map D.str)), x3, x4, x5, x6, x7, x8, none, x10, x11, none, none, none], ?_⟩
  refine ⟨⟨s1, [], none, none, none, none, none, none, none, none, g1, rfl, rfl⟩, fun _ _ _ _ => trivial, ?_, ?_⟩
  · rintro c d _ _ hd0 ⟨b0, ext, x3, x4, x5, x6, x7, x8, x10, x11, g0, rfl, rfl⟩
    -- the names
    refine ⟨_, rfl, b_set 4 (e_sl (e_call FN (a_cons (e_var 1 rfl (a_cons (e_var 2 rfl (a_cons (e_ix (e_lst (a_cons (e_int (a_cons (e_int (a_nil ⟨sz (by show 2 ≤ 10000; decide), e_call FT (a_cons (e_var 1 rfl (a_cons (e_int (a_nil (ctake g0 (by decide) ?_))))))⟩))))))))))))))⟩
    have u0 := takeV_nonneg (s := b0) (n := 2) (by decide)
    have u1 := takeV_lt (s := b0) (n := 2) (by decide)
    have g2 := takeS_good (n := 2) g0 (by decide)
    generalize takeV b0 2 = iv at u0 u1 ⊢
    generalize takeS b0 2 = b2 at g2 ⊢
    obtain ⟨many, hmy, hm1, hm40⟩ : ∃ many : Nat, L2.atI [D.int 3, D.int 40] iv = some (.int (many : Int)) ∧ 1 ≤ many ∧ many ≤ 40 := by
      rcases (show iv = 0 ∨ iv = 1 by omega) with rfl | rfl
      · exact ⟨3, rfl, by decide, by decide⟩
      · exact ⟨40, rfl, by decide, by decide⟩
    refine x_lst rfl hmy (a_cons (e_int (a_nil (cbag g2 ⟨_, many, rfl, hL, hm1, hm40⟩ ?_))))
    rintro _ b3 ⟨ls', many', ns0, e2, rfl, hN0, nd0, ne0⟩ g3
    obtain rfl : many = many' := by
      have := (List.cons.inj (List.cons.inj e2).2).1
      have := D.int.inj this
      omega
    refine o_none (o_some (e_ix (e_lst (a_cons (e_int (a_cons (e_int (a_cons (e_int (a_cons (e_int (a_nil ⟨sz (by show 4 ≤ 10000; decide), e_call FT (a_cons (e_var 1 rfl (a_cons (e_int (a_nil (ctake g3 (by decide) ?_))))))⟩))))))))))))
    have v0 := takeV_nonneg (s := b3) (n := 4) (by decide)
    have v1 := takeV_lt (s := b3) (n := 4) (by decide)
    have g4 := takeS_good (n := 4) g3 (by decide)
    generalize takeV b3 4 = jv at v0 v1 ⊢
    generalize takeS b3 4 = b4 at g4 ⊢
    obtain ⟨cut, hcut, hc1, hc2⟩ : ∃ cut : Int, L2.atI [D.int 32, D.int 31, D.int 30, D.int 3] jv = some (.int cut) ∧ 3 ≤ cut ∧ cut ≤ 32 := by
      rcases (show jv = 0 ∨ jv = 1 ∨ jv = 2 ∨ jv = 3 by omega) with rfl | rfl | rfl | rfl
      · exact ⟨32, rfl, by decide, by decide⟩
      · exact ⟨31, rfl, by decide, by decide⟩
      · exact ⟨30, rfl, by decide, by decide⟩
      · exact ⟨3, rfl, by decide, by decide⟩
    refine x_lst rfl hcut ⟨_, rfl, s_lst rfl (.l ?_)⟩
    rw [cutD_to (by omega), show (nmsD ns0).take cut.toNat = nmsD (ns0.take cut.toNat) by unfold nmsD; rw [List.map_take]]
    have hN : ∀ n ∈ ns0.take cut.toNat, N8 n 4 ∧ n ≠ [] := fun n hn => hN0.ok n (List.mem_of_mem_take hn)
    have hNl : (ns0.take cut.toNat).length ≤ 32 := by rw [List.length_take]; have := hN0.len; omega
    have ndN := nd0.sublist (List.take_sublist cut.toNat ns0)
    have neN : ns0.take cut.toNat ≠ [] := fun z => by
      have := congrArg List.length z
      rw [List.length_take, List.length_nil] at this
      have : 0 < ns0.length := List.length_pos_iff.mpr ne0
      omega
    generalize ns0.take cut.toNat = ns at hN hNl ndN neN ⊢
    -- the values
    refine b_asg (g_tup2 5 6 rfl) (e_tup (a_cons (e_call FV (a_cons (e_var 1 rfl (a_cons (e_var 4 rfl (a_nil ⟨b4, ext, _, ns, rfl, rfl, g4, fun _ => rfl, by omega, ndN, fun b5 ps g5 hks hvs => ?_⟩))))))))
    refine a_cons (e_call FT (a_cons (e_var 1 rfl (a_cons (e_int (a_nil (ctake g5 (by decide) (a_nil ⟨sz (by show 2 ≤ 10000; decide), _, ⟨_, _, rfl, rfl⟩, ?_⟩))))))))
    have w0 := takeV_nonneg (s := b5) (n := 3) (by decide)
    have w1 := takeV_lt (s := b5) (n := 3) (by decide)
    have g6 := takeS_good (n := 3) g5 (by decide)
    generalize takeV b5 3 = way at w0 w1 ⊢
    generalize takeS b5 3 = b6 at g6 ⊢
    have zn : Zn ps 4 40 := ⟨fun p hp => by
      have hm : p.1 ∈ ns := by rw [← hks]; exact List.mem_map_of_mem hp
      exact ⟨(hN _ hm).1, (hN _ hm).2, hvs p hp⟩, by rw [hks]; exact ndN, by
      have : (keysZ ps).length = ps.length := List.length_map ..
      rw [hks] at this
      omega⟩
    have hV0 : VOk ns (zk ps) := by have := VOk.zk zn (Nat.le_refl _); rwa [hks] at this
    have hS0 : ∀ n ∈ ns, n ≠ [] := fun n hn => (hN n hn).2
    have hj0 : ∀ s' kvs, (bagC s' :: (ext ++ [Cell.dct true none kvs]))[ext.length + 1]? = some (.dct true none kvs) := fun _ _ => by simp
    have hst : ∀ s' kvs kvs', (bagC s' :: (ext ++ [Cell.dct true none kvs])).set (ext.length + 1) (.dct true none kvs') = bagC s' :: (ext ++ [.dct true none kvs']) := fun _ _ _ => by
      show bagC _ :: List.set _ ext.length _ = _
      rw [List.set_append_right _ _ (Nat.le_refl _), Nat.sub_self]
      rfl
    let I : En → Mu → Prop := fun env' μ' => ∃ (s' : Bag) (ns' : List (List Str)) (kvs : Kvs) (x7 : Option D), Good s' ∧ μ' = bagC s' :: (ext ++ [.dct true none kvs]) ∧ VOk ns' kvs ∧ Srt1 ns' ∧ (way = 1 → ns' = ns) ∧ env' = [none, some (.cell 0), some (.lst ((l0 :: lt).map D.str)), some d, some (.lst (nmsD ns)), some (.cell (ext.length + 1)), some (.int way), x7, x8, none, x10, x11, none, none, none]
    refine b_ifJ I (t_cmp (e_var 6 rfl (e_int (o_eqI (asT_i ⟨fun z0 => ?_, fun _ => b_nil ⟨b6, ns, zk ps, x7, g6, rfl, hV0, .inl hS0, fun _ => rfl, rfl⟩⟩))))) ?_
    · refine b_set 7 (e_lst ?_)
      repeat (first | walk_at "me" | refine e_lst ?_ | refine ⟨sz (Nat.le_of_ble_eq_true rfl), ?_⟩)
      refine x_lst rfl (show L2.atI ((l0 :: lt).map D.str) 0 = some (D.str l0) from L2.atI_nat (j := 0) rfl) ?_
      repeat (first | walk_at "me" | refine e_lst ?_ | refine ⟨sz (Nat.le_of_ble_eq_true rfl), ?_⟩)
      refine o_mulTA (ds := [.str l0]) (i := 8) (by simp) ⟨by decide, by decide⟩ (by show 1 ≤ 1000; decide) ?_
      repeat (first | walk_at "me" | refine e_lst ?_ | refine ⟨sz (Nat.le_of_ble_eq_true rfl), ?_⟩)
      refine e_call FP (a_cons (e_var 1 rfl (a_cons (e_var 7 rfl (a_nil ⟨b6, _, _, nmsD (oddN l0), rfl, rfl, g6, (fun _ => rfl), by simp [nmsD, oddN], by show 8 < _; decide, fun x s7 hx g7 => ?_⟩)))))
      obtain ⟨n, hn, rfl⟩ := List.mem_map.mp hx
      refine t_setD (hj0 _ _) (asDK_name n) (by rw [hV0.lens]; exact Nat.lt_of_le_of_lt hNl (by rw [sizeLine_eq]; decide)) ?_
      rw [hst]
      exact b_nil ⟨s7, _, _, _, g7, rfl, hV0.put (oddN_ok hl0 n hn) ⟨rfl, (int_ok (v := 5) (by decide) (by decide)).mono (by decide) (by decide)⟩ (by omega), srt1_put neN hS0 n, (fun z1 => by have := of_decide_eq_true z0; omega), rfl⟩
    rintro _ _ ⟨b7, ns', kvs, x7, g7, rfl, hV, hS, hw, rfl⟩
    let J2 : En → Mu → Prop := fun env' μ' => ∃ (s' : Bag) (ns' : List (List Str)) (kvs : Kvs) (x7 : Option D), Good s' ∧ μ' = bagC s' :: (ext ++ [.dct true none kvs]) ∧ VOk ns' kvs ∧ Srt1 ns' ∧ env' = [none, some (.cell 0), some (.lst ((l0 :: lt).map D.str)), some d, some (.lst (nmsD ns)), some (.cell (ext.length + 1)), some (.int way), x7, x8, none, x10, x11, none, none, none]
    refine b_ifJ J2 (t_cmp (e_var 6 rfl (e_int (o_eqI (asT_i ⟨fun z1 => ?_, fun _ => b_nil ⟨b7, ns', kvs, x7, g7, rfl, hV, hS, rfl⟩⟩))))) ?_
    · obtain rfl := hw (of_decide_eq_true z1)
      refine b_set 7 (e_lst ?_)
      repeat (first | walk_at "me" | refine e_lst ?_ | refine ⟨sz (Nat.le_of_ble_eq_true rfl), ?_⟩)
      refine o_pow (by decide) (a_nil ⟨sz (Nat.le_of_ble_eq_true rfl), ?_⟩)
      refine b_setIx (e_call FP (a_cons (e_var 1 rfl (a_cons (e_var 7 rfl (a_nil ⟨b7, _, _, oddV, rfl, rfl, g7, (fun _ => rfl), by simp [oddV], by show 8 < _; decide, fun v s8 hv g8 => ?_⟩))))))
      refine e_var 5 rfl (e_call FP (a_cons (e_var 1 rfl (a_cons (e_bin (e_var 4 rfl (e_lst (a_cons (e_tup (a_cons (e_str (a_nil ⟨sz (Nat.le_of_ble_eq_true rfl), a_nil ⟨sz (Nat.le_of_ble_eq_true rfl), o_addL (ds := nmsD ns') (es := [D.tup [D.str "a"]]) rfl rfl (by rw [nms_len]; show _ + 1 ≤ _; exact sz (by omega)) (.l (a_nil ⟨s8, ext ++ [Cell.dct true none kvs], D.lst (nmsD ns' ++ [D.tup [D.str "a"]]), nmsD (ns' ++ [([("a" : Str)] : List Str)]), rfl, rfl, g8, (fun _ => by unfold nmsD; rw [List.map_append]; rfl), by simp [nmsD], ?_, fun x s9 hx g9 => ?_⟩))⟩⟩))))))))))))
      · rw [nms_len, List.length_append]
        show ns'.length + 1 < _
        exact Nat.lt_of_le_of_lt (Nat.succ_le_succ hNl) (by decide)
      obtain ⟨n, hn, rfl⟩ := List.mem_map.mp hx
      refine t_setD (hj0 _ _) (asDK_name n) (by rw [hV.lens]; exact Nat.lt_of_le_of_lt hNl (by rw [sizeLine_eq]; decide)) ?_
      rw [hst]
      have hnok : n.length ≤ 10 ∧ ∀ x ∈ n, PyData.strOk x = true ∧ x.length ≤ 20 := by
        rcases List.mem_append.mp hn with z | z
        · exact hV.nm n z
        · rw [List.mem_singleton.mp z]
          decide +kernel
      exact b_nil ⟨s9, _, _, _, g9, rfl, hV.put hnok (oddV_ok v hv) (by omega), srt1_put neN hS0 n, rfl⟩
    rintro _ _ ⟨b8, ns2, kvs2, x72, g8, rfl, hV2, hS2, rfl⟩
    have hV2l : ns2.length ≤ 40 := hV2.ln
    have hjk : ∀ s' x, (bagC s' :: (ext ++ Cell.dct true none kvs2 :: x))[ext.length + 1]? = some (.dct true none kvs2) := fun _ _ => by simp
    refine b_set 8 (k_dict (a_cons (e_lc 9 rfl (blkOk_by (N := nLaw) (sc := defScope sLaw) (by decide +kernel)) (i_lst (e_call FM (a_cons (e_var 1 rfl (a_cons (k_sorted (a_cons (e_var 5 rfl (a_nil (srt_nmsAny (vw_dct (hj0 _ _)) hV2 hS2 rfl (.l (a_nil (cbag g8 ⟨asc ns2, rfl, by rw [len_asc]; omega⟩ ?_))))))))))))))))
    rintro _ b9 ⟨_, cs, e9, rfl, hpm⟩ g9
    have e9 : asc ns2 = _ := nms_inj17 (D.lst.inj (List.cons.inj e9).1)
    subst e9
    have hcs : cs.Perm ns2 := hpm.trans (asc_prm ns2)
    obtain ⟨hVp, hpk⟩ := hV2.perm hcs
    have hcl : cs.length ≤ 40 := hVp.ln
    refine ⟨nmsD cs, rfl, ?_⟩
    have hval : ∀ n ∈ ns2, valD kvs2 (nmK n) = some (valN kvs2 n) := fun n hn => by
      have hmem : (nmK n, valN kvs2 n) ∈ kvs2 := by
        have e := hV2.eq
        have hm : (nmK n, valN kvs2 n) ∈ ns2.map fun n => (nmK n, valN kvs2 n) := List.mem_map.mpr ⟨n, hn, rfl⟩
        rwa [← e] at hm
      exact valD_nd hV2.kv.nd hmem
    refine Comp.map (pairV kvs2) (by rw [nms_len]; exact sz (by omega)) rfl ?_ ?_
    · intro i d2 hd2
      obtain ⟨n, rfl, hn, hnc⟩ := nms_at hd2
      refine ⟨_, rfl, fun s H C cl fp => e_tup (a_cons (e_var 9 rfl (a_cons (e_ix (e_var 5 rfl (e_var 9 rfl (x_dct (vw_dct (hj0 _ _)) (asDK_name n) (hval n (hcs.mem_iff.mp hn)) (a_nil ⟨sz (Nat.le_of_ble_eq_true rfl), ?_⟩)))))))) ⟩
      exact ⟨(pairV_name kvs2 n).symm, rfl⟩
    refine a_nil (c_dictP true (ps := cs.map fun n => (nmK n, valN kvs2 n)) rfl ?_ rfl ?_)
    · unfold nmsD
      rw [List.map_map, List.map_map, List.map_map]
      refine List.map_congr_left fun n _ => ?_
      show asPair true (pairV kvs2 (nameD n)) = _
      rw [pairV_name]
      show ((asDK true (nameD n)).map fun k => (k, valN kvs2 n)) = _
      rw [asDK_name]
      rfl
    rw [putsD_nd _ _ hVp.kv.nd, List.nil_append]
    generalize hkp : (cs.map fun n => (nmK n, valN kvs2 n)) = kvp at hVp hpk ⊢
    have hA : (bagC b9 :: (ext ++ [Cell.dct true none kvs2]) ++ [Cell.dct true none kvp])[ext.length + 1]? = some (.dct true none kvs2) := by simp
    have hB : (bagC b9 :: (ext ++ [Cell.dct true none kvs2]) ++ [Cell.dct true none kvp])[(bagC b9 :: (ext ++ [Cell.dct true none kvs2])).length]? = some (.dct true none kvp) := List.getElem?_concat_length
    have hMe : bagC b9 :: (ext ++ [Cell.dct true none kvs2]) ++ [Cell.dct true none kvp] = bagC b9 :: (ext ++ [Cell.dct true none kvs2] ++ [Cell.dct true none kvp]) := rfl
    generalize (bagC b9 :: (ext ++ [Cell.dct true none kvs2])).length = jp at hB ⊢
    obtain ⟨hr1, hr2, hr3, hr4⟩ := hVp.show hB
    refine b_set 10 (k_repr (a_cons (e_var 8 rfl (a_nil (c_reprW hr1 hr2 hr3 hr4 ?_)))))
    refine b_for rfl (g_name 11) (i_range1 hb.range (e_int ⟨2, rfl, by decide, ?_⟩))
    refine ⟨fun _ env' μ' => μ' = bagC b9 :: (ext ++ [Cell.dct true none kvs2]) ++ [Cell.dct true none kvp] ∧ ∃ x11, env' = [none, some (.cell 0), some (.lst ((l0 :: lt).map D.str)), some d, some (.lst (nmsD ns)), some (.cell (ext.length + 1)), some (.int way), x72, some (.cell jp), none, some (.str (kvPy kvp).shown), x11, none, none, none], ?_⟩
    refine ⟨⟨rfl, x11, rfl⟩, fun _ _ _ _ => trivial, ?_, ?_⟩
    · rintro c2 d2 _ _ hd2 ⟨rfl, y11, rfl⟩
      refine ⟨_, rfl, b_if (t_bop (w_or (t_not (t_val (e_call FA (a_cons (e_call FR (a_cons (e_var 8 rfl (a_nil ⟨_, okZ kvp, rfl, .dct jp true kvp rfl hB hVp.kv (.inl rfl), fun z => ?_, fun z j ps e hj zn => ?_⟩)))))))))) ⟩
      · have z' : okZ kvs2 = false := by rw [← okZ_perm hpk]; exact z
        exact a_cons (e_call FD (a_cons (e_var 5 rfl (a_nil ⟨ext.length + 1, kvs2, rfl, hA, hV2.kv, hV2.kt, (fun _ => a_nil (alike_fl wrong_ok.1 wrong_ok.2 (by decide) (sz (by decide)) ⟨true, rfl, (fun z => nomatch z), fun _ => w_or1 (t_cmp (k_repr (a_cons (e_var 8 rfl (a_nil (c_reprW hr1 hr2 hr3 hr4 (e_var 10 rfl (o_neS (asT_i ⟨fun z9 => absurd z9 (by simp), fun _ => b_nil (thn_n (b_nil ⟨rfl, _, rfl⟩))⟩)))))))))⟩)), fun z5 => absurd z5 (by rw [z']; decide)⟩))))
      · have z' : okZ kvs2 = true := by rw [← okZ_perm hpk]; exact z
        obtain rfl := D.cell.inj e
        rw [hB] at hj
        injection hj with hj
        injection hj with _ _ hj
        refine a_cons (e_call FD (a_cons (e_var 5 rfl (a_nil ⟨ext.length + 1, kvs2, rfl, hA, hV2.kv, hV2.kt, (fun z5 => absurd z5 (by rw [z']; decide)), fun _ ps2 e2 zn2 => ?_⟩))))
        have hmp : madeD ps = madeD ps2 := made_perm zn.nd zn2.nd (by rw [← hj, ← e2]; exact hpk)
        rw [hmp]
        exact a_nil (alike_fl (made_ok zn2).1 (made_ok zn2).2 (by decide) (by rw [sizeLine_eq]; decide) ⟨true, rfl, (fun z => nomatch z), fun _ => w_or1 (t_cmp (k_repr (a_cons (e_var 8 rfl (a_nil (c_reprW hr1 hr2 hr3 hr4 (e_var 10 rfl (o_neS (asT_i ⟨fun z9 => absurd z9 (by simp), fun _ => b_nil (thn_n (b_nil ⟨rfl, _, rfl⟩))⟩)))))))))⟩)
    · rintro _ _ ⟨rfl, y11, rfl⟩
      exact b_nil ⟨b9, _, _, _, _, _, _, _, _, _, g9, rfl, rfl⟩
  · rintro _ _ ⟨s2, ext, x3, x4, x5, x6, x7, x8, x10, x11, gs2, rfl, rfl⟩
    refine b_set 12 (e_lst ?_)
    repeat (first | walk_at "me" | refine e_lst ?_ | refine ⟨sz (Nat.le_of_ble_eq_true rfl), ?_⟩)
    refine e_dK17 (e_str (e_int ⟨_, rfl, rfl, fun X1 j1 f1 g1 => ?_⟩))
    walk_at "me"
    refine e_dG17 (e_non (e_int ⟨_, 1, rfl, rfl, by decide, rfl, rfl, fun X2 j2 f2 g2 => ?_⟩))
    walk_at "me"
    refine e_dK17 (e_int (e_int ⟨_, rfl, rfl, fun X3 j3 f3 g3 => ?_⟩))
    walk_at "me"
    refine e_dT17 (e_tup (a_cons (e_str (a_cons (e_int (a_nil ⟨sz (Nat.le_of_ble_eq_true rfl), e_int ⟨_, rfl, rfl, fun X4 j4 f4 g4 => ?_⟩⟩))))))
    walk_at "me"
    refine e_dT17 (e_tup (a_cons (e_str (a_nil ⟨sz (Nat.le_of_ble_eq_true rfl), e_lst (a_cons (e_int (a_nil ⟨sz (Nat.le_of_ble_eq_true rfl), _, rfl, rfl, fun X5 j5 f5 g5 => ?_⟩)))⟩))))
    repeat (first | walk_at "me" | refine e_lst ?_ | refine ⟨sz (Nat.le_of_ble_eq_true rfl), ?_⟩)
    have mkZ : ∀ {s2 : Bag} {X : Mu} {jd : Nat} {kvs : Kvs} {ps : Zp} {PP : Mu → Prop} {ZZ : KX}, (bagC s2 :: X)[jd]? = some (.dct true none kvs) → kvs = zk ps → KvOk true kvs → okZ kvs = true → (∀ X1 fs, (bagC s2 :: X1)[(bagC s2 :: X).length]? = some (.ins "Zone" fs) → (∀ (i : Nat) y, (bagC s2 :: X)[i]? = some y → (bagC s2 :: X1)[i]? = some y) → PP (bagC s2 :: X1)) → CZInitG w [.cell (bagC s2 :: X).length, .cell jd] (bagC s2 :: X ++ [.ins "Zone" []]) (fun d m => d = .non ∧ PP m) ZZ := by
      intro s2 X jd kvs ps PP ZZ h e ok hz hk
      refine ⟨_, _, okZ kvs, rfl, List.getElem?_concat_length, (ZArg.dct jd true kvs rfl h ok (.inl rfl)).app, (fun z => by rw [hz] at z; exact nomatch z), fun _ j ps' e' hj' _ => ⟨rfl, ?_⟩⟩
      have hset : ((bagC s2 :: X ++ [Cell.ins "Zone" []]) ++ [Cell.dct true none (zk ps')]).set (bagC s2 :: X).length (.ins "Zone" (zfs (bagC s2 :: X ++ [Cell.ins "Zone" []]).length)) = bagC s2 :: (X ++ [.ins "Zone" (zfs (bagC s2 :: X ++ [Cell.ins "Zone" []]).length), .dct true none (zk ps')]) := by simp
      rw [hset]
      refine hk _ (zfs (bagC s2 :: X ++ [Cell.ins "Zone" []]).length) ?_ fun i y hy => at_app (μ := bagC s2 :: X) hy
      show (X ++ [_, _])[X.length]? = _
      rw [List.getElem?_append_right (Nat.le_refl _), Nat.sub_self]
      rfl
    refine o_mulL rfl ⟨by decide, by decide, by rw [sizeLine_eq]; decide⟩ (.l ?_)
    have c1 := g5 _ _ (g4 _ _ (g3 _ _ (g2 _ _ f1)))
    have c2 := g5 _ _ (g4 _ _ (g3 _ _ f2))
    have c3 := g5 _ _ (g4 _ _ f3)
    have c4 := g5 _ _ f4
    clear g1 g2 g3 g4 g5 f1 f2 f3 f4
    have hf : D.fls [D.lst [D.lst [D.lst [D.lst [D.lst [D.lst [D.lst [D.lst [D.lst [D.lst [D.lst [D.lst [D.lst []]]]]]]]]]]]]] = true := rfl
    generalize [D.lst [D.lst [D.lst [D.lst [D.lst [D.lst [D.lst [D.lst [D.lst [D.lst [D.lst [D.lst [D.lst []]]]]]]]]]]]]] = dps at hf ⊢
    repeat (first | walk_at "me" | refine e_lst ?_ | refine ⟨sz (Nat.le_of_ble_eq_true rfl), ?_⟩)
    refine e_make MZ (a_cons (e_dict0 true (a_nil ?_)))
    refine mkZ (ps := []) (X := X5 ++ [Cell.dct true none []]) (jd := (bagC s2 :: X5).length) (List.getElem?_concat_length (l := bagC s2 :: X5)) rfl kv0 (by decide) fun X6 fs c6 g6 => ?_
    have c6 : (bagC s2 :: X6)[(bagC s2 :: X5 ++ [Cell.dct true none []]).length]? = some (.ins "Zone" fs) := c6
    generalize (bagC s2 :: X5 ++ [Cell.dct true none []]).length = j6 at c6 ⊢
    have g6' : ∀ (i : Nat) y, (bagC s2 :: X5)[i]? = some y → (bagC s2 :: X6)[i]? = some y := fun i y h => g6 i y (at_app (μ := bagC s2 :: X5) h)
    walk_at "me"
    refine e_dT17 (e_tup (a_cons (e_str (a_nil ⟨sz (Nat.le_of_ble_eq_true rfl), e_var 12 rfl ⟨_, rfl, rfl, fun X7 j7 c7 g7 => ?_⟩⟩))))
    refine a_nil ⟨sz (Nat.le_of_ble_eq_true rfl), o_addL rfl rfl (sz (Nat.le_of_ble_eq_true rfl)) (.l ?_)⟩
    have od := odds (w := w) hf (g7 _ _ (g6' _ _ c1)) (g7 _ _ (g6' _ _ c2)) (g7 _ _ (g6' _ _ c3)) (g7 _ _ (g6' _ _ c4)) (g7 _ _ (g6' _ _ f5)) (g7 _ _ c6) c7
    refine e_call FT ?_
    walk_at "go"
    refine ctake gs2 (by decide) ?_
    have t0 := takeV_nonneg (s := s2) (n := 15) (by decide)
    have t1 := takeV_lt (s := s2) (n := 15) (by decide)
    have g3 := takeS_good (n := 15) gs2 (by decide)
    generalize takeV s2 15 = iv at t0 t1 ⊢
    generalize takeS s2 15 = s3 at g3 ⊢
    have od := od s3
    clear c1 c2 c3 c4 f5 c6 c7 g6 g6' g7 hf
    obtain ⟨iN, rfl⟩ : ∃ iN : Nat, iv = (iN : Int) := ⟨iv.toNat, by omega⟩
    have pickL : ∀ {l : List D}, (∀ d ∈ l, ZArg w (bagC s3 :: X7) d false) → iN < l.length → ∃ d, L2.atI l (iN : Int) = some d ∧ ZArg w (bagC s3 :: X7) d false := fun {l} h hl => ⟨l[iN], L2.atI_nat (List.getElem?_eq_getElem hl), h _ (List.getElem_mem hl)⟩
    obtain ⟨thing, ht, hz⟩ := pickL od (by show iN < 15; omega)
    refine x_lst rfl ht ?_
    have hsix : ∀ μ : Mu, EqOk wrongD wrongD ∧ eqv wrongD wrongD = true := fun _ => ⟨⟨rfl, rfl, by decide +kernel, by decide +kernel⟩, by decide +kernel⟩
    refine b_ret (e_and (e_cmp (e_call FR (a_cons (e_var 14 rfl (a_nil ⟨thing, false, rfl, hz, (fun _ => ?_), fun z => nomatch z⟩))))))
    refine e_tup (a_cons (e_str (a_cons (e_int (a_nil ⟨sz (Nat.le_of_ble_eq_true rfl), ?_⟩)))))
    refine o_eq rfl rfl (hsix []).1 ⟨_, rfl, fun _ => ?_, fun z => absurd ((hsix []).2.symm.trans z) (by decide)⟩
    refine e_one (e_cmp (e_call FR (a_cons (e_make MZ (a_cons (e_dT17 (e_tup (a_cons (e_str (a_nil ⟨sz (Nat.le_of_ble_eq_true rfl), e_int ⟨_, rfl, rfl, fun X8 j8 c8 g8 => a_nil ?_⟩⟩))))))))))
    refine mkZ (ps := [([("a" : Str)], 1)]) c8 rfl (kv1 rfl (by decide +kernel) rfl fun x e => by obtain rfl := DK.t.inj e; decide) (by decide +kernel) fun X9 fs9 c9 g9 => ?_
    refine a_nil ⟨_, false, rfl, .ins fs9 (vw_ins c9), (fun _ => ?_), fun z => nomatch z⟩
    refine e_tup (a_cons (e_str (a_cons (e_int (a_nil ⟨sz (Nat.le_of_ble_eq_true rfl), ?_⟩)))))
    refine o_eq rfl rfl (hsix []).1 ?_
    exact ⟨_, congrArg (fun q => Out.ret (.bl q) _) (hsix []).2⟩
end
end Lm

namespace Lm
open PySem PySem.Spec PyProof.Rows L2 Me
section
local macro_rules | `(tactic| walk_at "ev") => `(tactic| first
  | refine e_var 0 rfl ?_ | refine e_var 1 rfl ?_ | refine e_var 2 rfl ?_ | refine e_var 3 rfl ?_ | refine e_var 4 rfl ?_ | refine e_var 5 rfl ?_ | refine e_var 6 rfl ?_ | refine e_var 7 rfl ?_ | refine e_var 8 rfl ?_ | refine e_var 9 rfl ?_
  | refine e_var 10 rfl ?_ | refine e_var 11 rfl ?_ | refine e_var 12 rfl ?_ | refine e_var 13 rfl ?_ | refine e_var 14 rfl ?_ | refine e_var 15 rfl ?_ | refine e_var 16 rfl ?_ | refine e_var 17 rfl ?_ | refine e_var 18 rfl ?_ | refine e_var 19 rfl ?_ | refine e_var 20 rfl ?_)
local macro_rules | `(tactic| walk_at "ec") => `(tactic| first
  | refine k_len ?_ | refine k_int ?_ | refine k_tuple ?_ | refine k_list ?_ | refine k_repr ?_ | refine k_sorted ?_ | refine k_dict ?_ | refine k_all ?_ | refine k_min ?_ | refine k_abs ?_ | refine k_isinstance ?_)
local macro_rules | `(tactic| walk_at "ee") => `(tactic| first
  | ((with_reducible show Me.E _ (Expr.Name _ _) _ _ _); walk_at "ev")
  | ((with_reducible show Me.E _ (Expr.Constant _ _ _) _ _ _); first | refine e_int ?_ | refine e_str ?_ | refine e_bl ?_ | refine e_non ?_)
  | ((with_reducible show Me.E _ (Expr.BinOp _ _ _ _) _ _ _); refine e_bin ?_)
  | ((with_reducible show Me.E _ (Expr.Compare _ _ _ _) _ _ _); refine e_cmp ?_)
  | ((with_reducible show Me.E _ (Expr.Subscript _ (Expr.Slice _ _ _ _) _) _ _ _); refine e_sl ?_)
  | ((with_reducible show Me.E _ (Expr.Subscript _ _ _) _ _ _); refine e_ix ?_)
  | ((with_reducible show Me.E _ (Expr.Tuple _ _ _) _ _ _); refine e_tup ?_)
  | ((with_reducible show Me.E _ (Expr.UnaryOp UnaryOp.Not _ _) _ _ _); refine e_not ?_)
  | ((with_reducible show Me.E _ (Expr.UnaryOp _ _ _) _ _ _); refine e_un ?_)
  | ((with_reducible show Me.E _ (Expr.IfExp _ _ _ _) _ _ _); refine e_ite ?_)
  | ((with_reducible show Me.E _ (Expr.BoolOp _ _ _) _ _ _); first | refine e_one ?_ | refine e_and ?_ | refine e_or ?_)
  | ((with_reducible show Me.E _ (Expr.Call (Expr.Name _ _) _ _ _) _ _ _); walk_at "ec"))
local macro_rules | `(tactic| walk_at "bb") => `(tactic| first
  | refine b_nil ?_ | refine b_ret ?_ | refine b_setIx ?_ | refine b_expr ?_
  | refine b_set 0 ?_ | refine b_set 1 ?_ | refine b_set 2 ?_ | refine b_set 3 ?_ | refine b_set 4 ?_ | refine b_set 5 ?_ | refine b_set 6 ?_ | refine b_set 7 ?_ | refine b_set 8 ?_ | refine b_set 9 ?_ | refine b_set 10 ?_ | refine b_set 11 ?_ | refine b_set 12 ?_ | refine b_set 13 ?_ | refine b_set 14 ?_ | refine b_set 15 ?_ | refine b_set 16 ?_ | refine b_set 17 ?_ | refine b_set 18 ?_)
local macro_rules | `(tactic| walk_at "oo") => `(tactic| first
  | ((with_reducible show Op2 _ (binaryOp _) _ _ _ _ _); first
    | (with_reducible refine o_add ?_) | (with_reducible refine o_sub ?_)
    | ((with_reducible show Op2 _ (binaryOp Operator.Mod) (D.int _) (D.int _) _ _ _); refine o_mod (by first | decide | assumption | omega) ?_)
    | ((with_reducible show Op2 _ (binaryOp Operator.FloorDiv) (D.int _) (D.int _) _ _ _); refine o_fdiv (by first | decide | assumption | omega) ?_)
    | ((with_reducible show Op2 _ (binaryOp Operator.Mult) (D.int _) (D.int _) _ _ _); first | refine o_mul (Or.inr ⟨by decide, by decide⟩) ?_ | refine o_mul (Or.inl ⟨by decide, by decide⟩) ?_))
  | ((with_reducible show Op2 _ (compareOp _) _ _ _ _ _); first
    | (with_reducible refine o_lt ?_) | (with_reducible refine o_le ?_) | (with_reducible refine o_gt ?_) | (with_reducible refine o_ge ?_) | (with_reducible refine o_eqI ?_) | (with_reducible refine o_neI ?_) | (with_reducible refine o_eqS ?_) | (with_reducible refine o_neS ?_) | (with_reducible refine o_isN ?_) | (with_reducible refine o_isntN ?_))
  | (with_reducible refine o_neg ?_)
  | ((with_reducible show Cl _ (Value.type "int") _ _ _ _); refine c_int ?_)
  | ((with_reducible show Cl _ (Value.builtin "len") _ _ _ _); first | (with_reducible refine c_lenN ?_) | (with_reducible refine c_lenT ?_) | refine c_lenL rfl ?_)
  | ((with_reducible show Ix2 _ (D.tup _) _ _ _ _); refine x_tup rfl ?_)
  | ((with_reducible show Ix2 _ _ _ _ _ _); refine x_lst rfl rfl ?_))
local macro_rules | `(tactic| walk_at "me") => `(tactic| first
  | ((with_reducible show Me.E _ _ _ _ _); walk_at "ee")
  | ((with_reducible show Me.A _ _ _ _ _); first | refine a_cons ?_ | refine a_nil ?_)
  | ((with_reducible show Me.Thn _ _ _ (Out.next _ _)); refine thn_n ?_)
  | ((with_reducible show Me.B _ _ _ _ _); walk_at "bb")
  | ((with_reducible show Me.T _ _ _ _ _); first | refine t_cmp ?_ | refine t_bop ?_ | refine t_not ?_)
  | ((with_reducible show Me.W _ _ _ _ _); first | refine w_and1 ?_ | refine w_or1 ?_ | refine w_and ?_ | refine w_or ?_)
  | ((with_reducible show Me.OI _ _ _ _ _); first | refine o_none ?_ | refine o_some ?_)
  | walk_at "oo"
  | (with_reducible refine asT_i ?_)
  | (with_reducible refine ⟨_, rfl, ?_⟩))
local macro_rules | `(tactic| walk_at "go") => `(tactic| repeat (walk_at "me"))
variable {w : World} {P : Program} {base : Heap} {mg : Str → Option Value} {K : PySem.W.Frag} {Γ : Gam}
theorem ok_bag {f : Addr} {fd : FuncData} {k : Nat} (F : Fun K "_law_bag" "_law_bag" sBag f fd) (hb : Bi mg) : FnOk P w K mg base CX0 (k + 1) f fd ["_law_script"] (spBag K) := by
  refine F.ok scBag (fun vs H Q E h => ?_) (fun cdv A outer s H vs Q E hr h => ?_)
  · obtain ⟨a, ns, rfl, _⟩ := h
    rfl
  · obtain ⟨a, ns, rfl, hS, hl, q⟩ := h
    refine ⟨_, pss_one (ps_ret (pe_lst (pa_cons pe_int (pa_cons pe_int (pa_cons pe_int (pa_cons (pe_lc (own := [("_law_cell", 1)]) (g := gName 1) (tt := tYes) rfl scBag.nd (pi_list (pe_slice sl_list (pv 0) po_none (po_some pe_int)))
      (blkOk_by (N := nBag) (sc := defScope sBag) (by decide +kernel)) (fun _ _ _ _ _ => pg_name (i := 1) scBag.nd rfl (Or.inl rfl)) (fun _ _ _ _ _ => pts_nil) (fun _ _ _ _ _ => pe_callB call_abs (by rfl) hb.abs (by decide +kernel) (pa_cons (pv 1) pa_nil))) pa_nil)))))), ?_⟩
    refine ⟨.ref a, rfl, 63, rfl, a, ns.map V.int, rfl, hS, fun c nc => ?_⟩
    have cl : (cutV (ns.map V.int) none (some 63)).length ≤ 1000 := Nat.le_trans (cutV_length _ _ _) (by rw [List.length_map]; exact hl)
    have ci : ∀ v ∈ cutV (ns.map V.int) none (some 63), ∃ i, v = V.int i := fun v hv => by
      unfold cutV at hv
      obtain ⟨i, _, rfl⟩ := List.mem_map.mp (List.mem_of_mem_drop (List.mem_of_mem_take hv))
      exact ⟨i, rfl⟩
    refine ⟨c, rfl, ⟨_, .inl (.inl upd_same)⟩, fun D nD => ?_⟩
    have hDc : c ≠ D := fun z => by
      rw [z, upd_same] at nD
      cases nD
    refine lc_list (K := K) (a := c) (xs := cutV (ns.map V.int) none (some 63)) (fun i H2 => H2 c = some (.lst (cutV (ns.map V.int) none (some 63))) ∧ ∃ cs : List Int, H2 D = some (.lst (cs.map V.int)) ∧ cs.length ≤ i) ⟨by rw [upd_ne hDc, upd_same], [], upd_same, Nat.le_refl _⟩ (fun i H2 _ h => .inl (.inl h.1)) ?_ ?_
    · rintro i v H2 hv ⟨h1, cs, h2, h3⟩
      obtain ⟨z, rfl⟩ := ci v (List.mem_of_getElem? hv)
      have hi := (List.getElem?_eq_some_iff.mp hv).1
      refine ⟨rfl, .int z, rfl, z, rfl, cs.map V.int, h2, by rw [List.length_map, sizeLine_eq]; omega, by rw [upd_ne hDc]; exact h1, cs ++ [_], by rw [upd_same, List.map_append]; rfl, by rw [List.length_append]; show cs.length + 1 ≤ i + 1; omega⟩
    · rintro H2 ⟨h1, cs, h2, h3⟩
      refine ⟨by show 4 ≤ sizeLine; decide, fun b nb => q b D cs _ (ne_of_none h2 nb).symm upd_same (by rw [upd_ne (ne_of_none h2 nb)]; exact h2)⟩
end
end Lm

namespace Lm
open PySem PySem.Spec PyProof.Rows L2 Me
theorem kit_self (K : PySem.W.Frag) (C : Addr) : PySem.W.kitOne K (.ref C) (.ref C) = some true := by
  unfold PySem.W.kitOne
  rw [show (Value.ref C == Value.ref C) = true from beq_self_eq_true _]
  rfl
theorem cx_no {P : Program} {w : World} {H : Hp} {s s' : Shared} {u : Value} (h : L2.CX P w [] H s (fun _ _ _ => False) u s') : False := by
  obtain ⟨_, _, _, _, _, _, _, _, _, _, _, _, h⟩ := h
  exact h
/-! ### what the top has written; the law's own head -/
set_option maxHeartbeats 8000000 in
theorem all_mk {l : PySem.W.OpenLaw} {w : World} {K : PySem.W.Frag} {h : Heap} {mg : Str → Option Value} {fa f0 f1 f2 f3 f4 f5 f6 f7 f8 f9 f10 f11 f12 f13 f14 f15 f16 f17 f18 : Addr} {CZone CWrong CFull CNoName CListError : Addr} {t_LETTERS : Tok} {t_MOST_LETTERS : Tok} {t_MOST_VALUE : Tok} {t_MOST_NAMES : Tok} (X : K.In h) (G : h.Ns mainGlobals mg) (hfa : mg "law" = some (.ref fa))
    {od0 an0 : Option Addr} {sl0 : Array (Option Value)} {oc0 kV0 dc0 pm0 cd0 ct0 : Value} (a0 : PySem.W.nsIn K mainGlobals "is_integer" = some (some (.ref f0)))
      (l0 : K.lookup f0 = some ⟨oc0, od0, .func (PySem.W.fnOf "is_integer" "is_integer" (defArgs sPIsInteger) (defBody sPIsInteger) (defScope sPIsInteger) .none kV0 dc0 pm0 an0 cd0 ct0), sl0⟩)
      (c0 : PySem.W.codeIn K cd0 "is_integer" = true) (k0 : PySem.W.keepIn K (.ref f0) = true)
    {od1 an1 : Option Addr} {sl1 : Array (Option Value)} {oc1 kV1 dc1 pm1 cd1 ct1 : Value} (a1 : PySem.W.nsIn K mainGlobals "is_number" = some (some (.ref f1)))
      (l1 : K.lookup f1 = some ⟨oc1, od1, .func (PySem.W.fnOf "is_number" "is_number" (defArgs sPIsNumber) (defBody sPIsNumber) (defScope sPIsNumber) .none kV1 dc1 pm1 an1 cd1 ct1), sl1⟩)
      (c1 : PySem.W.codeIn K cd1 "is_number" = true) (k1 : PySem.W.keepIn K (.ref f1) = true)
    {od2 an2 : Option Addr} {sl2 : Array (Option Value)} {oc2 kV2 dc2 pm2 cd2 ct2 : Value} (a2 : PySem.W.nsIn K mainGlobals "is_label" = some (some (.ref f2)))
      (l2 : K.lookup f2 = some ⟨oc2, od2, .func (PySem.W.fnOf "is_label" "is_label" (defArgs sPIsLabel) (defBody sPIsLabel) (defScope sPIsLabel) .none kV2 dc2 pm2 an2 cd2 ct2), sl2⟩)
      (c2 : PySem.W.codeIn K cd2 "is_label" = true) (k2 : PySem.W.keepIn K (.ref f2) = true)
    {od3 an3 : Option Addr} {sl3 : Array (Option Value)} {oc3 kV3 dc3 pm3 cd3 ct3 : Value} (a3 : PySem.W.nsIn K mainGlobals "is_name" = some (some (.ref f3)))
      (l3 : K.lookup f3 = some ⟨oc3, od3, .func (PySem.W.fnOf "is_name" "is_name" (defArgs sPIsName) (defBody sPIsName) (defScope sPIsName) .none kV3 dc3 pm3 an3 cd3 ct3), sl3⟩)
      (c3 : PySem.W.codeIn K cd3 "is_name" = true) (k3 : PySem.W.keepIn K (.ref f3) = true)
    {od4 an4 : Option Addr} {sl4 : Array (Option Value)} {oc4 kV4 dc4 pm4 cd4 ct4 : Value} (a4 : PySem.W.nsIn K mainGlobals "is_full" = some (some (.ref f4)))
      (l4 : K.lookup f4 = some ⟨oc4, od4, .func (PySem.W.fnOf "is_full" "is_full" (defArgs sPIsFull) (defBody sPIsFull) (defScope sPIsFull) .none kV4 dc4 pm4 an4 cd4 ct4), sl4⟩)
      (c4 : PySem.W.codeIn K cd4 "is_full" = true) (k4 : PySem.W.keepIn K (.ref f4) = true)
    {od5 an5 : Option Addr} {sl5 : Array (Option Value)} {oc5 kV5 dc5 pm5 cd5 ct5 : Value} (a5 : PySem.W.nsIn K mainGlobals "is_value" = some (some (.ref f5)))
      (l5 : K.lookup f5 = some ⟨oc5, od5, .func (PySem.W.fnOf "is_value" "is_value" (defArgs sPIsValue) (defBody sPIsValue) (defScope sPIsValue) .none kV5 dc5 pm5 an5 cd5 ct5), sl5⟩)
      (c5 : PySem.W.codeIn K cd5 "is_value" = true) (k5 : PySem.W.keepIn K (.ref f5) = true)
    {od6 an6 : Option Addr} {sl6 : Array (Option Value)} {oc6 kV6 dc6 pm6 cd6 ct6 : Value} (a6 : PySem.W.nsIn K mainGlobals "are_values" = some (some (.ref f6)))
      (l6 : K.lookup f6 = some ⟨oc6, od6, .func (PySem.W.fnOf "are_values" "are_values" (defArgs sPAreValues) (defBody sPAreValues) (defScope sPAreValues) .none kV6 dc6 pm6 an6 cd6 ct6), sl6⟩)
      (c6 : PySem.W.codeIn K cd6 "are_values" = true) (k6 : PySem.W.keepIn K (.ref f6) = true)
    {od7 an7 : Option Addr} {sl7 : Array (Option Value)} {oc7 kV7 dc7 pm7 cd7 ct7 : Value} (a7 : PySem.W.nsIn K mainGlobals "_law_bag" = some (some (.ref f7)))
      (l7 : K.lookup f7 = some ⟨oc7, od7, .func (PySem.W.fnOf "_law_bag" "_law_bag" (defArgs sBag) (defBody sBag) (defScope sBag) .none kV7 dc7 pm7 an7 cd7 ct7), sl7⟩)
      (c7 : PySem.W.codeIn K cd7 "_law_bag" = true) (k7 : PySem.W.keepIn K (.ref f7) = true)
    {od8 an8 : Option Addr} {sl8 : Array (Option Value)} {oc8 kV8 dc8 pm8 cd8 ct8 : Value} (a8 : PySem.W.nsIn K mainGlobals "_law_take" = some (some (.ref f8)))
      (l8 : K.lookup f8 = some ⟨oc8, od8, .func (PySem.W.fnOf "_law_take" "_law_take" (defArgs sTake) (defBody sTake) (defScope sTake) .none kV8 dc8 pm8 an8 cd8 ct8), sl8⟩)
      (c8 : PySem.W.codeIn K cd8 "_law_take" = true) (k8 : PySem.W.keepIn K (.ref f8) = true)
    {od9 an9 : Option Addr} {sl9 : Array (Option Value)} {oc9 kV9 dc9 pm9 cd9 ct9 : Value} (a9 : PySem.W.nsIn K mainGlobals "_law_alike" = some (some (.ref f9)))
      (l9 : K.lookup f9 = some ⟨oc9, od9, .func (PySem.W.fnOf "_law_alike" "_law_alike" (defArgs sAlike) (defBody sAlike) (defScope sAlike) .none kV9 dc9 pm9 an9 cd9 ct9), sl9⟩)
      (c9 : PySem.W.codeIn K cd9 "_law_alike" = true) (k9 : PySem.W.keepIn K (.ref f9) = true)
    {od10 an10 : Option Addr} {sl10 : Array (Option Value)} {oc10 kV10 dc10 pm10 cd10 ct10 : Value} (a10 : PySem.W.nsIn K mainGlobals "_law_pick" = some (some (.ref f10)))
      (l10 : K.lookup f10 = some ⟨oc10, od10, .func (PySem.W.fnOf "_law_pick" "_law_pick" (defArgs sPick) (defBody sPick) (defScope sPick) .none kV10 dc10 pm10 an10 cd10 ct10), sl10⟩)
      (c10 : PySem.W.codeIn K cd10 "_law_pick" = true) (k10 : PySem.W.keepIn K (.ref f10) = true)
    {od11 an11 : Option Addr} {sl11 : Array (Option Value)} {oc11 kV11 dc11 pm11 cd11 ct11 : Value} (a11 : PySem.W.nsIn K mainGlobals "_law_mix" = some (some (.ref f11)))
      (l11 : K.lookup f11 = some ⟨oc11, od11, .func (PySem.W.fnOf "_law_mix" "_law_mix" (defArgs sLMix) (defBody sLMix) (defScope sLMix) .none kV11 dc11 pm11 an11 cd11 ct11), sl11⟩)
      (c11 : PySem.W.codeIn K cd11 "_law_mix" = true) (k11 : PySem.W.keepIn K (.ref f11) = true)
    {od12 an12 : Option Addr} {sl12 : Array (Option Value)} {oc12 kV12 dc12 pm12 cd12 ct12 : Value} (a12 : PySem.W.nsIn K mainGlobals "_law_labels" = some (some (.ref f12)))
      (l12 : K.lookup f12 = some ⟨oc12, od12, .func (PySem.W.fnOf "_law_labels" "_law_labels" (defArgs sLabels) (defBody sLabels) (defScope sLabels) .none kV12 dc12 pm12 an12 cd12 ct12), sl12⟩)
      (c12 : PySem.W.codeIn K cd12 "_law_labels" = true) (k12 : PySem.W.keepIn K (.ref f12) = true)
    {od13 an13 : Option Addr} {sl13 : Array (Option Value)} {oc13 kV13 dc13 pm13 cd13 ct13 : Value} (a13 : PySem.W.nsIn K mainGlobals "_law_word" = some (some (.ref f13)))
      (l13 : K.lookup f13 = some ⟨oc13, od13, .func (PySem.W.fnOf "_law_word" "_law_word" (defArgs sWord) (defBody sWord) (defScope sWord) .none kV13 dc13 pm13 an13 cd13 ct13), sl13⟩)
      (c13 : PySem.W.codeIn K cd13 "_law_word" = true) (k13 : PySem.W.keepIn K (.ref f13) = true)
    {od14 an14 : Option Addr} {sl14 : Array (Option Value)} {oc14 kV14 dc14 pm14 cd14 ct14 : Value} (a14 : PySem.W.nsIn K mainGlobals "_law_names" = some (some (.ref f14)))
      (l14 : K.lookup f14 = some ⟨oc14, od14, .func (PySem.W.fnOf "_law_names" "_law_names" (defArgs sLNames) (defBody sLNames) (defScope sLNames) .none kV14 dc14 pm14 an14 cd14 ct14), sl14⟩)
      (c14 : PySem.W.codeIn K cd14 "_law_names" = true) (k14 : PySem.W.keepIn K (.ref f14) = true)
    {od15 an15 : Option Addr} {sl15 : Array (Option Value)} {oc15 kV15 dc15 pm15 cd15 ct15 : Value} (a15 : PySem.W.nsIn K mainGlobals "_law_values" = some (some (.ref f15)))
      (l15 : K.lookup f15 = some ⟨oc15, od15, .func (PySem.W.fnOf "_law_values" "_law_values" (defArgs sLValues) (defBody sLValues) (defScope sLValues) .none kV15 dc15 pm15 an15 cd15 ct15), sl15⟩)
      (c15 : PySem.W.codeIn K cd15 "_law_values" = true) (k15 : PySem.W.keepIn K (.ref f15) = true)
    {od16 an16 : Option Addr} {sl16 : Array (Option Value)} {oc16 kV16 dc16 pm16 cd16 ct16 : Value} (a16 : PySem.W.nsIn K mainGlobals "_law_tried" = some (some (.ref f16)))
      (l16 : K.lookup f16 = some ⟨oc16, od16, .func (PySem.W.fnOf "_law_tried" "_law_tried" (defArgs sLTried) (defBody sLTried) (defScope sLTried) .none kV16 dc16 pm16 an16 cd16 ct16), sl16⟩)
      (c16 : PySem.W.codeIn K cd16 "_law_tried" = true) (k16 : PySem.W.keepIn K (.ref f16) = true)
    {od17 an17 : Option Addr} {sl17 : Array (Option Value)} {oc17 kV17 dc17 pm17 cd17 ct17 : Value} (a17 : PySem.W.nsIn K mainGlobals "_law_due" = some (some (.ref f17)))
      (l17 : K.lookup f17 = some ⟨oc17, od17, .func (PySem.W.fnOf "_law_due" "_law_due" (defArgs sLDue) (defBody sLDue) (defScope sLDue) .none kV17 dc17 pm17 an17 cd17 ct17), sl17⟩)
      (c17 : PySem.W.codeIn K cd17 "_law_due" = true) (k17 : PySem.W.keepIn K (.ref f17) = true)
    {od18 an18 : Option Addr} {sl18 : Array (Option Value)} {oc18 kV18 dc18 pm18 cd18 ct18 : Value} (a18 : PySem.W.nsIn K mainGlobals "law" = some (some (.ref f18)))
      (l18 : K.lookup f18 = some ⟨oc18, od18, .func (PySem.W.fnOf "law" "law" (defArgs sLaw) (defBody sLaw) (defScope sLaw) .none kV18 dc18 pm18 an18 cd18 ct18), sl18⟩)
      (c18 : PySem.W.codeIn K cd18 "law" = true) (k18 : PySem.W.keepIn K (.ref f18) = true)
    {odm0 anm0 : Option Addr} {slm0 : Array (Option Value)} {ocm0 kVm0 dcm0 pmm0 cdm0 ctm0 : Value} {fm0 : Addr} (am0 : PySem.W.findIn K (.ref CZone) "__init__" = some (some (.ref fm0)))
      (lm0 : K.lookup fm0 = some ⟨ocm0, odm0, .func (PySem.W.fnOf "__init__" "Zone.__init__" (defArgs sZone_init) (defBody sZone_init) (defScope sZone_init) .none kVm0 dcm0 pmm0 anm0 cdm0 ctm0), slm0⟩)
      (cm0 : PySem.W.codeIn K cdm0 "Zone.__init__" = true) (km0 : PySem.W.keepIn K (.ref fm0) = true) (im0 : PySem.W.isFn K (.ref fm0) = true)
    {odm1 anm1 : Option Addr} {slm1 : Array (Option Value)} {ocm1 kVm1 dcm1 pmm1 cdm1 ctm1 : Value} {fm1 : Addr} (am1 : PySem.W.findIn K (.ref CZone) "__getitem__" = some (some (.ref fm1)))
      (lm1 : K.lookup fm1 = some ⟨ocm1, odm1, .func (PySem.W.fnOf "__getitem__" "Zone.__getitem__" (defArgs sZone_getitem) (defBody sZone_getitem) (defScope sZone_getitem) .none kVm1 dcm1 pmm1 anm1 cdm1 ctm1), slm1⟩)
      (cm1 : PySem.W.codeIn K cdm1 "Zone.__getitem__" = true) (km1 : PySem.W.keepIn K (.ref fm1) = true) (im1 : PySem.W.isFn K (.ref fm1) = true) (jm1 : PySem.W.fnIn K fm1 = true)
    {odm2 anm2 : Option Addr} {slm2 : Array (Option Value)} {ocm2 kVm2 dcm2 pmm2 cdm2 ctm2 : Value} {fm2 : Addr} (am2 : PySem.W.findIn K (.ref CZone) "names" = some (some (.ref fm2)))
      (lm2 : K.lookup fm2 = some ⟨ocm2, odm2, .func (PySem.W.fnOf "names" "Zone.names" (defArgs sZone_names) (defBody sZone_names) (defScope sZone_names) .none kVm2 dcm2 pmm2 anm2 cdm2 ctm2), slm2⟩)
      (cm2 : PySem.W.codeIn K cdm2 "Zone.names" = true) (km2 : PySem.W.keepIn K (.ref fm2) = true) (im2 : PySem.W.isFn K (.ref fm2) = true)
    {eAWrong eBWrong : Str} {eNWrong eFWrong eDWrong eEWrong : Addr} {ebWrong esbWrong : List Value} {esnWrong : List Str} {eabWrong : Bool} {ecolWrong : Option Bool} {eddWrong : Option Addr} {em0Wrong em1Wrong em2Wrong em3Wrong em5Wrong : Option Value} {eocWrong edcWrong epmWrong ectWrong eclWrong eczWrong : Value} {eodWrong eanWrong ecdWrong ecyWrong : Option Addr} {eslWrong ecsWrong ecxWrong : Array (Option Value)} {evsWrong : Array Value} {efiWrong : Str} {etfWrong : Tok}
      (e1_Wrong : K.lookup CWrong = some (excClassObj eAWrong eBWrong CWrong eNWrong ebWrong [.ref CListError, .type "ValueError", .type "Exception", .type "BaseException", .type "object"] true esnWrong esbWrong eabWrong ecolWrong eddWrong em0Wrong em1Wrong em2Wrong em3Wrong em5Wrong "ValueError.__new__"))
      (e2_Wrong : PySem.W.findIn K (.ref CWrong) "__setattr__" = some (some (.builtin "object.__setattr__"))) (e3_Wrong : PySem.W.findIn K (.ref CWrong) "__getattribute__" = some (some (.builtin "BaseException.__getattribute__"))) (e4_Wrong : PySem.W.findIn K (.ref CWrong) "__getattr__" = some none) (e5_Wrong : PySem.W.findIn K (.ref CWrong) "place" = some none)
      (e6_Wrong : PySem.W.findIn K (.ref CWrong) "__init__" = some (some (.ref eFWrong))) (e7_Wrong : PySem.W.typeIn K (.ref eFWrong) = some (.type "function")) (e8_Wrong : PySem.W.keepIn K (.ref CWrong) = true) (e9_Wrong : PySem.W.subIn K (.ref CWrong) (.type "BaseException") = some true) (e10_Wrong : PySem.W.typeIn K (.ref CWrong) = some (.type "type")) (e11_Wrong : PySem.W.hasDictIn K CWrong = true)
      (e12_Wrong : K.lookup eFWrong = some ⟨eocWrong, eodWrong, .func (PySem.W.ksFn "__init__" "Wrong.__init__" (Er.xA "place" ⟨9, 17, 9, 21⟩ ⟨9, 23, 9, 28⟩) (Er.xB "place" ⟨10, 8, 10, 13⟩ ⟨10, 8, 10, 15⟩ ⟨10, 8, 10, 24⟩ ⟨10, 25, 10, 30⟩ ⟨10, 8, 10, 31⟩ ⟨10, 8, 10, 31⟩ ⟨11, 8, 11, 12⟩ ⟨11, 8, 11, 18⟩ ⟨11, 21, 11, 26⟩ ⟨11, 8, 11, 26⟩) (Er.xS "place") .none .none edcWrong epmWrong eanWrong (.ref eDWrong) ectWrong eEWrong), eslWrong⟩) (e13_Wrong : PySem.W.codeIn K (.ref eDWrong) "Wrong.__init__" = true)
      (e14_Wrong : K.lookup eDWrong = some ⟨eclWrong, ecdWrong, .fields evsWrong, ecsWrong⟩) (e15_Wrong : evsWrong[2]? = some (.str efiWrong etfWrong)) (e16_Wrong : ((l.prog.main.file : Str) == efiWrong) = true) (e17_Wrong : K.lookup eEWrong = some ⟨eczWrong, ecyWrong, .cell (some (.ref CWrong)), ecxWrong⟩)
      (e18_Wrong : PySem.W.mroIn K CWrong (.ref CWrong) = some true) (e19_Wrong : PySem.W.ks_superIn K CWrong CWrong "__init__" = some (some (.builtin "ValueError.__init__"))) (e20_Wrong : PySem.W.subIn K (.ref CWrong) (.type "ValueError") = some true) (e21_Wrong : PySem.W.findIn K (.ref CWrong) "__class__" = some (some (.builtin "object.__class__"))) (e22_Wrong : PySem.W.mroIn K CWrong (.type "object") = some true) (e23_Wrong : PySem.W.subIn K (.ref CWrong) (.ref CListError) = some true)
    {eAFull eBFull : Str} {eNFull eFFull eDFull eEFull : Addr} {ebFull esbFull : List Value} {esnFull : List Str} {eabFull : Bool} {ecolFull : Option Bool} {eddFull : Option Addr} {em0Full em1Full em2Full em3Full em5Full : Option Value} {eocFull edcFull epmFull ectFull eclFull eczFull : Value} {eodFull eanFull ecdFull ecyFull : Option Addr} {eslFull ecsFull ecxFull : Array (Option Value)} {evsFull : Array Value} {efiFull : Str} {etfFull : Tok}
      (e1_Full : K.lookup CFull = some (excClassObj eAFull eBFull CFull eNFull ebFull [.ref CListError, .type "ValueError", .type "Exception", .type "BaseException", .type "object"] true esnFull esbFull eabFull ecolFull eddFull em0Full em1Full em2Full em3Full em5Full "ValueError.__new__"))
      (e2_Full : PySem.W.findIn K (.ref CFull) "__setattr__" = some (some (.builtin "object.__setattr__"))) (e3_Full : PySem.W.findIn K (.ref CFull) "__getattribute__" = some (some (.builtin "BaseException.__getattribute__"))) (e4_Full : PySem.W.findIn K (.ref CFull) "__getattr__" = some none) (e5_Full : PySem.W.findIn K (.ref CFull) "limit" = some none)
      (e6_Full : PySem.W.findIn K (.ref CFull) "__init__" = some (some (.ref eFFull))) (e7_Full : PySem.W.typeIn K (.ref eFFull) = some (.type "function")) (e8_Full : PySem.W.keepIn K (.ref CFull) = true) (e9_Full : PySem.W.subIn K (.ref CFull) (.type "BaseException") = some true) (e10_Full : PySem.W.typeIn K (.ref CFull) = some (.type "type")) (e11_Full : PySem.W.hasDictIn K CFull = true)
      (e12_Full : K.lookup eFFull = some ⟨eocFull, eodFull, .func (PySem.W.ksFn "__init__" "Full.__init__" (Er.xA "limit" ⟨19, 17, 19, 21⟩ ⟨19, 23, 19, 28⟩) (Er.xB "limit" ⟨20, 8, 20, 13⟩ ⟨20, 8, 20, 15⟩ ⟨20, 8, 20, 24⟩ ⟨20, 25, 20, 30⟩ ⟨20, 8, 20, 31⟩ ⟨20, 8, 20, 31⟩ ⟨21, 8, 21, 12⟩ ⟨21, 8, 21, 18⟩ ⟨21, 21, 21, 26⟩ ⟨21, 8, 21, 26⟩) (Er.xS "limit") .none .none edcFull epmFull eanFull (.ref eDFull) ectFull eEFull), eslFull⟩) (e13_Full : PySem.W.codeIn K (.ref eDFull) "Full.__init__" = true)
      (e14_Full : K.lookup eDFull = some ⟨eclFull, ecdFull, .fields evsFull, ecsFull⟩) (e15_Full : evsFull[2]? = some (.str efiFull etfFull)) (e16_Full : ((l.prog.main.file : Str) == efiFull) = true) (e17_Full : K.lookup eEFull = some ⟨eczFull, ecyFull, .cell (some (.ref CFull)), ecxFull⟩)
      (e18_Full : PySem.W.mroIn K CFull (.ref CFull) = some true) (e19_Full : PySem.W.ks_superIn K CFull CFull "__init__" = some (some (.builtin "ValueError.__init__"))) (e20_Full : PySem.W.subIn K (.ref CFull) (.type "ValueError") = some true) (e21_Full : PySem.W.findIn K (.ref CFull) "__class__" = some (some (.builtin "object.__class__"))) (e22_Full : PySem.W.mroIn K CFull (.type "object") = some true) (e23_Full : PySem.W.subIn K (.ref CFull) (.ref CListError) = some true)
    {eANoName eBNoName : Str} {eNNoName eFNoName eDNoName eENoName : Addr} {ebNoName esbNoName : List Value} {esnNoName : List Str} {eabNoName : Bool} {ecolNoName : Option Bool} {eddNoName : Option Addr} {em0NoName em1NoName em2NoName em3NoName em5NoName : Option Value} {eocNoName edcNoName epmNoName ectNoName eclNoName eczNoName : Value} {eodNoName eanNoName ecdNoName ecyNoName : Option Addr} {eslNoName ecsNoName ecxNoName : Array (Option Value)} {evsNoName : Array Value} {efiNoName : Str} {etfNoName : Tok}
      (e1_NoName : K.lookup CNoName = some (excClassObj eANoName eBNoName CNoName eNNoName ebNoName [.ref CListError, .type "ValueError", .type "Exception", .type "BaseException", .type "object"] true esnNoName esbNoName eabNoName ecolNoName eddNoName em0NoName em1NoName em2NoName em3NoName em5NoName "ValueError.__new__"))
      (e2_NoName : PySem.W.findIn K (.ref CNoName) "__setattr__" = some (some (.builtin "object.__setattr__"))) (e3_NoName : PySem.W.findIn K (.ref CNoName) "__getattribute__" = some (some (.builtin "BaseException.__getattribute__"))) (e4_NoName : PySem.W.findIn K (.ref CNoName) "__getattr__" = some none) (e5_NoName : PySem.W.findIn K (.ref CNoName) "name" = some none)
      (e6_NoName : PySem.W.findIn K (.ref CNoName) "__init__" = some (some (.ref eFNoName))) (e7_NoName : PySem.W.typeIn K (.ref eFNoName) = some (.type "function")) (e8_NoName : PySem.W.keepIn K (.ref CNoName) = true) (e9_NoName : PySem.W.subIn K (.ref CNoName) (.type "BaseException") = some true) (e10_NoName : PySem.W.typeIn K (.ref CNoName) = some (.type "type")) (e11_NoName : PySem.W.hasDictIn K CNoName = true)
      (e12_NoName : K.lookup eFNoName = some ⟨eocNoName, eodNoName, .func (PySem.W.ksFn "__init__" "NoName.__init__" (Er.xA "name" ⟨14, 17, 14, 21⟩ ⟨14, 23, 14, 27⟩) (Er.xB "name" ⟨15, 8, 15, 13⟩ ⟨15, 8, 15, 15⟩ ⟨15, 8, 15, 24⟩ ⟨15, 25, 15, 29⟩ ⟨15, 8, 15, 30⟩ ⟨15, 8, 15, 30⟩ ⟨16, 8, 16, 12⟩ ⟨16, 8, 16, 17⟩ ⟨16, 20, 16, 24⟩ ⟨16, 8, 16, 24⟩) (Er.xS "name") .none .none edcNoName epmNoName eanNoName (.ref eDNoName) ectNoName eENoName), eslNoName⟩) (e13_NoName : PySem.W.codeIn K (.ref eDNoName) "NoName.__init__" = true)
      (e14_NoName : K.lookup eDNoName = some ⟨eclNoName, ecdNoName, .fields evsNoName, ecsNoName⟩) (e15_NoName : evsNoName[2]? = some (.str efiNoName etfNoName)) (e16_NoName : ((l.prog.main.file : Str) == efiNoName) = true) (e17_NoName : K.lookup eENoName = some ⟨eczNoName, ecyNoName, .cell (some (.ref CNoName)), ecxNoName⟩)
      (e18_NoName : PySem.W.mroIn K CNoName (.ref CNoName) = some true) (e19_NoName : PySem.W.ks_superIn K CNoName CNoName "__init__" = some (some (.builtin "ValueError.__init__"))) (e20_NoName : PySem.W.subIn K (.ref CNoName) (.type "ValueError") = some true) (e21_NoName : PySem.W.findIn K (.ref CNoName) "__class__" = some (some (.builtin "object.__class__"))) (e22_NoName : PySem.W.mroIn K CNoName (.type "object") = some true) (e23_NoName : PySem.W.subIn K (.ref CNoName) (.ref CListError) = some true)
    (eS1 : PySem.W.nsIn K mainGlobals "super" = some none) (eS2 : (l.prog.main.scope.names.lookup ("super" : Str)).isSome = false) (eS3 : PySem.W.nsIn K cStatics "thirdparty.any" = some none) (eS4 : PySem.W.subIn K (.ref CListError) (.type "BaseException") = some true) (eS5 : PySem.W.hasDictIn K CListError = true) (eS6 : PySem.W.typeIn K (.ref CListError) = some (.type "type"))
    (z_len : PySem.W.nsIn K mainGlobals "len" = some none) (z_int : PySem.W.nsIn K mainGlobals "int" = some none) (z_abs : PySem.W.nsIn K mainGlobals "abs" = some none) (z_tuple : PySem.W.nsIn K mainGlobals "tuple" = some none) (z_list : PySem.W.nsIn K mainGlobals "list" = some none) (z_repr : PySem.W.nsIn K mainGlobals "repr" = some none) (z_range : PySem.W.nsIn K mainGlobals "range" = some none) (z_sorted : PySem.W.nsIn K mainGlobals "sorted" = some none) (z_sum : PySem.W.nsIn K mainGlobals "sum" = some none) (z_all : PySem.W.nsIn K mainGlobals "all" = some none) (z_any : PySem.W.nsIn K mainGlobals "any" = some none) (z_min : PySem.W.nsIn K mainGlobals "min" = some none) (z_max : PySem.W.nsIn K mainGlobals "max" = some none) (z_set : PySem.W.nsIn K mainGlobals "set" = some none) (z_dict : PySem.W.nsIn K mainGlobals "dict" = some none) (z_zip : PySem.W.nsIn K mainGlobals "zip" = some none) (z_enumerate : PySem.W.nsIn K mainGlobals "enumerate" = some none) (z_reversed : PySem.W.nsIn K mainGlobals "reversed" = some none) (z_str : PySem.W.nsIn K mainGlobals "str" = some none) (z_type : PySem.W.nsIn K mainGlobals "type" = some none) (z_isinstance : PySem.W.nsIn K mainGlobals "isinstance" = some none) (z_bool : PySem.W.nsIn K mainGlobals "bool" = some none) (v_LETTERS : PySem.W.nsIn K mainGlobals "LETTERS" = some (some (.str letS t_LETTERS))) (v_MOST_LETTERS : PySem.W.nsIn K mainGlobals "MOST_LETTERS" = some (some (.int 8 t_MOST_LETTERS))) (v_MOST_VALUE : PySem.W.nsIn K mainGlobals "MOST_VALUE" = some (some (.int 999 t_MOST_VALUE))) (v_MOST_NAMES : PySem.W.nsIn K mainGlobals "MOST_NAMES" = some (some (.int 30 t_MOST_NAMES))) (zc_ListError : PySem.W.nsIn K mainGlobals "ListError" = some (some (.ref CListError))) (zc_Wrong : PySem.W.nsIn K mainGlobals "Wrong" = some (some (.ref CWrong))) (zc_Full : PySem.W.nsIn K mainGlobals "Full" = some (some (.ref CFull))) (zc_NoName : PySem.W.nsIn K mainGlobals "NoName" = some (some (.ref CNoName))) (zc_Zone : PySem.W.nsIn K mainGlobals "Zone" = some (some (.ref CZone))) (mk1_Zone : PySem.W.makesIn K CZone = true) (mk2_Zone : PySem.W.keepIn K (.ref CZone) = true) (p1_Zone : PySem.W.plainGet K CZone Str.empty = true) (p2_Zone : PySem.W.hasDictIn K CZone = true) (p3_Zone : PySem.W.plainOver K CZone = true) (p4_Zone : PySem.W.findIn K (.ref CZone) "__setattr__" = some (some (.builtin "object.__setattr__"))) (o1_Zone : PySem.W.findIn K (.ref CZone) "__class__" = some (some (.builtin "object.__class__"))) (o4_Zone : PySem.W.mroIn K CZone (.type "object") = some true) (s1_Zone : PySem.W.noSeq K CZone = true) (s2_Zone : PySem.W.selfFirst K CZone = true) (na_Zone_its_values : PySem.W.findIn K (.ref CZone) "its_values" = some none) (o2 : PySem.W.specialIn K (.builtin "object.__class__") "__get__" = some (some (.builtin "getset_descriptor.__get__"))) (o3 : PySem.W.takesIn K (.builtin "object.__class__") = some true) (e31_wf : PySem.W.kitOne K (.ref CWrong) (.ref CFull) = some false) (e32_wn : PySem.W.kitOne K (.ref CWrong) (.ref CNoName) = some false) (e33_zd : PySem.W.kitOne K (.ref CZone) (.type "dict") = some false) :
    ∃ fd : FuncData, (∀ (s : Shared) (v : Value), BindsTo s fd ⟨[v], []⟩ [("_law_script", v)]) ∧ ∀ base : Heap, K.In base → base.Ns mainGlobals mg → Gd.FnG l.prog w K mg base (L2.CX l.prog w) 13 fa fd ["_law_script"] (spLaw K) := by
  have e := hfa.symm.trans (PySem.W.mg_of X G a18)
  cases e
  have F0 := fun_mk (st := sPIsInteger) l0 c0 k0
  have b0 := F0.binds (ps := ["thing"]) fun _ _ _ _ _ _ us hl => match us, hl with | [_], _ => rfl
  have F1 := fun_mk (st := sPIsNumber) l1 c1 k1
  have b1 := F1.binds (ps := ["many", "thing"]) fun _ _ _ _ _ _ us hl => match us, hl with | [_, _], _ => rfl
  have F2 := fun_mk (st := sPIsLabel) l2 c2 k2
  have b2 := F2.binds (ps := ["thing"]) fun _ _ _ _ _ _ us hl => match us, hl with | [_], _ => rfl
  have F3 := fun_mk (st := sPIsName) l3 c3 k3
  have b3 := F3.binds (ps := ["thing"]) fun _ _ _ _ _ _ us hl => match us, hl with | [_], _ => rfl
  have F4 := fun_mk (st := sPIsFull) l4 c4 k4
  have b4 := F4.binds (ps := ["thing"]) fun _ _ _ _ _ _ us hl => match us, hl with | [_], _ => rfl
  have F5 := fun_mk (st := sPIsValue) l5 c5 k5
  have b5 := F5.binds (ps := ["thing"]) fun _ _ _ _ _ _ us hl => match us, hl with | [_], _ => rfl
  have F6 := fun_mk (st := sPAreValues) l6 c6 k6
  have b6 := F6.binds (ps := ["thing"]) fun _ _ _ _ _ _ us hl => match us, hl with | [_], _ => rfl
  have F7 := fun_mk (st := sBag) l7 c7 k7
  have b7 := F7.binds (ps := ["_law_script"]) fun _ _ _ _ _ _ us hl => match us, hl with | [_], _ => rfl
  have F8 := fun_mk (st := sTake) l8 c8 k8
  have b8 := F8.binds (ps := ["_law_bag_here", "_law_many"]) fun _ _ _ _ _ _ us hl => match us, hl with | [_, _], _ => rfl
  have F9 := fun_mk (st := sAlike) l9 c9 k9
  have b9 := F9.binds (ps := ["_law_found", "_law_right"]) fun _ _ _ _ _ _ us hl => match us, hl with | [_, _], _ => rfl
  have F10 := fun_mk (st := sPick) l10 c10 k10
  have b10 := F10.binds (ps := ["_law_bag_here", "_law_some"]) fun _ _ _ _ _ _ us hl => match us, hl with | [_, _], _ => rfl
  have F11 := fun_mk (st := sLMix) l11 c11 k11
  have b11 := F11.binds (ps := ["_law_bag_here", "_law_some"]) fun _ _ _ _ _ _ us hl => match us, hl with | [_, _], _ => rfl
  have F12 := fun_mk (st := sLabels) l12 c12 k12
  have b12 := F12.binds (ps := ["_law_bag_here", "_law_many"]) fun _ _ _ _ _ _ us hl => match us, hl with | [_, _], _ => rfl
  have F13 := fun_mk (st := sWord) l13 c13 k13
  have b13 := F13.binds (ps := ["_law_bag_here", "_law_labels_here", "_law_least", "_law_most"]) fun _ _ _ _ _ _ us hl => match us, hl with | [_, _, _, _], _ => rfl
  have F14 := fun_mk (st := sLNames) l14 c14 k14
  have b14 := F14.binds (ps := ["_law_bag_here", "_law_labels_here", "_law_many", "_law_most"]) fun _ _ _ _ _ _ us hl => match us, hl with | [_, _, _, _], _ => rfl
  have F15 := fun_mk (st := sLValues) l15 c15 k15
  have b15 := F15.binds (ps := ["_law_bag_here", "_law_names_here"]) fun _ _ _ _ _ _ us hl => match us, hl with | [_, _], _ => rfl
  have F16 := fun_mk (st := sLTried) l16 c16 k16
  have b16 := F16.binds (ps := ["_law_thing"]) fun _ _ _ _ _ _ us hl => match us, hl with | [_], _ => rfl
  have F17 := fun_mk (st := sLDue) l17 c17 k17
  have b17 := F17.binds (ps := ["_law_thing"]) fun _ _ _ _ _ _ us hl => match us, hl with | [_], _ => rfl
  have F18 := fun_mk (st := sLaw) l18 c18 k18
  have Fm0 := fun_mk (st := sZone_init) lm0 cm0 km0
  have bm0 := Fm0.binds (ps := ["self", "values"]) fun _ _ _ _ _ _ us hl => match us, hl with | [_, _], _ => rfl
  have Fm1 := fun_mk (st := sZone_getitem) lm1 cm1 km1
  have bm1 := Fm1.binds (ps := ["self", "name"]) fun _ _ _ _ _ _ us hl => match us, hl with | [_, _], _ => rfl
  have Fm2 := fun_mk (st := sZone_names) lm2 cm2 km2
  have bm2 := Fm2.binds (ps := ["self"]) fun _ _ _ _ _ _ us hl => match us, hl with | [_], _ => rfl
  have B : Bi mg := ⟨PySem.W.mg_none_of X G z_len, PySem.W.mg_none_of X G z_int, PySem.W.mg_none_of X G z_abs, PySem.W.mg_none_of X G z_tuple, PySem.W.mg_none_of X G z_list, PySem.W.mg_none_of X G z_repr, PySem.W.mg_none_of X G z_range, PySem.W.mg_none_of X G z_sorted, PySem.W.mg_none_of X G z_sum, PySem.W.mg_none_of X G z_all, PySem.W.mg_none_of X G z_any, PySem.W.mg_none_of X G z_min, PySem.W.mg_none_of X G z_max, PySem.W.mg_none_of X G z_set, PySem.W.mg_none_of X G z_dict, PySem.W.mg_none_of X G z_zip, PySem.W.mg_none_of X G z_enumerate, PySem.W.mg_none_of X G z_reversed, PySem.W.mg_none_of X G z_str, PySem.W.mg_none_of X G z_type, PySem.W.mg_none_of X G z_isinstance, PySem.W.mg_none_of X G z_bool⟩
  have m_LETTERS : mg "LETTERS" = some (.str letS t_LETTERS) := PySem.W.mg_of X G v_LETTERS
  have m_MOST_LETTERS : mg "MOST_LETTERS" = some (.int 8 t_MOST_LETTERS) := PySem.W.mg_of X G v_MOST_LETTERS
  have m_MOST_VALUE : mg "MOST_VALUE" = some (.int 999 t_MOST_VALUE) := PySem.W.mg_of X G v_MOST_VALUE
  have m_MOST_NAMES : mg "MOST_NAMES" = some (.int 30 t_MOST_NAMES) := PySem.W.mg_of X G v_MOST_NAMES
  obtain ⟨Γ, hΓ⟩ : ∃ Γ : Gam, Γ = ⟨K, fun c => if c = "Zone" then some CZone else (if c = "Wrong" then some CWrong else (if c = "Full" then some CFull else (if c = "NoName" then some CNoName else (if c = "ListError" then some CListError else (none))))), none⟩ := ⟨_, rfl⟩
  have hK : Γ.K = K := by rw [hΓ]
  have g_Zone : Γ.cls "Zone" = some CZone := by rw [hΓ]; rfl
  have cl_Zone : Cls K CZone := ⟨p1_Zone, p2_Zone, p3_Zone, p4_Zone⟩
  have m_Zone : mg "Zone" = some (.ref CZone) := PySem.W.mg_of X G zc_Zone
  have O_Zone : OwnC Γ "Zone" CZone := ⟨g_Zone, hK ▸ cl_Zone, hK ▸ o1_Zone, hK ▸ o2, hK ▸ o3, hK ▸ o4_Zone⟩
  have h_Zone_its_values : Fld Γ "Zone" "its_values" := ⟨_, g_Zone, hK ▸ cl_Zone, hK ▸ na_Zone_its_values⟩
  have g_ListError : Γ.cls "ListError" = some CListError := by rw [hΓ]; rfl
  have m_ListError : mg "ListError" = some (.ref CListError) := PySem.W.mg_of X G zc_ListError
  have z_err : Γ.err = none := by rw [hΓ]
  have g_Wrong : Γ.cls "Wrong" = some CWrong := by rw [hΓ]; rfl
  have m_Wrong : mg "Wrong" = some (.ref CWrong) := PySem.W.mg_of X G zc_Wrong
  have E_Wrong : Er.ErrTxt l.prog K mg "Wrong" "place" CWrong eFWrong := ⟨m_Wrong, ⟨_, _, _, _, _, _, _, _, _, _, _, _, _, _, _, e1_Wrong, rfl⟩, e2_Wrong, e3_Wrong, e4_Wrong, e5_Wrong, e6_Wrong, e7_Wrong, e8_Wrong, e9_Wrong, e10_Wrong, e11_Wrong, ⟨_, _, _, _, _, _, _, _, _, _, _, _, _, _, _, _, _, _, _, _, _, _, rfl, e12_Wrong, e13_Wrong, ⟨_, _, _, _, _, _, e14_Wrong, e15_Wrong, e16_Wrong⟩, ⟨_, _, _, e17_Wrong⟩⟩, e18_Wrong, PySem.W.mg_none_of X G eS1, eS2, eS3, e19_Wrong, e20_Wrong, Er.fo_place⟩
  have X_Wrong : ExcC K CWrong := ⟨e3_Wrong, e4_Wrong, e9_Wrong, e11_Wrong, e21_Wrong, o2, o3, e22_Wrong⟩
  have Q_Wrong : PySem.W.exmOne K (.ref CWrong) (.ref CListError) = some true := PySem.W.exm_ref eS4 eS5 eS6 e23_Wrong
  have g_Full : Γ.cls "Full" = some CFull := by rw [hΓ]; rfl
  have m_Full : mg "Full" = some (.ref CFull) := PySem.W.mg_of X G zc_Full
  have E_Full : Er.ErrTxt l.prog K mg "Full" "limit" CFull eFFull := ⟨m_Full, ⟨_, _, _, _, _, _, _, _, _, _, _, _, _, _, _, e1_Full, rfl⟩, e2_Full, e3_Full, e4_Full, e5_Full, e6_Full, e7_Full, e8_Full, e9_Full, e10_Full, e11_Full, ⟨_, _, _, _, _, _, _, _, _, _, _, _, _, _, _, _, _, _, _, _, _, _, rfl, e12_Full, e13_Full, ⟨_, _, _, _, _, _, e14_Full, e15_Full, e16_Full⟩, ⟨_, _, _, e17_Full⟩⟩, e18_Full, PySem.W.mg_none_of X G eS1, eS2, eS3, e19_Full, e20_Full, Er.fo_limit⟩
  have X_Full : ExcC K CFull := ⟨e3_Full, e4_Full, e9_Full, e11_Full, e21_Full, o2, o3, e22_Full⟩
  have Q_Full : PySem.W.exmOne K (.ref CFull) (.ref CListError) = some true := PySem.W.exm_ref eS4 eS5 eS6 e23_Full
  have g_NoName : Γ.cls "NoName" = some CNoName := by rw [hΓ]; rfl
  have m_NoName : mg "NoName" = some (.ref CNoName) := PySem.W.mg_of X G zc_NoName
  have E_NoName : Er.ErrTxt l.prog K mg "NoName" "name" CNoName eFNoName := ⟨m_NoName, ⟨_, _, _, _, _, _, _, _, _, _, _, _, _, _, _, e1_NoName, rfl⟩, e2_NoName, e3_NoName, e4_NoName, e5_NoName, e6_NoName, e7_NoName, e8_NoName, e9_NoName, e10_NoName, e11_NoName, ⟨_, _, _, _, _, _, _, _, _, _, _, _, _, _, _, _, _, _, _, _, _, _, rfl, e12_NoName, e13_NoName, ⟨_, _, _, _, _, _, e14_NoName, e15_NoName, e16_NoName⟩, ⟨_, _, _, e17_NoName⟩⟩, e18_NoName, PySem.W.mg_none_of X G eS1, eS2, eS3, e19_NoName, e20_NoName, Er.fo_name⟩
  have X_NoName : ExcC K CNoName := ⟨e3_NoName, e4_NoName, e9_NoName, e11_NoName, e21_NoName, o2, o3, e22_NoName⟩
  have Q_NoName : PySem.W.exmOne K (.ref CNoName) (.ref CListError) = some true := PySem.W.exm_ref eS4 eS5 eS6 e23_NoName
  refine ⟨PySem.W.fnOf "law" "law" (defArgs sLaw) (defBody sLaw) (defScope sLaw) .none kV18 dc18 pm18 an18 cd18 ct18, fun s v => .of_eq rfl, fun base _ _ => ?_⟩
  have S_is_integerK : Fn l.prog w K mg base Γ 1 "is_integer" CKInt := ⟨_, _, _, ok_integerK hK F0 B , PySem.W.mg_of X G a0, k0, b0⟩
  have S_is_numberK : Fn l.prog w K mg base Γ 3 "is_number" CKNum := ⟨_, _, _, ok_numberK hK F1 B S_is_integerK (by decide), PySem.W.mg_of X G a1, k1, b1⟩
  have S_is_label : Fn l.prog w K mg base Γ 1 "is_label" (CPure rLabel) := ⟨_, _, _, ok_label hK F2 B m_LETTERS m_MOST_LETTERS, PySem.W.mg_of X G a2, k2, b2⟩
  have S_is_labelK : Fn l.prog w K mg base Γ 1 "is_label" CKLab := ⟨_, _, _, ok_labelK hK F2 B m_LETTERS m_MOST_LETTERS, PySem.W.mg_of X G a2, k2, b2⟩
  have S_is_name : Fn l.prog w K mg base Γ 3 "is_name" (CPure rName') := ⟨_, _, _, ok_name hK F3 B S_is_label (by decide), PySem.W.mg_of X G a3, k3, b3⟩
  have S_is_nameK : Fn l.prog w K mg base Γ 3 "is_name" CKName := ⟨_, _, _, ok_nameK hK F3 B S_is_labelK (by decide), PySem.W.mg_of X G a3, k3, b3⟩
  have S_is_full : Fn l.prog w K mg base Γ 5 "is_full" (CPure rFull) := ⟨_, _, _, ok_full hK F4 B S_is_name (by decide), PySem.W.mg_of X G a4, k4, b4⟩
  have S_is_fullK : Fn l.prog w K mg base Γ 5 "is_full" CKFull := ⟨_, _, _, ok_fullK hK F4 B S_is_nameK (by decide), PySem.W.mg_of X G a4, k4, b4⟩
  have S_is_valueK : Fn l.prog w K mg base Γ 5 "is_value" CKVal := ⟨_, _, _, ok_valueK hK F5 B S_is_numberK (by decide) m_MOST_VALUE, PySem.W.mg_of X G a5, k5, b5⟩
  have S_are_values : Fn l.prog w K mg base Γ 7 "are_values" (CValsG w) := ⟨_, _, _, ok_valuesG hK F6 B S_is_fullK (by decide) S_is_valueK (by decide) m_MOST_NAMES O_Zone e33_zd, PySem.W.mg_of X G a6, k6, b6⟩
  have S__law_take : Fn l.prog w K mg base Γ 1 "_law_take" CTake := ⟨_, _, _, ok_take hK F8 B , PySem.W.mg_of X G a8, k8, b8⟩
  have S__law_alike : Fn l.prog w K mg base Γ 1 "_law_alike" CAlike := ⟨_, _, _, ok_alike hK F9 B , PySem.W.mg_of X G a9, k9, b9⟩
  have S__law_pick : Fn l.prog w K mg base Γ 3 "_law_pick" (CBag APick RPick) := ⟨_, _, _, ok_pick hK F10 B S__law_take (by decide), PySem.W.mg_of X G a10, k10, b10⟩
  have S__law_pickV : Fn l.prog w K mg base Γ 3 "_law_pick" CPickV := ⟨_, _, _, ok_pickV hK F10 B S__law_take (by decide), PySem.W.mg_of X G a10, k10, b10⟩
  have S__law_mix : Fn l.prog w K mg base Γ 3 "_law_mix" (CBag AMix RMix) := ⟨_, _, _, ok_lmix hK F11 B S__law_take (by decide), PySem.W.mg_of X G a11, k11, b11⟩
  have S__law_labels : Fn l.prog w K mg base Γ 3 "_law_labels" (CBag ALabels RLabels) := ⟨_, _, _, ok_labels hK F12 B S__law_take (by decide), PySem.W.mg_of X G a12, k12, b12⟩
  have S__law_word : Fn l.prog w K mg base Γ 5 "_law_word" (CBag AWord RWord) := ⟨_, _, _, ok_word hK F13 B S__law_take (by decide) S__law_pick (by decide), PySem.W.mg_of X G a13, k13, b13⟩
  have S__law_names : Fn l.prog w K mg base Γ 7 "_law_names" (CBag ANamesZ RNamesZ) := ⟨_, _, _, ok_lnamesZ hK F14 B S__law_take (by decide) S__law_word (by decide) S__law_pickV (by decide), PySem.W.mg_of X G a14, k14, b14⟩
  have S__law_values : Fn l.prog w K mg base Γ 3 "_law_values" CLValues := ⟨_, _, _, ok_lvalues hK F15 B S__law_take (by decide), PySem.W.mg_of X G a15, k15, b15⟩
  have S__law_due : Fn l.prog w K mg base Γ 1 "_law_due" CDueZ := ⟨_, _, _, ok_ldueZ hK F17 B , PySem.W.mg_of X G a17, k17, b17⟩
  have M_Zone___init__ : Mak l.prog w K mg base Γ 9 "Zone" "Zone" (CZInitG w) := ⟨_, _, _, _, g_Zone, ⟨mk1_Zone, am0, im0, mk2_Zone⟩, m_Zone, (ok_zinitG hK Fm0 B S_are_values (by decide) h_Zone_its_values E_Wrong g_Wrong), bm0⟩
  have M_Zone_names : Mth l.prog w K mg base Γ 1 "Zone" "names" CZNames := ⟨_, _, _, _, g_Zone, cl_Zone, ⟨am2, im2, km2⟩, (ok_znames hK Fm2 B h_Zone_its_values), bm2⟩
  have M_Zone___getitem__ : Dn l.prog w K mg base Γ 7 "Zone" "__getitem__" CZGet := ⟨_, _, _, _, g_Zone, am1, im1, jm1, s1_Zone, s2_Zone, (ok_zget hK Fm1 B S_is_full (by decide) h_Zone_its_values), bm1⟩
  have S__law_tried : Fn l.prog w K mg base Γ 11 "_law_tried" (CTried w) := ⟨_, _, _, ok_ltried hK F16 B E_Wrong ⟨g_Wrong, X_Wrong, z_err, m_ListError, Q_Wrong, kit_self _ _⟩ M_Zone___init__ (by decide) M_Zone_names (by decide) M_Zone___getitem__ (by decide) g_Full m_Full g_NoName m_NoName e31_wf e32_wn, PySem.W.mg_of X G a16, k16, b16⟩
  exact ok_law hK F18 B (ok_bag (k := 0) F7 B) (by decide) (PySem.W.mg_of X G a7) k7 b7 S__law_take (by decide) S__law_labels (by decide) S__law_names (by decide) S__law_values (by decide) S__law_pickV (by decide) S__law_mix (by decide) S__law_due (by decide) S__law_tried (by decide) S__law_alike (by decide) M_Zone___init__ (by decide)
end Lm

open PySem PySem.W PyProof.Rows
set_option maxRecDepth 100000 in
set_option maxHeartbeats 0 in
theorem PySem.Challenge.cw_listnames_k17_zones_refused_holds : PySem.Challenge.rw_listnames_k17_zones_refused.Holds := by
  w_on; o_law; k_head; (case hw => w_witness2)
  k_fill
  refine Gd.walk_ofG (l := PySem.Challenge.rw_listnames_k17_zones_refused) (n := 63) (k := 13) (x := "_law_script") (CX := fun w => L2.CX PySem.Challenge.rw_listnames_k17_zones_refused.prog w) (sp := fun w => Lm.spLaw _) rfl (by decide) rfl ⟨rfl, by decide, by decide⟩ (fun w h Y => PySem.W.kIn_of Y) ?F (fun _ _ a ns hl _ hS => ⟨a, ns, rfl, hS, hl, fun _ => rfl⟩) (fun _ _ _ _ _ h => Lm.cx_no h)
  case F =>
    intro w mg fa h KX G hmg
    refine' Lm.all_mk KX G hmg ?a0 ?l0 ?c0 ?k0 ?a1 ?l1 ?c1 ?k1 ?a2 ?l2 ?c2 ?k2 ?a3 ?l3 ?c3 ?k3 ?a4 ?l4 ?c4 ?k4 ?a5 ?l5 ?c5 ?k5 ?a6 ?l6 ?c6 ?k6 ?a7 ?l7 ?c7 ?k7 ?a8 ?l8 ?c8 ?k8 ?a9 ?l9 ?c9 ?k9 ?a10 ?l10 ?c10 ?k10 ?a11 ?l11 ?c11 ?k11 ?a12 ?l12 ?c12 ?k12 ?a13 ?l13 ?c13 ?k13 ?a14 ?l14 ?c14 ?k14 ?a15 ?l15 ?c15 ?k15 ?a16 ?l16 ?c16 ?k16 ?a17 ?l17 ?c17 ?k17 ?a18 ?l18 ?c18 ?k18 ?am0 ?lm0 ?cm0 ?km0 ?im0 ?am1 ?lm1 ?cm1 ?km1 ?im1 ?jm1 ?am2 ?lm2 ?cm2 ?km2 ?im2 ?e1_Wrong ?e2_Wrong ?e3_Wrong ?e4_Wrong ?e5_Wrong ?e6_Wrong ?e7_Wrong ?e8_Wrong ?e9_Wrong ?e10_Wrong ?e11_Wrong ?e12_Wrong ?e13_Wrong ?e14_Wrong ?e15_Wrong ?e16_Wrong ?e17_Wrong ?e18_Wrong ?e19_Wrong ?e20_Wrong ?e21_Wrong ?e22_Wrong ?e23_Wrong ?e1_Full ?e2_Full ?e3_Full ?e4_Full ?e5_Full ?e6_Full ?e7_Full ?e8_Full ?e9_Full ?e10_Full ?e11_Full ?e12_Full ?e13_Full ?e14_Full ?e15_Full ?e16_Full ?e17_Full ?e18_Full ?e19_Full ?e20_Full ?e21_Full ?e22_Full ?e23_Full ?e1_NoName ?e2_NoName ?e3_NoName ?e4_NoName ?e5_NoName ?e6_NoName ?e7_NoName ?e8_NoName ?e9_NoName ?e10_NoName ?e11_NoName ?e12_NoName ?e13_NoName ?e14_NoName ?e15_NoName ?e16_NoName ?e17_NoName ?e18_NoName ?e19_NoName ?e20_NoName ?e21_NoName ?e22_NoName ?e23_NoName ?eS1 ?eS2 ?eS3 ?eS4 ?eS5 ?eS6 ?z_len ?z_int ?z_abs ?z_tuple ?z_list ?z_repr ?z_range ?z_sorted ?z_sum ?z_all ?z_any ?z_min ?z_max ?z_set ?z_dict ?z_zip ?z_enumerate ?z_reversed ?z_str ?z_type ?z_isinstance ?z_bool ?v_LETTERS ?v_MOST_LETTERS ?v_MOST_VALUE ?v_MOST_NAMES ?zc_ListError ?zc_Wrong ?zc_Full ?zc_NoName ?zc_Zone ?mk1_Zone ?mk2_Zone ?p1_Zone ?p2_Zone ?p3_Zone ?p4_Zone ?o1_Zone ?o4_Zone ?s1_Zone ?s2_Zone ?na_Zone_its_values ?o2 ?o3 ?e31_wf ?e32_wn ?e33_zd
    (case zc_ListError => k_is)
    (case zc_Wrong => k_is)
    (case zc_Full => k_is)
    (case zc_NoName => k_is)
    (case zc_Zone => k_is)
    (case a0 => k_is)
    (case l0 => k_is)
    (case c0 => k_is)
    (case k0 => k_is)
    (case a1 => k_is)
    (case l1 => k_is)
    (case c1 => k_is)
    (case k1 => k_is)
    (case a2 => k_is)
    (case l2 => k_is)
    (case c2 => k_is)
    (case k2 => k_is)
    (case a3 => k_is)
    (case l3 => k_is)
    (case c3 => k_is)
    (case k3 => k_is)
    (case a4 => k_is)
    (case l4 => k_is)
    (case c4 => k_is)
    (case k4 => k_is)
    (case a5 => k_is)
    (case l5 => k_is)
    (case c5 => k_is)
    (case k5 => k_is)
    (case a6 => k_is)
    (case l6 => k_is)
    (case c6 => k_is)
    (case k6 => k_is)
    (case a7 => k_is)
    (case l7 => k_is)
    (case c7 => k_is)
    (case k7 => k_is)
    (case a8 => k_is)
    (case l8 => k_is)
    (case c8 => k_is)
    (case k8 => k_is)
    (case a9 => k_is)
    (case l9 => k_is)
    (case c9 => k_is)
    (case k9 => k_is)
    (case a10 => k_is)
    (case l10 => k_is)
    (case c10 => k_is)
    (case k10 => k_is)
    (case a11 => k_is)
    (case l11 => k_is)
    (case c11 => k_is)
    (case k11 => k_is)
    (case a12 => k_is)
    (case l12 => k_is)
    (case c12 => k_is)
    (case k12 => k_is)
    (case a13 => k_is)
    (case l13 => k_is)
    (case c13 => k_is)
    (case k13 => k_is)
    (case a14 => k_is)
    (case l14 => k_is)
    (case c14 => k_is)
    (case k14 => k_is)
    (case a15 => k_is)
    (case l15 => k_is)
    (case c15 => k_is)
    (case k15 => k_is)
    (case a16 => k_is)
    (case l16 => k_is)
    (case c16 => k_is)
    (case k16 => k_is)
    (case a17 => k_is)
    (case l17 => k_is)
    (case c17 => k_is)
    (case k17 => k_is)
    (case a18 => k_is)
    (case l18 => k_is)
    (case c18 => k_is)
    (case k18 => k_is)
    (case am0 => k_is)
    (case lm0 => k_is)
    (case cm0 => k_is)
    (case km0 => k_is)
    (case im0 => k_is)
    (case am1 => k_is)
    (case lm1 => k_is)
    (case cm1 => k_is)
    (case km1 => k_is)
    (case im1 => k_is)
    (case jm1 => k_is)
    (case am2 => k_is)
    (case lm2 => k_is)
    (case cm2 => k_is)
    (case km2 => k_is)
    (case im2 => k_is)
    (case e1_Wrong => first | k_is | rfl | decide +kernel)
    (case e2_Wrong => first | k_is | rfl | decide +kernel)
    (case e3_Wrong => first | k_is | rfl | decide +kernel)
    (case e4_Wrong => first | k_is | rfl | decide +kernel)
    (case e5_Wrong => first | k_is | rfl | decide +kernel)
    (case e6_Wrong => first | k_is | rfl | decide +kernel)
    (case e7_Wrong => first | k_is | rfl | decide +kernel)
    (case e8_Wrong => first | k_is | rfl | decide +kernel)
    (case e9_Wrong => first | k_is | rfl | decide +kernel)
    (case e10_Wrong => first | k_is | rfl | decide +kernel)
    (case e11_Wrong => first | k_is | rfl | decide +kernel)
    (case e12_Wrong => first | k_is | rfl | decide +kernel)
    (case e13_Wrong => first | k_is | rfl | decide +kernel)
    (case e14_Wrong => first | k_is | rfl | decide +kernel)
    (case e15_Wrong => first | k_is | rfl | decide +kernel)
    (case e16_Wrong => first | k_is | rfl | decide +kernel)
    (case e17_Wrong => first | k_is | rfl | decide +kernel)
    (case e18_Wrong => first | k_is | rfl | decide +kernel)
    (case e19_Wrong => first | k_is | rfl | decide +kernel)
    (case e20_Wrong => first | k_is | rfl | decide +kernel)
    (case e21_Wrong => first | k_is | rfl | decide +kernel)
    (case e22_Wrong => first | k_is | rfl | decide +kernel)
    (case e23_Wrong => first | k_is | rfl | decide +kernel)
    (case e1_Full => first | k_is | rfl | decide +kernel)
    (case e2_Full => first | k_is | rfl | decide +kernel)
    (case e3_Full => first | k_is | rfl | decide +kernel)
    (case e4_Full => first | k_is | rfl | decide +kernel)
    (case e5_Full => first | k_is | rfl | decide +kernel)
    (case e6_Full => first | k_is | rfl | decide +kernel)
    (case e7_Full => first | k_is | rfl | decide +kernel)
    (case e8_Full => first | k_is | rfl | decide +kernel)
    (case e9_Full => first | k_is | rfl | decide +kernel)
    (case e10_Full => first | k_is | rfl | decide +kernel)
    (case e11_Full => first | k_is | rfl | decide +kernel)
    (case e12_Full => first | k_is | rfl | decide +kernel)
    (case e13_Full => first | k_is | rfl | decide +kernel)
    (case e14_Full => first | k_is | rfl | decide +kernel)
    (case e15_Full => first | k_is | rfl | decide +kernel)
    (case e16_Full => first | k_is | rfl | decide +kernel)
    (case e17_Full => first | k_is | rfl | decide +kernel)
    (case e18_Full => first | k_is | rfl | decide +kernel)
    (case e19_Full => first | k_is | rfl | decide +kernel)
    (case e20_Full => first | k_is | rfl | decide +kernel)
    (case e21_Full => first | k_is | rfl | decide +kernel)
    (case e22_Full => first | k_is | rfl | decide +kernel)
    (case e23_Full => first | k_is | rfl | decide +kernel)
    (case e1_NoName => first | k_is | rfl | decide +kernel)
    (case e2_NoName => first | k_is | rfl | decide +kernel)
    (case e3_NoName => first | k_is | rfl | decide +kernel)
    (case e4_NoName => first | k_is | rfl | decide +kernel)
    (case e5_NoName => first | k_is | rfl | decide +kernel)
    (case e6_NoName => first | k_is | rfl | decide +kernel)
    (case e7_NoName => first | k_is | rfl | decide +kernel)
    (case e8_NoName => first | k_is | rfl | decide +kernel)
    (case e9_NoName => first | k_is | rfl | decide +kernel)
    (case e10_NoName => first | k_is | rfl | decide +kernel)
    (case e11_NoName => first | k_is | rfl | decide +kernel)
    (case e12_NoName => first | k_is | rfl | decide +kernel)
    (case e13_NoName => first | k_is | rfl | decide +kernel)
    (case e14_NoName => first | k_is | rfl | decide +kernel)
    (case e15_NoName => first | k_is | rfl | decide +kernel)
    (case e16_NoName => first | k_is | rfl | decide +kernel)
    (case e17_NoName => first | k_is | rfl | decide +kernel)
    (case e18_NoName => first | k_is | rfl | decide +kernel)
    (case e19_NoName => first | k_is | rfl | decide +kernel)
    (case e20_NoName => first | k_is | rfl | decide +kernel)
    (case e21_NoName => first | k_is | rfl | decide +kernel)
    (case e22_NoName => first | k_is | rfl | decide +kernel)
    (case e23_NoName => first | k_is | rfl | decide +kernel)
    (case eS1 => first | k_is | rfl | decide +kernel)
    (case eS2 => first | k_is | rfl | decide +kernel)
    (case eS3 => first | k_is | rfl | decide +kernel)
    (case eS4 => first | k_is | rfl | decide +kernel)
    (case eS5 => first | k_is | rfl | decide +kernel)
    (case eS6 => first | k_is | rfl | decide +kernel)
    (case z_len => k_is)
    (case z_int => k_is)
    (case z_abs => k_is)
    (case z_tuple => k_is)
    (case z_list => k_is)
    (case z_repr => k_is)
    (case z_range => k_is)
    (case z_sorted => k_is)
    (case z_sum => k_is)
    (case z_all => k_is)
    (case z_any => k_is)
    (case z_min => k_is)
    (case z_max => k_is)
    (case z_set => k_is)
    (case z_dict => k_is)
    (case z_zip => k_is)
    (case z_enumerate => k_is)
    (case z_reversed => k_is)
    (case z_str => k_is)
    (case z_type => k_is)
    (case z_isinstance => k_is)
    (case z_bool => k_is)
    (case v_LETTERS => k_is)
    (case v_MOST_LETTERS => k_is)
    (case v_MOST_VALUE => k_is)
    (case v_MOST_NAMES => k_is)
    (case mk1_Zone => k_is)
    (case mk2_Zone => k_is)
    (case p1_Zone => k_is)
    (case p2_Zone => k_is)
    (case p3_Zone => k_is)
    (case p4_Zone => k_is)
    (case o1_Zone => k_is)
    (case o4_Zone => k_is)
    (case s1_Zone => k_is)
    (case s2_Zone => k_is)
    (case na_Zone_its_values => k_is)
    (case o2 => k_is)
    (case o3 => k_is)
    (case e31_wf => first | k_is | rfl | decide +kernel)
    (case e32_wn => first | k_is | rfl | decide +kernel)
    (case e33_zd => first | k_is | rfl | decide +kernel)
