import PyProof.Rows.All
import Wide.All
import OpenK.AllK
import Wide.FinOn
import KE.KeyNested
import HandS.SetTxt0
import HandS.Set
import HandS.ForMost
import HandS.TupAny
import HandS.TupMul
import HandS.Deep
import HandS.Flow
import HandS.Walk
import HandS.Exc
import HandS.Ends
import HandS.IsInst
import HandS.Conv
import HandS.HotCalls
import HandS.More
import KE.KOpsOwn
import HandS.Small
import HandS.TupLen
import HandS.DictComp
import KE.SortData
import KE.KDictPairs
import HandS.DictEq
import HandS.OwnEq
import PyProof.AssignAttr
import HandS.TupSets
import PyProof.WalksMore
import PyProof.FactsAll.subtypes_4
import HandS.Zip
import HandS.MakeKwOnly
import HandS.Property
import HandS.Star
import HandS.Style
import HandS.DictTup
import PyProof.SumAny
import PyProof.Rows.SumAny
import HandS.Defaults
import KE.SortKeyHeap
import KE.KExcSuper
import HandS.ExcField
import HandS.ExcIs
import HandS.ExcValue
import HandS.ExcInit
import HandS.StrMore
import HandS.Replace
import PyProof.FactsAll.str_4
import PyProof.FactsAll.str_7
import PyProof.EqKinds
import PyProof.P3Eq
import HandS.RevTup
import HandS.Strs
import PyProof.DictRoadsH
import PyProof.DictTable
import HandS.SetBool
import PyProof.Rows.Range3
import PyProof.Conv_bool
import KE.KDictList
import PyProof.StrWalks
import KE.KRevSl
import KE.DataMinMax
import KE.GoesEnum
import HandS.List
import PyProof.ReprRoads
import PySem.Challenge.RW_listnames_k12_errors_apart
set_option Elab.async false
set_option linter.all false
set_option maxRecDepth 100000
/-! Me0: dicts by nested keys (None, tuples of anything): find, get, set. -/
namespace Me
open PySem PySem.Spec PyProof.Rows
/-- None or a tuple -/
def hdK : NestedKey → Bool
  | .none => true
  | .tup _ => true
  | _ => false
structure KeyAt (h : Heap) (k : NestedKey) (v : Value) : Prop where
  is : NestedIs h k v
  sh : hdK k = true
  dp : k.depth ≤ 8
abbrev NEt := NestedKey × Value × Value
def entN (w : World) (x : NEt) : DictEntry := ⟨x.1.hash w, x.2.1, x.2.2⟩
section
variable {prog : Program} {w : World} {A : Around} {E : Value → Shared → Prop} {s : Shared}
/-- the dict at d: its entries -/
def DictN (w : World) (h : Heap) (d : Addr) (xs : List NEt) : Prop :=
  ∃ o es ep, h.get? d = some o ∧ o.ExactDict ∧ o.data = .dict es ep ∧ es.toList = xs.map (entN w)
def AllKey (h : Heap) (xs : List NEt) : Prop := (∀ x ∈ xs, KeyAt h x.1 x.2.1) ∧ (xs.map (·.1)).Nodup
def atN (xs : List NEt) (k : NestedKey) : Option Value := (xs.find? fun x => decide (x.1 = k)).map (·.2.2)
def setN (xs : List NEt) (k : NestedKey) (kv v : Value) : List NEt := if (atN xs k).isSome then xs.map (fun x => if x.1 = k then (x.1, x.2.1, v) else x) else xs ++ [(k, kv, v)]
theorem KeyAt.toks {h : Shared} {t : Nat} {k : NestedKey} {v : Value} (x : KeyAt h.heap k v) : KeyAt ({ h with toks := t } : Shared).heap k v := x
end
end Me

/-! Me1: values, cells, worlds. -/
namespace Me
open PySem PySem.Spec PyProof.Rows L2

/-- the set at a has the texts l, its table can be walked -/
structure TxSet (P : Program) (w : World) (h : Heap) (a : Addr) (l : List Str) : Prop where
  ex : ∃ D : Froz.SD, h.get? a = some (Froz.sObj "set" D) ∧ Froz.TxOk P w D l ∧ L2.Ris D.2.2.place.toList ∧ (w.params.followText "set-order" = true ∨ D.2.2.led = true)
theorem TxSet.keep {P : Program} {w : World} {h h' : Heap} {a : Addr} {l : List Str} (R : TxSet P w h a l) (k : ∀ o, h.get? a = some o → h'.get? a = some o) : TxSet P w h' a l := by
  obtain ⟨D, ho, r⟩ := R.ex
  exact ⟨D, k _ ho, r⟩
/-- a set of texts -/
def TSo (P : Program) (w : World) (a : Addr) (l : List Str) : HO := .ext fun h => TxSet P w h a l
/-- a key: an int, a text; a tuple of these -/
inductive DK where
  | k (x : Key)
  | t (x : List Key)
  deriving DecidableEq
/-- a value: data; frozen lists, dicts (by keys, by tuples), instances; a cell -/
inductive D where
  | non | bl (b : Bool) | int (i : Int) | str (x : Str)
  | lst (ds : List D) | tup (ds : List D)
  | dct (t : Bool) (kvs : List (DK × D))
  | ins (c : String) (fs : List (Str × D))
  | err (c : String) (fs : List (Str × D))
  | ty (n : String)
  | cls (c : String)
  | cell (j : Nat)
  | tpx (xs : List Str)
  deriving Inhabited
/-- a thing that changes -/
inductive Cell where
  | lst (ds : List D)
  | dct (t : Bool) (lk : Option HO) (kvs : List (DK × D))
  | ins (c : String) (fs : List (Str × D))
  | dead
  | gd (w : World) (kvs : List (NestedKey × Int))
  | ts (P : Program) (w : World) (l : List Str)
  | gl (w : World) (q : HO) (kvs : List (NestedKey × Int))
abbrev Mu := List Cell
abbrev En := List (Option D)
mutual
def D.refs : D → List Nat
  | .lst ds => D.refsL ds
  | .tup ds => D.refsL ds
  | .dct _ kvs => D.refsP kvs
  | .ins _ fs => D.refsF fs
  | .err _ fs => D.refsF fs
  | .cell j => [j]
  | .tpx _ => [] | .ty _ => [] | .cls _ => [] | .non => [] | .bl _ => [] | .int _ => [] | .str _ => []
def D.refsL : List D → List Nat
  | [] => []
  | d :: ds => d.refs ++ D.refsL ds
def D.refsP : List (DK × D) → List Nat
  | [] => []
  | (_, d) :: ds => d.refs ++ D.refsP ds
def D.refsF : List (Str × D) → List Nat
  | [] => []
  | (_, d) :: ds => d.refs ++ D.refsF ds
end
def Cell.refs : Cell → List Nat
  | .lst ds => D.refsL ds
  | .dct _ _ kvs => D.refsP kvs
  | .ins _ fs => D.refsF fs
  | .dead => []
  | .gd _ _ => []
  | .ts _ _ _ => []
  | .gl _ _ _ => []
def keyD : Key → D
  | .inl i => .int i
  | .inr x => .str x

/-- the written part, the classes by name -/
structure Gam where
  K : PySem.W.Frag
  cls : String → Option Addr
  err : Option (Option (Addr × Addr × Option Addr))
/-- an exception that is kept -/
def ErO (a C : Addr) (d : Option Addr) : HO := .ext fun h => ∃ o vs, h.get? a = some o ∧ o.cls = .ref C ∧ o.dict = d ∧ o.data = .fields vs
/-- where a cell lies, and as what it is locked -/
structure Ad where
  a : Addr
  lk : Option HO
mutual
inductive DV (Γ : Gam) (F : Hp) (as : List Ad) : V → D → Prop
  | non : DV Γ F as .non .non
  | bl (b : Bool) : DV Γ F as (.bl b) (.bl b)
  | int (i : Int) : DV Γ F as (.int i) (.int i)
  | str (x : Str) : DV Γ F as (.str x) (.str x)
  | lst {a : Addr} {vs : List V} {ds : List D} : F a = some (.lst vs) → DVs Γ F as vs ds → DV Γ F as (.ref a) (.lst ds)
  | tup {a : Addr} {vs : List V} {ds : List D} : F a = some (.tup vs) → DVs Γ F as vs ds → DV Γ F as (.ref a) (.tup ds)
  | dctK {a : Addr} {od : Obj} {vs : List (Key × V)} {kvs : List (DK × D)} : F a = some (.frz od (.dK vs)) → DKs Γ F as vs kvs → DV Γ F as (.ref a) (.dct false kvs)
  | dctT {a : Addr} {od : Obj} {vs : List (List Key × V)} {kvs : List (DK × D)} : F a = some (.frz od (.dT vs)) → DTs Γ F as vs kvs → DV Γ F as (.ref a) (.dct true kvs)
  | ins {a C dx : Addr} {vs : List (Str × V)} {c : String} {fs : List (Str × D)} : F a = some (.ins C dx vs) → Γ.cls c = some C → DFs Γ F as vs fs → DV Γ F as (.ref a) (.ins c fs)
  | err0 {a C : Addr} {dx : Option Addr} {c : String} : Γ.err = some (some (a, C, dx)) → Γ.cls c = some C → DV Γ F as (.ref a) (.err c [])
  | err1 {a C dx : Addr} {vs : List (Str × V)} {c : String} {fs : List (Str × D)} : Γ.err = some (some (a, C, some dx)) → Γ.cls c = some C → F dx = some (.xd vs) → DFs Γ F as vs fs → DV Γ F as (.ref a) (.err c fs)
  | err2 {a C : Addr} {c : String} : Γ.err = some none → Γ.cls c = some C → F a = some (ErO a C none) → DV Γ F as (.ref a) (.err c [])
  | err3 {a C dx : Addr} {vs : List (Str × V)} {c : String} {fs : List (Str × D)} : Γ.err = some none → Γ.cls c = some C → F a = some (ErO a C (some dx)) → F dx = some (.xd vs) → DFs Γ F as vs fs → DV Γ F as (.ref a) (.err c fs)
  | ty (n : String) : DV Γ F as (.ty n) (.ty n)
  | cls {C : Addr} {c : String} : Γ.cls c = some C → DV Γ F as (.ref C) (.cls c)
  | cell {j : Nat} {ad : Ad} : as[j]? = some ad → DV Γ F as (.ref ad.a) (.cell j)
  | tpx {a : Addr} {od : Obj} {xs : List Str} : F a = some (.frz od (.tup (xs.map V.str))) → od.dict = none → DV Γ F as (.ref a) (.tpx xs)
inductive DVs (Γ : Gam) (F : Hp) (as : List Ad) : List V → List D → Prop
  | nil : DVs Γ F as [] []
  | cons {v : V} {vs : List V} {d : D} {ds : List D} : DV Γ F as v d → DVs Γ F as vs ds → DVs Γ F as (v :: vs) (d :: ds)
inductive DKs (Γ : Gam) (F : Hp) (as : List Ad) : List (Key × V) → List (DK × D) → Prop
  | nil : DKs Γ F as [] []
  | cons {k : Key} {v : V} {vs : List (Key × V)} {d : D} {ds : List (DK × D)} : DV Γ F as v d → DKs Γ F as vs ds → DKs Γ F as ((k, v) :: vs) ((.k k, d) :: ds)
inductive DTs (Γ : Gam) (F : Hp) (as : List Ad) : List (List Key × V) → List (DK × D) → Prop
  | nil : DTs Γ F as [] []
  | cons {k : List Key} {v : V} {vs : List (List Key × V)} {d : D} {ds : List (DK × D)} : DV Γ F as v d → DTs Γ F as vs ds → DTs Γ F as ((k, v) :: vs) ((.t k, d) :: ds)
inductive DFs (Γ : Gam) (F : Hp) (as : List Ad) : List (Str × V) → List (Str × D) → Prop
  | nil : DFs Γ F as [] []
  | cons {f : Str} {v : V} {vs : List (Str × V)} {d : D} {ds : List (Str × D)} : DV Γ F as v d → DFs Γ F as vs ds → DFs Γ F as ((f, v) :: vs) ((f, d) :: ds)
end
theorem Rd.to {F F' : Hp} (s : Same F F') {a : Addr} {o : HO} (h : Rd F a o) : Rd F' a o := by
  rcases h with h | ⟨q, h⟩
  · exact .inl (s _ _ h)
  · exact .inr ⟨q, s _ _ h⟩
theorem SqL.to {K : PySem.W.Frag} {F F' : Hp} (s : Same F F') {a : Addr} {xs : List V} (h : SqL K F a xs) : SqL K F' a xs := by
  rcases h with h | h
  · exact .inl (Rd.to s h)
  · exact .inr h
theorem SqT.to {K : PySem.W.Frag} {F F' : Hp} (s : Same F F') {a : Addr} {xs : List V} (h : SqT K F a xs) : SqT K F' a xs := by
  rcases h with h | h
  · exact .inl (Rd.to s h)
  · exact .inr h
/-- places that stay -/
def Kp (as as' : List Ad) (js : List Nat) : Prop := ∀ j ∈ js, ∀ ad, as[j]? = some ad → as'[j]? = some ad
theorem Kp.l {as as' : List Ad} {a b : List Nat} (h : Kp as as' (a ++ b)) : Kp as as' a := fun j hj => h j (List.mem_append_left _ hj)
theorem Kp.r {as as' : List Ad} {a b : List Nat} (h : Kp as as' (a ++ b)) : Kp as as' b := fun j hj => h j (List.mem_append_right _ hj)
section
variable {Γ : Gam} {F F' : Hp} {as as' : List Ad}
mutual
theorem DV.to (s : Same F F') {v : V} {d : D} (h : DV Γ F as v d) (k : Kp as as' d.refs) : DV Γ F' as' v d := by
  cases h with
  | non => exact .non
  | bl b => exact .bl b
  | int i => exact .int i
  | str x => exact .str x
  | lst h1 h2 => exact .lst (s _ _ h1) (DVs.to s h2 (by simpa only [D.refs] using k))
  | tup h1 h2 => exact .tup (s _ _ h1) (DVs.to s h2 (by simpa only [D.refs] using k))
  | dctK h1 h2 => exact .dctK (s _ _ h1) (DKs.to s h2 (by simpa only [D.refs] using k))
  | dctT h1 h2 => exact .dctT (s _ _ h1) (DTs.to s h2 (by simpa only [D.refs] using k))
  | ins h1 hc h2 => exact .ins (s _ _ h1) hc (DFs.to s h2 (by simpa only [D.refs] using k))
  | err0 h1 hc => exact .err0 h1 hc
  | err2 h1 hc h2 => exact .err2 h1 hc (s _ _ h2)
  | ty n => exact .ty n
  | cls hc => exact .cls hc
  | err1 h0 hc h1 h2 => exact .err1 h0 hc (s _ _ h1) (DFs.to s h2 (by simpa only [D.refs] using k))
  | err3 h0 hc h3 h1 h2 => exact .err3 h0 hc (s _ _ h3) (s _ _ h1) (DFs.to s h2 (by simpa only [D.refs] using k))
  | cell h => exact .cell (k _ (by simp [D.refs]) _ h)
  | tpx h1 h2 => exact .tpx (s _ _ h1) h2
theorem DVs.to (s : Same F F') {vs : List V} {ds : List D} (h : DVs Γ F as vs ds) (k : Kp as as' (D.refsL ds)) : DVs Γ F' as' vs ds := by
  cases h with
  | nil => exact .nil
  | cons h1 h2 =>
    rw [D.refsL] at k
    exact .cons (DV.to s h1 k.l) (DVs.to s h2 k.r)
theorem DKs.to (s : Same F F') {vs : List (Key × V)} {ds : List (DK × D)} (h : DKs Γ F as vs ds) (k : Kp as as' (D.refsP ds)) : DKs Γ F' as' vs ds := by
  cases h with
  | nil => exact .nil
  | cons h1 h2 =>
    rw [D.refsP] at k
    exact .cons (DV.to s h1 k.l) (DKs.to s h2 k.r)
theorem DTs.to (s : Same F F') {vs : List (List Key × V)} {ds : List (DK × D)} (h : DTs Γ F as vs ds) (k : Kp as as' (D.refsP ds)) : DTs Γ F' as' vs ds := by
  cases h with
  | nil => exact .nil
  | cons h1 h2 =>
    rw [D.refsP] at k
    exact .cons (DV.to s h1 k.l) (DTs.to s h2 k.r)
theorem DFs.to (s : Same F F') {vs : List (Str × V)} {ds : List (Str × D)} (h : DFs Γ F as vs ds) (k : Kp as as' (D.refsF ds)) : DFs Γ F' as' vs ds := by
  cases h with
  | nil => exact .nil
  | cons h1 h2 =>
    rw [D.refsF] at k
    exact .cons (DV.to s h1 k.l) (DFs.to s h2 k.r)
end
/-- what a value speaks of is there -/
def Lw (as : List Ad) (js : List Nat) : Prop := ∀ j ∈ js, j < as.length
theorem Lw.app {as : List Ad} {a b : List Nat} (h : Lw as a) (h' : Lw as b) : Lw as (a ++ b) := fun j hj => by
  rcases List.mem_append.mp hj with z | z
  · exact h j z
  · exact h' j z
theorem Lw.nil {as : List Ad} : Lw as [] := fun _ h => nomatch h
mutual
theorem DV.low {v : V} {d : D} (h : DV Γ F as v d) : Lw as d.refs := by
  cases h with
  | non => exact Lw.nil
  | bl b => exact Lw.nil
  | int i => exact Lw.nil
  | str x => exact Lw.nil
  | lst h1 h2 => rw [D.refs]; exact DVs.low h2
  | tup h1 h2 => rw [D.refs]; exact DVs.low h2
  | dctK h1 h2 => rw [D.refs]; exact DKs.low h2
  | dctT h1 h2 => rw [D.refs]; exact DTs.low h2
  | ins h1 hc h2 => rw [D.refs]; exact DFs.low h2
  | err0 h1 hc => rw [D.refs, D.refsF]; exact Lw.nil
  | err2 _ _ _ => rw [D.refs, D.refsF]; exact Lw.nil
  | ty n => rw [D.refs]; exact Lw.nil
  | tpx _ _ => rw [D.refs]; exact Lw.nil
  | cls hc => rw [D.refs]; exact Lw.nil
  | err1 h0 hc h1 h2 => rw [D.refs]; exact DFs.low h2
  | err3 h0 hc h3 h1 h2 => rw [D.refs]; exact DFs.low h2
  | cell h =>
    intro i hi
    rw [D.refs] at hi
    obtain rfl := List.mem_singleton.mp hi
    exact (List.getElem?_eq_some_iff.mp h).1
theorem DVs.low {vs : List V} {ds : List D} (h : DVs Γ F as vs ds) : Lw as (D.refsL ds) := by
  cases h with
  | nil => exact Lw.nil
  | cons h1 h2 => rw [D.refsL]; exact (DV.low h1).app (DVs.low h2)
theorem DKs.low {vs : List (Key × V)} {ds : List (DK × D)} (h : DKs Γ F as vs ds) : Lw as (D.refsP ds) := by
  cases h with
  | nil => exact Lw.nil
  | cons h1 h2 => rw [D.refsP]; exact (DV.low h1).app (DKs.low h2)
theorem DTs.low {vs : List (List Key × V)} {ds : List (DK × D)} (h : DTs Γ F as vs ds) : Lw as (D.refsP ds) := by
  cases h with
  | nil => exact Lw.nil
  | cons h1 h2 => rw [D.refsP]; exact (DV.low h1).app (DTs.low h2)
theorem DFs.low {vs : List (Str × V)} {ds : List (Str × D)} (h : DFs Γ F as vs ds) : Lw as (D.refsF ds) := by
  cases h with
  | nil => exact Lw.nil
  | cons h1 h2 => rw [D.refsF]; exact (DV.low h1).app (DFs.low h2)
end
/-! ### lists of values -/
theorem DVs.length : ∀ {vs : List V} {ds : List D}, DVs Γ F as vs ds → vs.length = ds.length
  | _, _, .nil => rfl
  | _, _, .cons _ t => congrArg (· + 1) t.length
theorem DVs.get : ∀ {vs : List V} {ds : List D} {i : Nat} {d : D}, DVs Γ F as vs ds → ds[i]? = some d → ∃ v, vs[i]? = some v ∧ DV Γ F as v d
  | _, _, _, _, .nil, e => by simp at e
  | _, _, 0, _, .cons h _, e => by simp at e; subst e; exact ⟨_, rfl, h⟩
  | _, _, i + 1, d, .cons _ t, e => by
    obtain ⟨v, h1, h2⟩ := DVs.get (i := i) (d := d) t (by simpa using e)
    exact ⟨v, by simpa using h1, h2⟩
theorem DVs.getV : ∀ {vs : List V} {ds : List D} {i : Nat} {v : V}, DVs Γ F as vs ds → vs[i]? = some v → ∃ d, ds[i]? = some d ∧ DV Γ F as v d
  | _, _, _, _, .nil, e => by simp at e
  | _, _, 0, _, .cons h _, e => by simp at e; subst e; exact ⟨_, rfl, h⟩
  | _, _, i + 1, v, .cons _ t, e => by
    obtain ⟨d, h1, h2⟩ := DVs.getV (i := i) (v := v) t (by simpa using e)
    exact ⟨d, by simpa using h1, h2⟩
theorem DVs.append : ∀ {vs ws : List V} {ds es : List D}, DVs Γ F as vs ds → DVs Γ F as ws es → DVs Γ F as (vs ++ ws) (ds ++ es)
  | _, _, _, _, .nil, h => h
  | _, _, _, _, .cons h t, h' => .cons h (t.append h')
theorem DVs.take : ∀ {vs : List V} {ds : List D} (n : Nat), DVs Γ F as vs ds → DVs Γ F as (vs.take n) (ds.take n)
  | _, _, 0, _ => .nil
  | _, _, _ + 1, .nil => .nil
  | _, _, n + 1, .cons h t => .cons h (t.take n)
theorem DVs.drop : ∀ {vs : List V} {ds : List D} (n : Nat), DVs Γ F as vs ds → DVs Γ F as (vs.drop n) (ds.drop n)
  | _, _, 0, h => h
  | _, _, _ + 1, .nil => .nil
  | _, _, n + 1, .cons _ t => t.drop n
theorem DVs.reverse : ∀ {vs : List V} {ds : List D}, DVs Γ F as vs ds → DVs Γ F as vs.reverse ds.reverse
  | _, _, .nil => .nil
  | _, _, .cons h t => by
    rw [List.reverse_cons, List.reverse_cons]
    exact t.reverse.append (.cons h .nil)
theorem DVs.rep {vs : List V} {ds : List D} (h : DVs Γ F as vs ds) : ∀ n : Nat, DVs Γ F as (List.replicate n vs).flatten (List.replicate n ds).flatten
  | 0 => .nil
  | n + 1 => by
    rw [List.replicate_succ, List.replicate_succ, List.flatten_cons, List.flatten_cons]
    exact h.append (h.rep n)
theorem DVs.set {v : V} {d : D} (h : DV Γ F as v d) : ∀ {vs : List V} {ds : List D} (i : Nat), DVs Γ F as vs ds → DVs Γ F as (vs.set i v) (ds.set i d)
  | _, _, _, .nil => .nil
  | _, _, 0, .cons _ t => .cons h t
  | _, _, i + 1, .cons q t => .cons q (t.set h i)
theorem DVs.dropLast {vs : List V} {ds : List D} (h : DVs Γ F as vs ds) : DVs Γ F as vs.dropLast ds.dropLast := by
  rw [List.dropLast_eq_take, List.dropLast_eq_take, h.length]
  exact h.take _
theorem DVs.ofInts : ∀ ns : List Int, DVs Γ F as (ns.map V.int) (ns.map D.int)
  | [] => .nil
  | n :: ns => .cons (.int n) (DVs.ofInts ns)
end

/-! ### cells -/
mutual
/-- a key of a dict by nested keys -/
inductive NkV (F : Hp) : NestedKey → V → Prop
  | none : NkV F .none .non
  | bool (b : Bool) : NkV F (.num (if b = true then 1 else 0)) (.bl b)
  | int (i : Int) : NkV F (.num i) (.int i)
  | text (x : Str) : NkV F (.text x) (.str x)
  | tup {a : Addr} {vs : List V} {ks : List NestedKey} : F a = some (.tup vs) → NkVs F ks vs → NkV F (.tup ks) (.ref a)
inductive NkVs (F : Hp) : List NestedKey → List V → Prop
  | nil : NkVs F [] []
  | cons {k : NestedKey} {v : V} {ks : List NestedKey} {vs : List V} : NkV F k v → NkVs F ks vs → NkVs F (k :: ks) (v :: vs)
end
mutual
theorem NkV.to {F F' : Hp} (s : Same F F') : ∀ {k : NestedKey} {v : V}, NkV F k v → NkV F' k v
  | _, _, .none => .none
  | _, _, .bool b => .bool b
  | _, _, .int i => .int i
  | _, _, .text x => .text x
  | _, _, .tup h t => .tup (s _ _ h) (NkVs.to s t)
theorem NkVs.to {F F' : Hp} (s : Same F F') : ∀ {ks : List NestedKey} {vs : List V}, NkVs F ks vs → NkVs F' ks vs
  | _, _, .nil => .nil
  | _, _, .cons h t => .cons (NkV.to s h) (NkVs.to s t)
end
abbrev NV := NestedKey × V × Int
/-- the dict at a: its keys, their values, numbers -/
def GDo (w : World) (a : Addr) (xs : List NV) : HO := .ext fun h => (a == sysModules) = false ∧ ∃ us : List NEt, DictN w h a us ∧ Paired (fun (x : NV) (u : NEt) => x.1 = u.1 ∧ RelV x.2.1 u.2.1 ∧ RelV (.int x.2.2) u.2.2) xs us
structure GKeys (F : Hp) (xs : List NV) : Prop where
  key : ∀ x ∈ xs, NkV F x.1 x.2.1 ∧ hdK x.1 = true ∧ x.1.depth ≤ 8
  nd : (xs.map (·.1)).Nodup
section
variable (Γ : Gam)
/-- a thing at a place, locked or not -/
def LkOk (ad : Ad) (H : Hp) (o : HO) : Option HO → Prop
  | some q => H ad.a = some q ∧ ∃ od, q = .frz od o
  | none => H ad.a = some o
def CellOk (F H : Hp) (as : List Ad) (ad : Ad) : Cell → Prop
  | .lst ds => ad.lk = none ∧ F ad.a = none ∧ ∃ vs, H ad.a = some (.lst vs) ∧ DVs Γ F as vs ds
  | .dct false lk kvs => F ad.a = none ∧ ∃ vs, LkOk ad H (.dK vs) lk ∧ DKs Γ F as vs kvs
  | .dct true lk kvs => F ad.a = none ∧ ∃ vs, LkOk ad H (.dT vs) lk ∧ DTs Γ F as vs kvs
  | .ins c fs => ad.lk = none ∧ F ad.a = none ∧ ∃ C dx vs, Γ.cls c = some C ∧ H ad.a = some (.ins C dx vs) ∧ DFs Γ F as vs fs
  | .dead => True
  | .ts P w l => ad.lk = none ∧ F ad.a = none ∧ H ad.a = some (TSo P w ad.a l)
  | .gl w q kvs => ad.lk = none ∧ F ad.a = none ∧ ∃ (xs : List NV) (od : Obj), q = .frz od (GDo w ad.a xs) ∧ H ad.a = some q ∧ GKeys F xs ∧ xs.map (fun x => (x.1, x.2.2)) = kvs
  | .gd w kvs => ad.lk = none ∧ F ad.a = none ∧ ∃ xs : List NV, H ad.a = some (GDo w ad.a xs) ∧ GKeys F xs ∧ xs.map (fun x => (x.1, x.2.2)) = kvs
end
section
variable {Γ : Gam} {F F' H H' : Hp} {as as' : List Ad} {ad : Ad} {c : Cell}
theorem LkOk.go {o : HO} {b : Option HO} (h : LkOk ad H o b) (k : ∀ o, H ad.a = some o → H' ad.a = some o) : LkOk ad H' o b := by
  cases b with
  | some q => exact ⟨k _ h.1, h.2⟩
  | none => exact k _ h
theorem LkOk.rd {o : HO} {b : Option HO} (h : LkOk ad H o b) : Rd H ad.a o := by
  cases b with
  | some q => obtain ⟨h1, od, rfl⟩ := h; exact .inr ⟨od, h1⟩
  | none => exact .inl h
theorem CellOk.go (k : CellOk Γ F H as ad c) (sF : Same F F') (nF : F ad.a = none → F' ad.a = none) (hH : ∀ o, H ad.a = some o → H' ad.a = some o) (has : Kp as as' c.refs) : CellOk Γ F' H' as' ad c := by
  match c, k with
  | .dead, _ => trivial
  | .ts _ _ _, ⟨k0, k1, k2⟩ => exact ⟨k0, nF k1, hH _ k2⟩
  | .gl w q kvs, ⟨k0, k1, xs, od, e, k2, k3, k4⟩ => exact ⟨k0, nF k1, xs, od, e, hH _ k2, ⟨fun x hx => ⟨(k3.key x hx).1.to sF, (k3.key x hx).2⟩, k3.nd⟩, k4⟩
  | .gd w kvs, ⟨k0, k1, xs, k2, k3, k4⟩ => exact ⟨k0, nF k1, xs, hH _ k2, ⟨fun x hx => ⟨(k3.key x hx).1.to sF, (k3.key x hx).2⟩, k3.nd⟩, k4⟩
  | .lst ds, ⟨k0, k1, vs, k2, k3⟩ => exact ⟨k0, nF k1, vs, hH _ k2, DVs.to sF k3 has⟩
  | .dct false lk kvs, ⟨k1, vs, k2, k3⟩ => exact ⟨nF k1, vs, k2.go hH, DKs.to sF k3 has⟩
  | .dct true lk kvs, ⟨k1, vs, k2, k3⟩ => exact ⟨nF k1, vs, k2.go hH, DTs.to sF k3 has⟩
  | .ins c fs, ⟨k0, k1, C, dx, vs, kc, k2, k3⟩ => exact ⟨k0, nF k1, C, dx, vs, kc, hH _ k2, DFs.to sF k3 has⟩
theorem CellOk.low (k : CellOk Γ F H as ad c) : Lw as c.refs := by
  match c, k with
  | .dead, _ => exact Lw.nil
  | .gd _ _, _ => exact Lw.nil
  | .ts _ _ _, _ => exact Lw.nil
  | .gl _ _ _, _ => exact Lw.nil
  | .lst ds, ⟨k0, k1, vs, k2, k3⟩ => exact k3.low
  | .dct false lk kvs, ⟨k1, vs, k2, k3⟩ => exact k3.low
  | .dct true lk kvs, ⟨k1, vs, k2, k3⟩ => exact k3.low
  | .ins c fs, ⟨k0, k1, C, dx, vs, kc, k2, k3⟩ => exact k3.low
end

/-! ### worlds -/
abbrev ads (as : List Ad) : List Addr := as.map Ad.a
structure Wd (Γ : Gam) (F H : Hp) (as : List Ad) (μ : Mu) : Prop where
  sub : Same F H
  nd : (ads as).Nodup
  len : as.length = μ.length
  ok : ∀ (j : Nat) (ad : Ad) (c : Cell), as[j]? = some ad → μ[j]? = some c → CellOk Γ F H as ad c
  seen : ∀ ad ∈ as, H ad.a ≠ none
structure Go (F H : Hp) (as : List Ad) (F' H' : Hp) (as' : List Ad) : Prop where
  keep : ∀ a o, H a = some o → a ∉ ads as → H' a = some o
  dom : ∀ a, H' a = none → H a = none
  sub : Same F F'
  new : ∀ a, F a = none → F' a ≠ none → H a = none ∨ a ∈ ads as ∨ ∃ xs, H a = some (.tup xs)
  pre : ∃ more, as' = as ++ more ∧ ∀ ad ∈ more, H ad.a = none
theorem Go.refl (F H : Hp) (as : List Ad) : Go F H as F H as :=
  ⟨fun _ _ h _ => h, fun _ h => h, Same.refl F, fun a h h' => absurd h h', [], (List.append_nil as).symm, fun _ h => nomatch h⟩
theorem ads_app (a b : List Ad) : ads (a ++ b) = ads a ++ ads b := List.map_append
theorem Go.trans {F H F1 H1 F2 H2 : Hp} {as as1 as2 : List Ad} (g : Go F H as F1 H1 as1) (g' : Go F1 H1 as1 F2 H2 as2) : Go F H as F2 H2 as2 := by
  obtain ⟨m1, e1, n1⟩ := g.pre
  obtain ⟨m2, e2, n2⟩ := g'.pre
  have n1' : ∀ a ∈ ads m1, H a = none := fun a ha => by
    obtain ⟨ad, h1, rfl⟩ := List.mem_map.mp ha
    exact n1 ad h1
  refine ⟨fun a o h na => g'.keep a o (g.keep a o h na) ?_, fun a h => g.dom a (g'.dom a h), g.sub.trans g'.sub, fun a h h' => ?_, m1 ++ m2, by rw [e2, e1, List.append_assoc], fun a ha => ?_⟩
  · rw [e1, ads_app]
    intro z
    rcases List.mem_append.mp z with z | z
    · exact na z
    · rw [n1' a z] at h; cases h
  · by_cases q : F1 a = none
    · rcases g'.new a q h' with z | z | ⟨xs, z⟩
      · exact .inl (g.dom a z)
      · rw [e1, ads_app] at z
        rcases List.mem_append.mp z with z | z
        · exact .inr (.inl z)
        · exact .inl (n1' a z)
      · by_cases hn : H a = none
        · exact .inl hn
        · by_cases ha : a ∈ ads as
          · exact .inr (.inl ha)
          · cases ho : H a with
            | none => exact absurd ho hn
            | some o =>
              have := g.keep a o ho ha
              rw [z] at this
              exact .inr (.inr ⟨xs, this.symm⟩)
    · exact g.new a h q
  · rcases List.mem_append.mp ha with z | z
    · exact n1 a z
    · exact g.dom _ (n2 a z)
theorem Go.at {F H F' H' : Hp} {as as' : List Ad} (g : Go F H as F' H' as') {j : Nat} {ad : Ad} (h : as[j]? = some ad) : as'[j]? = some ad := by
  obtain ⟨m, e, _⟩ := g.pre
  rw [e, List.getElem?_append_left (List.getElem?_eq_some_iff.mp h).1]
  exact h
theorem Go.kp {F H F' H' : Hp} {as as' : List Ad} (g : Go F H as F' H' as') (js : List Nat) : Kp as as' js := fun _ _ _ h => g.at h
section
variable {Γ : Gam} {F H F' H' : Hp} {as as' : List Ad} {μ : Mu}
theorem DV.mono (g : Go F H as F' H' as') {v : V} {d : D} (h : DV Γ F as v d) : DV Γ F' as' v d := DV.to g.sub h (g.kp _)
theorem DVs.mono (g : Go F H as F' H' as') {v : List V} {d : List D} (h : DVs Γ F as v d) : DVs Γ F' as' v d := DVs.to g.sub h (g.kp _)
theorem DKs.mono (g : Go F H as F' H' as') {v : List (Key × V)} {d : List (DK × D)} (h : DKs Γ F as v d) : DKs Γ F' as' v d := DKs.to g.sub h (g.kp _)
theorem DTs.mono (g : Go F H as F' H' as') {v : List (List Key × V)} {d : List (DK × D)} (h : DTs Γ F as v d) : DTs Γ F' as' v d := DTs.to g.sub h (g.kp _)
theorem DFs.mono (g : Go F H as F' H' as') {v : List (Str × V)} {d : List (Str × D)} (h : DFs Γ F as v d) : DFs Γ F' as' v d := DFs.to g.sub h (g.kp _)
def EnvOk (Γ : Gam) (F : Hp) (as : List Ad) (env : En) (σ : L2.St) : Prop :=
  env.length = σ.length ∧ ∀ (i : Nat) (d : D), env[i]? = some (some d) → ∃ v, σ[i]? = some (some v) ∧ DV Γ F as v d
theorem EnvOk.mono (g : Go F H as F' H' as') {env : En} {σ : L2.St} (h : EnvOk Γ F as env σ) : EnvOk Γ F' as' env σ :=
  ⟨h.1, fun i sv e => let ⟨v, h1, h2⟩ := h.2 i sv e; ⟨v, h1, DV.mono g h2⟩⟩
theorem EnvOk.set {env : En} {σ : L2.St} (h : EnvOk Γ F as env σ) {d : D} {v : V} (r : DV Γ F as v d) (i : Nat) : EnvOk Γ F as (env.set i (some d)) (σ.set i (some v)) := by
  refine ⟨by rw [List.length_set, List.length_set, h.1], fun k sv' e => ?_⟩
  rw [List.getElem?_set] at e ⊢
  by_cases hk : i = k
  · subst hk
    rw [if_pos rfl] at e ⊢
    by_cases hl : i < env.length
    · rw [if_pos hl] at e
      rw [if_pos (h.1 ▸ hl)]
      obtain rfl := Option.some.inj (Option.some.inj e)
      exact ⟨v, rfl, r⟩
    · rw [if_neg hl] at e
      exact nomatch e
  · rw [if_neg hk] at e ⊢
    exact h.2 k sv' e
theorem EnvOk.set0 {env : En} {σ : L2.St} (h : EnvOk Γ F as env σ) (i : Nat) : EnvOk Γ F as (env.set i none) (σ.set i none) := by
  refine ⟨by rw [List.length_set, List.length_set, h.1], fun k sv' e => ?_⟩
  rw [List.getElem?_set] at e ⊢
  by_cases hk : i = k
  · subst hk
    rw [if_pos rfl] at e
    split at e <;> exact nomatch e
  · rw [if_neg hk] at e ⊢
    exact h.2 k sv' e
theorem Wd.nofree (W : Wd Γ F H as μ) {p : Addr} (np : H p = none) : F p = none ∧ p ∉ ads as := by
  refine ⟨?_, fun z => ?_⟩
  · cases q : F p with
    | none => rfl
    | some u => rw [W.sub p u q] at np; cases np
  · obtain ⟨ad, h1, rfl⟩ := List.mem_map.mp z
    exact W.seen ad h1 np
theorem Wd.apartC (W : Wd Γ F H as μ) {p : Addr} (na : p ∉ ads as) {ad : Ad} {j : Nat} (h : as[j]? = some ad) : ad.a ≠ p := fun z => na (by rw [← z]; exact List.mem_map.mpr ⟨ad, List.mem_of_getElem? h, rfl⟩)
/-- an object beside -/
theorem Wd.off (W : Wd Γ F H as μ) {p : Addr} {o : HO} (nF : F p = none) (na : p ∉ ads as) : Wd Γ F (upd H p o) as μ := by
  refine ⟨fun b u e => ?_, W.nd, W.len, fun j ad c ha hc => ?_, fun ad ha => ?_⟩
  · rw [upd_ne (ne_of_none e nF)]; exact W.sub b u e
  · have hap := W.apartC na ha
    exact (W.ok j ad c ha hc).go (Same.refl F) (fun z => z) (fun o z => by rw [upd_ne hap]; exact z) (fun _ _ _ z => z)
  · have hap : ad.a ≠ p := fun z => na (by rw [← z]; exact List.mem_map.mpr ⟨ad, ha, rfl⟩)
    rw [upd_ne hap]
    exact W.seen ad ha
theorem Go.off (g : Go F H as F' H' as') {p : Addr} {o : HO} (np : H p = none) : Go F H as F' (upd H' p o) as' :=
  ⟨fun a u h na => by rw [upd_ne (ne_of_none h np)]; exact g.keep a u h na, fun a h => by
    by_cases ha : a = p
    · rw [ha]; exact np
    · rw [upd_ne ha] at h; exact g.dom a h, g.sub, g.new, g.pre⟩
theorem Go.apart (g : Go F H as F' H' as') {p : Addr} {o : HO} (hp : H p = some o) (nt : ∀ xs, o ≠ .tup xs) (nF : F p = none) (na : p ∉ ads as) : H' p = some o ∧ F' p = none ∧ p ∉ ads as' := by
  refine ⟨g.keep p o hp na, ?_, ?_⟩
  · cases q : F' p with
    | none => rfl
    | some u =>
      rcases g.new p nF (by rw [q]; exact fun z => nomatch z) with z | z | ⟨xs, z⟩
      · rw [hp] at z; cases z
      · exact absurd z na
      · rw [hp] at z
        exact absurd (Option.some.inj z) (nt xs)
  · obtain ⟨more, e, n⟩ := g.pre
    rw [e, ads_app]
    intro z
    rcases List.mem_append.mp z with z | z
    · exact na z
    · obtain ⟨ad, h1, rfl⟩ := List.mem_map.mp z
      rw [n ad h1] at hp; cases hp
def era (H : Hp) (p : Addr) : Hp := fun b => if b = p then none else H b
theorem era_same {H : Hp} {p : Addr} : era H p p = none := if_pos rfl
theorem era_ne {H : Hp} {p b : Addr} (h : b ≠ p) : era H p b = H b := if_neg h
theorem era_upd {H : Hp} {p : Addr} {o : HO} (h : H p = some o) : upd (era H p) p o = H := by
  funext b
  by_cases hb : b = p
  · rw [hb, upd_same, h]
  · rw [upd_ne hb, era_ne hb]
theorem Wd.era (W : Wd Γ F H as μ) {p : Addr} (nF : F p = none) (na : p ∉ ads as) : Wd Γ F (Me.era H p) as μ := by
  refine ⟨fun b u e => ?_, W.nd, W.len, fun j ad c ha hc => ?_, fun ad ha => ?_⟩
  · rw [era_ne (ne_of_none e nF)]; exact W.sub b u e
  · have hap := W.apartC na ha
    exact (W.ok j ad c ha hc).go (Same.refl F) (fun z => z) (fun o z => by rw [era_ne hap]; exact z) (fun _ _ _ z => z)
  · have hap : ad.a ≠ p := fun z => na (by rw [← z]; exact List.mem_map.mpr ⟨ad, ha, rfl⟩)
    rw [era_ne hap]
    exact W.seen ad ha
theorem Go.era (g : Go F H as F' H' as') {p : Addr} (np : H p = none) : Go F H as F' (Me.era H' p) as' :=
  ⟨fun a u h na => by rw [era_ne (ne_of_none h np)]; exact g.keep a u h na, fun a h => by
    by_cases ha : a = p
    · rw [ha]; exact np
    · rw [era_ne ha] at h; exact g.dom a h, g.sub, g.new, g.pre⟩
/-- a new object, tracked as stable -/
theorem Wd.addF (W : Wd Γ F H as μ) {p : Addr} {o : HO} (np : H p = none) :
    Wd Γ (upd F p o) (upd H p o) as μ ∧ Go F H as (upd F p o) (upd H p o) as := by
  obtain ⟨nF, na⟩ := W.nofree np
  have sF : Same F (upd F p o) := fun b u e => by rw [upd_ne (ne_of_none e nF)]; exact e
  refine ⟨⟨fun b u e => ?_, W.nd, W.len, fun j ad c ha hc => ?_, fun ad ha => ?_⟩, ⟨fun a u h _ => ?_, fun a h => ?_, sF, fun a h h' => ?_, [], (List.append_nil as).symm, fun _ h => nomatch h⟩⟩
  · by_cases hb : b = p
    · subst hb; rw [upd_same] at e ⊢; exact e
    · rw [upd_ne hb] at e ⊢; exact W.sub b u e
  · have hap := W.apartC na ha
    exact (W.ok j ad c ha hc).go sF (fun z => by rw [upd_ne hap]; exact z) (fun o z => by rw [upd_ne hap]; exact z) (fun _ _ _ z => z)
  · exact (W.off (o := o) nF na).seen ad ha
  · rw [upd_ne (ne_of_none h np)]; exact h
  · by_cases ha : a = p
    · subst ha; exact np
    · rw [upd_ne ha] at h; exact h
  · by_cases ha : a = p
    · subst ha; exact .inl np
    · rw [upd_ne ha] at h'; exact absurd h h'
/-- a new thing, tracked as a cell -/
theorem Wd.addO (W : Wd Γ F H as μ) {p : Addr} {o : HO} {c : Cell} (np : H p = none) (hc : F p = none → CellOk Γ F (upd H p o) (as ++ [⟨p, none⟩]) ⟨p, none⟩ c) :
    Wd Γ F (upd H p o) (as ++ [⟨p, none⟩]) (μ ++ [c]) ∧ Go F H as F (upd H p o) (as ++ [⟨p, none⟩]) := by
  obtain ⟨nF, na⟩ := W.nofree np
  have W1 := W.off (o := o) nF na
  refine ⟨⟨W1.sub, ?_, by rw [List.length_append, List.length_append, W.len]; rfl, fun j ad c' ha hc' => ?_, fun ad ha => ?_⟩,
    ⟨fun a u h _ => ?_, fun a h => ?_, Same.refl F, fun a h h' => absurd h h', [⟨p, none⟩], rfl, fun ad h => ?_⟩⟩
  · rw [ads_app, List.nodup_append]
    exact ⟨W.nd, by simp, fun a ha b hb => by
      obtain rfl : b = p := by simpa using hb
      exact fun z => na (z ▸ ha)⟩
  · by_cases hj : j < as.length
    · rw [List.getElem?_append_left hj] at ha
      rw [List.getElem?_append_left (W.len ▸ hj)] at hc'
      exact (W1.ok j ad c' ha hc').go (Same.refl F) (fun z => z) (fun o z => z) (fun i _ b z => by rw [List.getElem?_append_left (List.getElem?_eq_some_iff.mp z).1]; exact z)
    · rw [List.getElem?_append_right (by omega)] at ha
      rw [List.getElem?_append_right (by have := W.len; omega)] at hc'
      have e0 : j - as.length = 0 := by
        have := (List.getElem?_eq_some_iff.mp ha).1
        simp at this
        omega
      have e1 : j - μ.length = 0 := by have := W.len; omega
      rw [e0] at ha
      rw [e1] at hc'
      simp at ha hc'
      subst ha hc'
      exact hc nF
  · rcases List.mem_append.mp ha with z | z
    · exact W1.seen ad z
    · obtain rfl := List.mem_singleton.mp z
      show upd H p o p ≠ none
      rw [upd_same]; exact fun q => nomatch q
  · rw [upd_ne (ne_of_none h np)]; exact h
  · by_cases ha : a = p
    · subst ha; exact np
    · rw [upd_ne ha] at h; exact h
  · obtain rfl := List.mem_singleton.mp h
    exact np
theorem nodup_inj {α : Type} : ∀ {l : List α} {i j : Nat} {x : α}, l.Nodup → l[i]? = some x → l[j]? = some x → i = j
  | [], i, j, x, _, h, _ => by simp at h
  | a :: l, 0, 0, x, _, _, _ => rfl
  | a :: l, 0, j + 1, x, n, h, h' => by
    simp at h h'
    subst h
    exact absurd (List.mem_of_getElem? h') (List.nodup_cons.mp n).1
  | a :: l, i + 1, 0, x, n, h, h' => by
    simp at h h'
    subst h'
    exact absurd (List.mem_of_getElem? h) (List.nodup_cons.mp n).1
  | a :: l, i + 1, j + 1, x, n, h, h' => by
    simp at h h'
    rw [nodup_inj (List.nodup_cons.mp n).2 h h']
theorem Wd.inj (W : Wd Γ F H as μ) {i j : Nat} {a b : Ad} (hi : as[i]? = some a) (hj : as[j]? = some b) (e : a.a = b.a) : i = j := by
  refine nodup_inj (x := a.a) W.nd ?_ ?_
  · rw [List.getElem?_map, hi]; rfl
  · rw [List.getElem?_map, hj, e]; rfl
/-- a cell is changed -/
theorem Wd.setO (W : Wd Γ F H as μ) {j : Nat} {ad : Ad} {o : HO} {c : Cell} (ha : as[j]? = some ad) (nF : F ad.a = none) (hc : CellOk Γ F (upd H ad.a o) as ad c) :
    Wd Γ F (upd H ad.a o) as (μ.set j c) ∧ Go F H as F (upd H ad.a o) as := by
  have ham : ad.a ∈ ads as := List.mem_map.mpr ⟨ad, List.mem_of_getElem? ha, rfl⟩
  refine ⟨⟨fun b u e => ?_, W.nd, by rw [List.length_set]; exact W.len, fun k b c' hb hk => ?_, fun b hb => ?_⟩,
    ⟨fun b u h nb => ?_, fun b h => ?_, Same.refl F, fun b h h' => absurd h h', [], (List.append_nil as).symm, fun _ h => nomatch h⟩⟩
  · rw [upd_ne (ne_of_none e nF)]; exact W.sub b u e
  · by_cases hkj : j = k
    · subst hkj
      rw [ha] at hb
      obtain rfl := Option.some.inj hb
      rw [List.getElem?_set, if_pos rfl] at hk
      split at hk
      · obtain rfl := Option.some.inj hk
        exact hc
      · exact nomatch hk
    · rw [List.getElem?_set, if_neg hkj] at hk
      have hba : b.a ≠ ad.a := fun z => hkj (W.inj ha hb z.symm)
      exact (W.ok k b c' hb hk).go (Same.refl F) (fun z => z) (fun o z => by rw [upd_ne hba]; exact z) (fun _ _ _ z => z)
  · by_cases hb' : b.a = ad.a
    · rw [hb', upd_same]; exact fun q => nomatch q
    · rw [upd_ne hb']; exact W.seen b hb
  · rw [upd_ne (fun (z : b = ad.a) => nb (by rw [z]; exact ham))]; exact h
  · by_cases hb' : b = ad.a
    · subst hb'; rw [upd_same] at h; exact nomatch h
    · rw [upd_ne hb'] at h; exact h
theorem Wd.low (W : Wd Γ F H as μ) {j : Nat} {c : Cell} (h : μ[j]? = some c) : ∀ i ∈ c.refs, i < μ.length := by
  have hj : j < as.length := by rw [W.len]; exact (List.getElem?_eq_some_iff.mp h).1
  rw [← W.len]
  exact (W.ok j _ c (List.getElem?_eq_getElem hj) h).low
theorem Wd.last (W : Wd Γ F H as μ) (x : Ad) : (as ++ [x])[μ.length]? = some x := by
  rw [List.getElem?_append_right (by rw [W.len]; exact Nat.le_refl _), W.len, Nat.sub_self]
  rfl
end
end Me

/-! GL: contracts of defs that are called where no repr is under way (guards = some []): FnG, its calls, repr, the law's end. -/
namespace Gd
open PySem PySem.Spec PyProof.Rows L2

/-- a def's promise, wherever no guard stands around -/
structure FnG (P : Program) (w : World) (K : PySem.W.Frag) (mg : Str → Option Value) (base : Heap) (CX : CXT)
    (k : Nat) (f : Addr) (fd : FuncData) (ps : List Str) (sp : Sp) : Prop where
  lenG : ∀ vs H Q E, sp vs H Q E → vs.length = ps.length
  runG : ∀ (A : Around) (outer : List Env) (s : Shared) (H : Hp) (args : Args) (us : List Value) (vs : List V) (Q : VK) (E : XK),
    A.guards = some [] → Room k A → Env0 P w K mg base A outer s H → BindsTo s fd args (ps.zip us) → Vals vs us → sp vs H Q E →
    codeAny (model P w) A (.call (.ref f) args) (CR CX outer P w H s Q E) s

section
variable {w : World} {P : Program} {base : Heap} {mg : Str → Option Value} {K : PySem.W.Frag} {CX : CXT} {k : Nat} {f : Addr}
  {fd : FuncData} {ps : List Str} {sp : Sp}
theorem FnG.of (F : FnOk P w K mg base CX k f fd ps sp) : FnG P w K mg base CX k f fd ps sp :=
  ⟨F.len, fun A o s H a us vs Q E _ => F.run A o s H a us vs Q E⟩
theorem FnG.mono {j : Nat} (F : FnG P w K mg base CX j f fd ps sp) (h : j ≤ k) : FnG P w K mg base CX k f fd ps sp :=
  ⟨F.lenG, fun A o s H a us vs Q E g hr => F.runG A o s H a us vs Q E g (hr.mono h)⟩

/-- from a def's body to its promise -/
theorem fn_ofG {name qual : Str} {params : Arguments} {body : List Stmt} {scope : Scope} {dV kV doc pm cdv ct oc : Value}
    {an od : Option Addr} {osl : Array (Option Value)} {N : List Str}
    (lk : K.lookup f = some ⟨oc, od, .func (PySem.W.fnOf name qual params body scope dV kV doc pm an cdv ct), osl⟩)
    (hcd : PySem.W.codeIn K cdv qual = true) (S : FnScope N ps scope) (ln : ∀ vs H Q E, sp vs H Q E → vs.length = ps.length)
    (hb0 : ∀ (A : Around) (outer : List Env) (s : Shared) (H : Hp) (vs : List V) (Q : VK) (E : XK), A.guards = some [] →
      Room k (A.deeper (envOfC qual scope s.heap.objs.size f cdv)) → sp vs H Q E →
      ∃ t, PSs (cxOf CX P w K mg base N qual scope f cdv A outer s H E) body t ∧
        t { nx := fun _ H' => Q .non H', rt := Q } (start N vs) H) :
    FnG P w K mg base CX (k + 1) f (PySem.W.fnOf name qual params body scope dV kV doc pm an cdv ct) ps sp := by
  refine ⟨ln, fun A outer s H args us vs Q E gA room e0 bind rel hsp => ?_⟩
  have hlen := ln _ _ _ _ hsp
  have kin : K.In s.heap := e0.mod.kin.keeps fun b o e => (e0.bs b o e).1
  have nolim : s.heap.NoLimit := e0.mod.nolimit.keeps fun b o e => (e0.bs b o e).1
  have kinds : ∀ y ∈ ps.zip us, scope.names.lookup y.1 = some .local ∨
      (scope.names.lookup y.1 = some .cell ∧ ((cellsFrom (s.heap.objs.size + 1) scope.names []).lookup y.1).isSome = true) := by
    rintro ⟨n, v⟩ hy
    rcases S.par n (List.of_mem_zip hy).1 with q | q
    · left; exact q
    · right; exact ⟨q, PySem.W.cellsFrom_some _ _ _ (.inl q)⟩
  refine codeAny_call_function room.depth (kin _ _ lk) rfl S.co S.gen rfl (PySem.W.codeRec_of kin hcd) (bind _ _ _ _ ?_)
  refine wpAny_newFunctionEnv_cells S.kind kinds fun env he s1 x1 => ?_
  subst he
  refine ⟨nolim.keeps x1.toInCall.keep, codeAny_func ?_⟩
  obtain ⟨t, ht, hq⟩ := hb0 A outer s H vs Q E gA (room.deeper _) hsp
  have I : Inv (cxOf CX P w K mg base N qual scope f cdv A outer s H E) [] (start N vs) H s1 :=
    inv_start S room.hd e0 hlen rel x1
  refine wpAny_mono (ht.run [] s1 (start N vs) H _ I hq) (fun fl s' hs => ?_) fun e s' hs => hs
  have done : ∀ {σ' : L2.St} {H' : Hp} {v : V} {u : Value},
      Inv (cxOf CX P w K mg base N qual scope f cdv A outer s H E) [] σ' H' s' → RelV v u → Q v H' → CE outer P w H s Q u s' :=
    fun {σ' H' v u} J rv q => ⟨v, H', J.os, J.bare, J.base, J.hok, rv, q⟩
  cases fl with
  | ret u => exact let ⟨v, σ', H', J, rv, q⟩ := hs; done J rv q
  | next => exact let ⟨σ', H', J, q⟩ := hs; done (v := V.non) (u := Value.none) J rfl q
  | brk => exact let ⟨_, _, _, q⟩ := hs; False.elim q
  | cont => exact let ⟨_, _, _, q⟩ := hs; False.elim q
end

section
variable {w : World} {P : Program} {base : Heap} {mg : Str → Option Value} {K : PySem.W.Frag}
end

section
variable {X : Cx} {CX : CXT} {k : Nat} {f : Addr} {fd : FuncData} {ps : List Str} {sp : Sp} {dvs : List V} {ds : List Value} {E : XK}
  {x : Str} {p pos : Pos} {e : Expr} {es : List Expr} {t : TA}
/-- repr(x), x data -/
def rRepr (K : PySem.W.Frag) : List V → Hp → VK → Prop := fun xs H Q =>
  ∃ x d, xs = [x] ∧ Dp K H x d ∧ d.showable = true ∧ d.hasDict = false ∧ d.depth ≤ 64 ∧ d.shown.length ≤ sizeLine ∧ Q (.str d.shown) H
end
end Gd

/-! GE: the law's end over FnG. -/
namespace Gd
open PySem PySem.Spec PyProof.Rows L2

section
variable {P : Program} {w : World} {K : PySem.W.Frag} {mg mb : Str → Option Value} {CX : CXT} {k : Nat} {fa a : Addr} {fd : FuncData}
  {x : Str} {sp : Sp} {s1 : Shared} {vs : List Value} {ns : List Int}
/-- the call of the law over an abstract heap that tracks at most the script -/
theorem law_at (H : Hp) (KX : K.In s1.heap) (hns : s1.heap.Ns mainGlobals mg) (hb : s1.heap.Ns builtinsNs mb)
    (hbb : ∀ x : Str, x ≠ "__name__" → mb x = bootBuiltins x) (hlim : s1.heap.NoLimit) (hg : s1.gens = #[])
    (ha : s1.heap.get? a = some { cls := .type "list", data := .seq vs.toArray }) (hr : Room k callerA)
    (F : ∀ base : Heap, K.In base → base.Ns mainGlobals mg → FnG P w K mg base CX k fa fd [x] sp)
    (hbind : ∀ (s : Shared) (u : Value), BindsTo s fd ⟨[u], []⟩ [(x, u)])
    (hCX : ∀ H e s', CX [] H s1 (fun _ _ _ => False) e s' → False)
    (hO : Only H) (hsp : sp [.ref a] H (fun v _ => v = .bl true) fun _ _ _ => False) (hok : HOk P w H s1.heap)
    (only : ∀ b, H b ≠ none → b = a) (offK : H a ≠ none → K.lookup a = none) :
    codeAny (model P w) callerA (.call (.ref fa) ⟨[.ref a], []⟩)
      (fun r s' => r = .ok (.ret (.bool true)) ∧ OldK s1.heap s'.heap ∧ s'.os = s1.os ∧ AllBare s'.gens) s1 := by
  have dictFree : ∀ (b : Addr) (o : Obj) (es : Array DictEntry) (ep : Nat), s1.heap.get? b = some o → o.data = .dict es ep → H b = none := by
    intro b o es ep e dd
    cases q : H b with
    | none => rfl
    | some u =>
      have eb : b = a := only b (by rw [q]; exact fun z => nomatch z)
      rw [eb, ha] at e
      obtain rfl := Option.some.inj e
      exact nomatch dd
  have ns' : ∀ (b : Addr) (m : Str → Option Value), s1.heap.Ns b m → (hidT s1.heap H).Ns b m := by
    rintro b m ⟨o, es, ep, e, dd, rest⟩
    exact ⟨o, es, ep, hidT_get e (dictFree b o es ep e dd), dd, rest⟩
  have kin' : K.In (hidT s1.heap H) := by
    intro b o e
    refine hidT_get (KX b o e) ?_
    cases q : H b with
    | none => rfl
    | some u =>
      have eb : b = a := only b (by rw [q]; exact fun z => nomatch z)
      subst eb
      rw [offK (by rw [q]; exact fun z => nomatch z)] at e
      exact nomatch e
  have modl : Mod K mg (hidT s1.heap H) := by
    obtain ⟨mc, l1, l2⟩ := hlim
    exact ⟨kin', ns' _ _ hns, ⟨mb, ns' _ _ hb, hbb⟩, ⟨mc, ns' _ _ l1, l2⟩⟩
  have nofr : ∀ b, b ∉ frs ([] : List Env) := fun b z => List.not_mem_nil z
  have env0 : Env0 P w K mg (hidT s1.heap H) callerA [] s1 H :=
    ⟨rfl, modl, fun b o e => of_hidT e, Nat.le_of_eq (hidT_size _ _), trivial, fun b z => absurd z (nofr b), hok, .of_eq hg⟩
  have run := (F _ kin' (ns' _ _ hns)).runG callerA [] s1 H ⟨[.ref a], []⟩ [.ref a] [.ref a] _ _ rfl hr env0 (hbind s1 (.ref a)) (.cons rfl .nil) hsp
  refine codeAny_mono run fun r s' h => ?_
  match r, h with
  | .error e, h => exact (hCX H e s' h).elim
  | .ok .next, h => exact False.elim h
  | .ok .brk, h => exact False.elim h
  | .ok .cont, h => exact False.elim h
  | .ok (.ret u), h =>
    obtain ⟨v, H', os, bare, un, hok', rv, q⟩ := h
    obtain rfl : v = .bl true := q
    obtain rfl : u = Value.bool true := rv
    refine ⟨rfl, OldK.of_keep fun b o e => ?_, os, bare⟩
    rcases hO b with z | ⟨ob, xs, z⟩
    · exact un.keep b o e z (nofr b) (fun m => List.not_mem_nil m)
    · have g1 := (hok b _ z).1
      have g2 := (hok' b _ (un.frzs b ob _ z)).1
      rw [e] at g1
      rw [Option.some.inj g1]
      exact g2
/-- the script as the abstract heap bears it -/
theorem law_callG (KX : K.In s1.heap) (hns : s1.heap.Ns mainGlobals mg) (hb : s1.heap.Ns builtinsNs mb)
    (hbb : ∀ x : Str, x ≠ "__name__" → mb x = bootBuiltins x) (hlim : s1.heap.NoLimit) (hg : s1.gens = #[])
    (ha : s1.heap.get? a = some { cls := .type "list", data := .seq vs.toArray }) (hi : IntsAre vs ns) (hl : ns.length ≤ sizeLine) (hr : Room k callerA)
    (F : ∀ base : Heap, K.In base → base.Ns mainGlobals mg → FnG P w K mg base CX k fa fd [x] sp)
    (hbind : ∀ (s : Shared) (u : Value), BindsTo s fd ⟨[u], []⟩ [(x, u)])
    (hsp : ∀ H : Hp, Only H → SqL K H a (ns.map V.int) → sp [.ref a] H (fun v _ => v = .bl true) fun _ _ _ => False)
    (hCX : ∀ H e s', CX [] H s1 (fun _ _ _ => False) e s' → False) :
    codeAny (model P w) callerA (.call (.ref fa) ⟨[.ref a], []⟩)
      (fun r s' => r = .ok (.ret (.bool true)) ∧ OldK s1.heap s'.heap ∧ s'.os = s1.os ∧ AllBare s'.gens) s1 := by
  have rv : Vals (ns.map V.int) vs := vals_ints hi
  cases hk : K.lookup a with
  | some o =>
    have e := KX a o hk
    rw [ha] at e
    obtain rfl := Option.some.inj e
    have hO : Only (fun _ => none) := fun _ => .inl rfl
    have hS : SqL K (fun _ => none) a (ns.map V.int) :=
      .inr ⟨_, vs.toArray, _, hk, rfl, rfl, rfl, by rw [List.size_toArray, hi.length]; exact hl, by simpa using rv⟩
    exact law_at (fun _ => none) KX hns hb hbb hlim hg ha hr F hbind hCX hO (hsp _ hO hS) (fun b u z => nomatch z)
      (fun b z => absurd rfl z) (fun z => absurd rfl z)
  | none =>
    let T : HO := .frz { cls := .type "list", data := .seq vs.toArray } (.lst (ns.map V.int))
    let H : Hp := fun b => if b = a then some T else none
    have at_ : ∀ b, b = a → H b = some T := fun b e => if_pos e
    have off : ∀ b, ¬ b = a → H b = none := fun b e => if_neg e
    have hO : Only H := fun b => by
      by_cases e : b = a
      · exact .inr ⟨_, _, at_ b e⟩
      · exact .inl (off b e)
    have hok : HOk P w H s1.heap := fun b u z => by
      by_cases e : b = a
      · rw [at_ b e] at z
        obtain rfl := Option.some.inj z
        subst e
        exact ⟨ha, by rw [List.length_map]; exact hl, vs, _, rv, ha⟩
      · rw [off b e] at z
        exact nomatch z
    refine law_at H KX hns hb hbb hlim hg ha hr F hbind hCX hO (hsp H hO (.inl (.inr ⟨_, at_ a rfl⟩))) hok (fun b z => ?_) fun _ => hk
    by_cases e : b = a
    · exact e
    · exact absurd (off b e) z
end
/-- the goal that the head leaves, from the law's promise -/
theorem walk_ofG {l : PySem.W.OpenLaw} {n k : Nat} {q : Program} {loose : List Str} {XP : (Str → Option Value) → Heap → Prop}
    {YP : World → Heap → Prop} {d : DefRec} {K : Params → PySem.W.Frag} {CX : World → CXT} {sp : World → Sp} {x : Str}
    (hn : l.most = some n) (hn2 : n ≤ sizeLine) (hdf : d.params.defaults = []) (hr : Room k callerA)
    (hY : ∀ (w : World) (h : Heap), YP w h → (K w.params).In h)
    (F : ∀ (w : World) (mg : Str → Option Value) (fa : Addr) (h : Heap), (K w.params).In h → h.Ns mainGlobals mg → mg d.name = some (.ref fa) →
      ∃ fd : FuncData, (∀ (s : Shared) (u : Value), BindsTo s fd ⟨[u], []⟩ [(x, u)]) ∧
        ∀ base : Heap, (K w.params).In base → base.Ns mainGlobals mg → FnG l.prog w (K w.params) mg base (CX w) k fa fd [x] (sp w))
    (hsp : ∀ (w : World) (H : Hp) (a : Addr) (ns : List Int), ns.length ≤ n → Only H → SqL (K w.params) H a (ns.map V.int) →
      sp w [.ref a] H (fun v _ => v = .bl true) fun _ _ _ => False)
    (hCX : ∀ (w : World) (H : Hp) (s : Shared) (e : Value) (s' : Shared), CX w [] H s (fun _ _ _ => False) e s' → False) :
    PySem.W.WalkO q loose XP YP l.row.toRowW d [] (fun f vs => PySem.call f vs) := by
  refine Att.attach_call hn hdf ?_
  intro w s0 s1 mg mb fa o pm cd doc a vs ns G Y ho hd hcd hmg hobj hints hlen hg
  obtain ⟨fd, hb, hF⟩ := F w mg fa _ (hY w _ Y) G.T.g hmg
  refine law_callG (hY w _ Y) G.T.g G.T.b G.T.builtins G.T.nolimit hg hobj hints (Nat.le_trans hlen hn2) hr hF hb ?_ ?_
  · exact fun H hO hS => hsp w H a ns hlen hO hS
  · exact fun H e s' => hCX w H s1 e s'
end Gd

/-! Me2: the judgements, in continuation form; expressions. -/
namespace Me
open PySem PySem.Spec PyProof.Rows L2

/-- an exception of an own class, with its attributes -/
structure Ex where
  c : String
  fs : List (Str × D)
/-- the weakest wish of a context -/
def Wk (X : Cx) : WX := fun cls d σ H => ∀ u s', XE X (fun c' d' σ' H' => c' = cls ∧ d' = d ∧ σ' = σ ∧ H' = H) u s' → X.xe u s'
theorem takes_wk {X : Cx} : Takes X (Wk X) := fun u s' ⟨a, B, sI, pins, σ, H, cls, d, e, I, nb, up, sky, na, os, ag, w⟩ =>
  w u s' ⟨a, B, sI, pins, σ, H, cls, d, e, I, nb, up, sky, na, os, ag, rfl, rfl, rfl, rfl⟩
theorem Wk.of {X : Cx} {W : WX} (t : Takes X W) {cls : Value} {d : Option Addr} {σ : L2.St} {H : Hp} (w : W cls d σ H) : Wk X cls d σ H := fun u s' x =>
  t.imp (W' := fun c' d' σ' H' => c' = cls ∧ d' = d ∧ σ' = σ ∧ H' = H) (fun c' d' σ' H' ⟨e1, e2, e3, e4⟩ => by subst e1 e2 e3 e4; exact w) u s' x
/-- the exception's class and own dict -/
def XOk (Γ : Gam) (F H : Hp) (as : List Ad) (cls : Value) (d : Option Addr) (x : Ex) : Prop :=
  ∃ C, Γ.cls x.c = some C ∧ cls = .ref C ∧ (x.fs = [] ∨ ∃ dx vs, d = some dx ∧ F dx = some (.xd vs) ∧ DFs Γ F as vs x.fs)

/-- the built-in names that the module leaves alone -/
structure Bi (mg : Str → Option Value) : Prop where
  len : mg "len" = none
  int : mg "int" = none
  abs : mg "abs" = none
  tuple : mg "tuple" = none
  list : mg "list" = none
  repr : mg "repr" = none
  range : mg "range" = none
  sorted : mg "sorted" = none
  sum : mg "sum" = none
  all : mg "all" = none
  any : mg "any" = none
  min : mg "min" = none
  max : mg "max" = none
  set : mg "set" = none
  dict : mg "dict" = none
  zip : mg "zip" = none
  enumerate : mg "enumerate" = none
  reversed : mg "reversed" = none
  str : mg "str" = none
  type' : mg "type" = none
  isinstance : mg "isinstance" = none
  bool : mg "bool" = none
/-- where one stands: the names of classes, the context, what is wished of exceptions -/
structure Sc where
  Γ : Gam
  X : Cx
  Z : Ex → En → Mu → Prop
  hK : Γ.K = X.K
  hg : X.A.guards = some []
  hN : X.N.Nodup
  hp : PassesOwn (model X.prog X.w) X.A X.env X.xe
  hb : Bi X.mg
  k : Nat
  rm : L2H.RoomH k X.A
theorem Sc.hu (S : Sc) : S.X.A.units + 70 < cLine := by have := S.rm.un; omega
def Ko (S : Sc) (F H : Hp) (as : List Ad) : Prop := ∀ x env μ σ cls dx F' H' as', S.Z x env μ → Go F H as F' H' as' → EnvOk S.Γ F' as' env σ → Wd S.Γ F' H' as' μ → XOk S.Γ F' H' as' cls dx x → Wk S.X cls dx σ H'
theorem Ko.go {S : Sc} {F H F1 H1 : Hp} {as as1 : List Ad} (k : Ko S F H as) (g : Go F H as F1 H1 as1) : Ko S F1 H1 as1 :=
  fun x env μ σ cls dx F' H' as' z g' => k x env μ σ cls dx F' H' as' z (g.trans g')
structure At (S : Sc) (env : En) (μ : Mu) (σ : L2.St) (H F : Hp) (as : List Ad) : Prop where
  e : EnvOk S.Γ F as env σ
  w : Wd S.Γ F H as μ
  k : Ko S F H as
theorem At.go {S : Sc} {env : En} {μ μ' : Mu} {σ : L2.St} {H F H' F' : Hp} {as as' : List Ad} (a : At S env μ σ H F as) (g : Go F H as F' H' as') (w : Wd S.Γ F' H' as' μ') : At S env μ' σ H' F' as' :=
  ⟨a.e.mono g, w, a.k.go g⟩
abbrev KD := D → Mu → Prop
/-- what follows a value -/
def Kv (S : Sc) (F H : Hp) (as : List Ad) (P : KD) (Q : VK) : Prop := ∀ d μ' v F' H' as', P d μ' → Go F H as F' H' as' → Wd S.Γ F' H' as' μ' → DV S.Γ F' as' v d → Q v H'
theorem Kv.go {S : Sc} {F H F1 H1 : Hp} {as as1 : List Ad} {P : KD} {Q : VK} (k : Kv S F H as P Q) (g : Go F H as F1 H1 as1) : Kv S F1 H1 as1 P Q :=
  fun d μ' v F' H' as' p g' => k d μ' v F' H' as' p (g.trans g')
def rdE (S : Sc) (env : En) (μ : Mu) (P : KD) : TE := fun σ H Q => ∃ F as, At S env μ σ H F as ∧ Kv S F H as P Q
def E (S : Sc) (e : Expr) (env : En) (μ : Mu) (P : KD) : Prop := PE S.X e (rdE S env μ P)
def rdA (S : Sc) (env : En) (μ : Mu) (P : List D → Mu → Prop) : TA := fun σ H Q => ∃ F as, At S env μ σ H F as ∧
  ∀ ds μ' vs F' H' as', P ds μ' → Go F H as F' H' as' → Wd S.Γ F' H' as' μ' → DVs S.Γ F' as' vs ds → Q vs H'
def A (S : Sc) (es : List Expr) (env : En) (μ : Mu) (P : List D → Mu → Prop) : Prop := PA S.X es (rdA S env μ P)
def rdT (S : Sc) (env : En) (μ : Mu) (P : Bool → Mu → Prop) : TT := fun σ H Q => ∃ F as, At S env μ σ H F as ∧
  ∀ b μ' F' H' as', P b μ' → Go F H as F' H' as' → Wd S.Γ F' H' as' μ' → Q b H'
def T (S : Sc) (e : Expr) (env : En) (μ : Mu) (P : Bool → Mu → Prop) : Prop := PT S.X e (rdT S env μ P)
def W (S : Sc) (e : Expr) (env : En) (μ : Mu) (P : Bool → Mu → Prop) : Prop := PW S.X e (rdT S env μ P)

theorem PE.imp {X : Cx} {e : Expr} {t t' : TE} (h : PE X e t) (i : ∀ σ H Q, t' σ H Q → t σ H Q) : PE X e t' := ⟨fun pins s σ H Q I q => h.run pins s σ H Q I (i σ H Q q)⟩
theorem PT.imp {X : Cx} {e : Expr} {t t' : TT} (h : PT X e t) (i : ∀ σ H Q, t' σ H Q → t σ H Q) : PT X e t' := ⟨fun pins s σ H Q I q => h.run pins s σ H Q I (i σ H Q q)⟩
theorem PW.imp {X : Cx} {e : Expr} {t t' : TT} (h : PW X e t) (i : ∀ σ H Q, t' σ H Q → t σ H Q) : PW X e t' := ⟨fun wh pins s σ H Q I q => h.run wh pins s σ H Q I (i σ H Q q)⟩
theorem PA.imp {X : Cx} {es : List Expr} {t t' : TA} (h : PA X es t) (i : ∀ σ H Q, t' σ H Q → t σ H Q) : PA X es t' := ⟨fun pos pins s σ H Q I q => h.run pos pins s σ H Q I (i σ H Q q)⟩
theorem PS.imp {X : Cx} {st : Stmt} {t t' : TS} (h : PS X st t) (i : ∀ D σ H, t' D σ H → t D σ H) : PS X st t' := ⟨fun pins s σ H D I q => h.run pins s σ H D I (i D σ H q)⟩
theorem PSs.imp {X : Cx} {st : List Stmt} {t t' : TS} (h : PSs X st t) (i : ∀ D σ H, t' D σ H → t D σ H) : PSs X st t' := ⟨fun pins s σ H D I q => h.run pins s σ H D I (i D σ H q)⟩
theorem PO.imp {X : Cx} {t t' : TO} {o : Option Expr} (h : PO X o t) (i : ∀ σ H Q, t' σ H Q → t σ H Q) : PO X o t' := ⟨fun pins s σ H Q I q => h.run pins s σ H Q I (i σ H Q q)⟩
theorem PI.imp {X : Cx} {tg iter : Expr} {wi wi' : TI} (h : PI X tg iter wi) (i : ∀ σ H R, wi' σ H R → wi σ H R) : PI X tg iter wi' := ⟨fun pins s σ H R I q => h.run pins s σ H R I (i σ H R q)⟩
/-! any reading -/
def yE (X : Cx) (e : Expr) : TE := fun σ H Q => ∃ t, PE X e t ∧ t σ H Q
def yA (X : Cx) (e : List Expr) : TA := fun σ H Q => ∃ t, PA X e t ∧ t σ H Q
def yT (X : Cx) (e : Expr) : TT := fun σ H Q => ∃ t, PT X e t ∧ t σ H Q
def yW (X : Cx) (e : Expr) : TT := fun σ H Q => ∃ t, PW X e t ∧ t σ H Q
def yO (X : Cx) (e : Option Expr) : TO := fun σ H Q => ∃ t, PO X e t ∧ t σ H Q
def yS (X : Cx) (st : List Stmt) : TS := fun D σ H => ∃ t, PSs X st t ∧ t D σ H
theorem pe_y {X : Cx} {e : Expr} : PE X e (yE X e) := ⟨fun pins s σ H Q I ⟨t, h, q⟩ => h.run pins s σ H Q I q⟩
theorem pa_y {X : Cx} {e : List Expr} : PA X e (yA X e) := ⟨fun pos pins s σ H Q I ⟨t, h, q⟩ => h.run pos pins s σ H Q I q⟩
theorem pw_y {X : Cx} {e : Expr} : PW X e (yW X e) := ⟨fun wh pins s σ H Q I ⟨t, h, q⟩ => h.run wh pins s σ H Q I q⟩
theorem po_y {X : Cx} {e : Option Expr} : PO X e (yO X e) := ⟨fun pins s σ H Q I ⟨t, h, q⟩ => h.run pins s σ H Q I q⟩
theorem pss_y {X : Cx} {st : List Stmt} : PSs X st (yS X st) := ⟨fun pins s σ H D I ⟨t, h, q⟩ => h.run pins s σ H D I q⟩

section
variable {S : Sc} {env : En} {μ : Mu} {a b c e : Expr} {es : List Expr} {pos p0 : Pos} {x : Str} {P P' : KD} {PB PB' : Bool → Mu → Prop} {PA' PA2 : List D → Mu → Prop}
theorem E.go (h : E S e env μ P) {σ : L2.St} {H F : Hp} {as : List Ad} {Q : VK} (a : At S env μ σ H F as) (k : Kv S F H as P Q) : yE S.X e σ H Q := ⟨_, h, F, as, a, k⟩
theorem A.go (h : A S es env μ PA') {σ : L2.St} {H F : Hp} {as : List Ad} {Q : List V → Hp → Prop} (a : At S env μ σ H F as)
    (k : ∀ ds μ' vs F' H' as', PA' ds μ' → Go F H as F' H' as' → Wd S.Γ F' H' as' μ' → DVs S.Γ F' as' vs ds → Q vs H') : yA S.X es σ H Q := ⟨_, h, F, as, a, k⟩
theorem T.go (h : T S e env μ PB) {σ : L2.St} {H F : Hp} {as : List Ad} {Q : Bool → Hp → Prop} (a : At S env μ σ H F as)
    (k : ∀ b μ' F' H' as', PB b μ' → Go F H as F' H' as' → Wd S.Γ F' H' as' μ' → Q b H') : yT S.X e σ H Q := ⟨_, h, F, as, a, k⟩
theorem W.go (h : W S e env μ PB) {σ : L2.St} {H F : Hp} {as : List Ad} {Q : Bool → Hp → Prop} (a : At S env μ σ H F as)
    (k : ∀ b μ' F' H' as', PB b μ' → Go F H as F' H' as' → Wd S.Γ F' H' as' μ' → Q b H') : yW S.X e σ H Q := ⟨_, h, F, as, a, k⟩
theorem E.imp (h : E S e env μ P) (i : ∀ d m, P d m → P' d m) : E S e env μ P' :=
  PE.imp h fun σ H Q ⟨F, as, a, k⟩ => ⟨F, as, a, fun d m v F' H' as' p => k d m v F' H' as' (i d m p)⟩
theorem T.imp (h : T S e env μ PB) (i : ∀ d m, PB d m → PB' d m) : T S e env μ PB' :=
  PT.imp h fun σ H Q ⟨F, as, a, k⟩ => ⟨F, as, a, fun d m F' H' as' p => k d m F' H' as' (i d m p)⟩
theorem A.imp (h : A S es env μ PA') (i : ∀ d m, PA' d m → PA2 d m) : A S es env μ PA2 :=
  PA.imp h fun σ H Q ⟨F, as, a, k⟩ => ⟨F, as, a, fun d m v F' H' as' p => k d m v F' H' as' (i d m p)⟩
theorem W.t (h : W S e env μ PB) : T S e env μ PB := PW.pt h

theorem e_var (i : Nat) {d : D} (h : env[i]? = some (some d)) (k : P d μ) (hN : S.X.N[i]? = some x := by rfl)
    (hv : Vis S.X.env.scope x := by first | exact Or.inl rfl | exact Or.inr (Or.inl rfl) | exact Or.inr (Or.inr rfl))
    (hd : (x == ("__debug__" : Str)) = false := by decide) (hcd : (x == ("__classdict__" : Str)) = false := by decide) : E S (.Name x pos) env μ P :=
  PE.imp (pe_var hN hv hd hcd) fun σ H Q ⟨F, as, a, kk⟩ => let ⟨v, h1, h2⟩ := a.e.2 i d h; ⟨v, h1, kk d μ v F H as k (Go.refl F H as) a.w h2⟩
theorem e_c {v : V} {d : D} (hp : PE S.X e (tC v)) (hd : ∀ F as, DV S.Γ F as v d) (k : P d μ) : E S e env μ P :=
  PE.imp hp fun σ H Q ⟨F, as, a, kk⟩ => kk d μ v F H as k (Go.refl F H as) a.w (hd F as)
theorem e_int {i : Int} {j : Nat} (k : P (.int i) μ) : E S (.Constant (.int i) j pos) env μ P := e_c pe_int (fun _ _ => .int i) k
theorem e_bl {i : Bool} {j : Nat} (k : P (.bl i) μ) : E S (.Constant (.bool i) j pos) env μ P := e_c pe_bl (fun _ _ => .bl i) k
theorem e_non {j : Nat} (k : P .non μ) : E S (.Constant .none j pos) env μ P := e_c pe_non (fun _ _ => .non) k
theorem e_str {i : Str} {j : Nat} (k : P (.str i) μ) : E S (.Constant (.str i) j pos) env μ P := e_c pe_str (fun _ _ => .str i) k
/-! ### two operands -/
/-- an operation on two values -/
def Op2 (S : Sc) (f : Value → Value → Sem Value) (d1 d2 : D) (env : En) (μ : Mu) (P : KD) : Prop :=
  ∀ (pins : List (Addr × Obj)) (s : Shared) (σ : L2.St) (H : Hp) (x y : V) (v u : Value) (Q : VK) (F : Hp) (as : List Ad), Inv S.X pins σ H s → RelV x v → RelV y u →
    At S env μ σ H F as → DV S.Γ F as x d1 → DV S.Γ F as y d2 → Kv S F H as P Q → wpAny (model S.X.prog S.X.w) S.X.A (f v u) (EP S.X pins σ Q) S.X.xe s
theorem Op2.of {f : Value → Value → Sem Value} {r : R2} {d1 d2 : D} (ho : OpR S.X f r) (h : ∀ F H as x y Q, Wd S.Γ F H as μ → DV S.Γ F as x d1 → DV S.Γ F as y d2 → Kv S F H as P Q → r x y H Q) : Op2 S f d1 d2 env μ P :=
  fun pins s σ H x y v u Q F as I rx ry a h1 h2 k => ho pins s σ H x y v u Q I rx ry (h F H as x y Q a.w h1 h2 k)
theorem two_run {f : Value → Value → Sem Value} (h : E S a env μ fun d1 μ1 => E S b env μ1 fun d2 μ2 => Op2 S f d1 d2 env μ2 P) {σ : L2.St} {H : Hp} {Q : VK} (q : rdE S env μ P σ H Q) :
    yE S.X a σ H fun x H1 => yE S.X b σ H1 fun y H2 => ∀ (pins : List (Addr × Obj)) (s : Shared) (v u : Value), Inv S.X pins σ H2 s → RelV x v → RelV y u → wpAny (model S.X.prog S.X.w) S.X.A (f v u) (EP S.X pins σ Q) S.X.xe s := by
  obtain ⟨F, as, a1, k⟩ := q
  refine h.go a1 fun d1 μ1 v1 F1 H1 as1 p1 g1 W1 r1 => p1.go (a1.go g1 W1) fun d2 μ2 v2 F2 H2 as2 p2 g2 W2 r2 => fun pins s v u I rx ry => ?_
  exact p2 pins s σ H2 v1 v2 v u Q F2 as2 I rx ry ((a1.go g1 W1).go g2 W2) (r1.mono g2) r2 ((k.go g1).go g2)
theorem e_bin {op : Operator} (h : E S a env μ fun d1 μ1 => E S b env μ1 fun d2 μ2 => Op2 S (binaryOp op) d1 d2 env μ2 P) : E S (.BinOp a op b pos) env μ P :=
  ⟨fun pins s σ H Q I q => wpAny_BinOp (binT pe_y pe_y I (two_run h q) fun v u s2 x y H2 I2 rx ry q2 => q2 pins s2 v u I2 rx ry)⟩
theorem e_cmp {op : CmpOp} (h : E S a env μ fun d1 μ1 => E S b env μ1 fun d2 μ2 => Op2 S (compareOp op) d1 d2 env μ2 P) (hm : behindInMarks op b = false := by with_unfolding_all rfl) : E S (.Compare a [op] [b] pos) env μ P :=
  ⟨fun pins s σ H Q I q => wpAny_Compare1 (binT pe_y pe_y I (two_run h q) fun v u s2 x y H2 I2 rx ry q2 => q2 pins s2 v u I2 rx ry) hm⟩
/-- a value that is a truth, as a test -/
def asT (PB : Bool → Mu → Prop) : KD := fun d m => ∃ q, d = .bl q ∧ PB q m
theorem t_cmp {op : CmpOp} (h : E S a env μ fun d1 μ1 => E S b env μ1 fun d2 μ2 => Op2 S (compareOp op) d1 d2 env μ2 (asT PB)) (hm : behindInMarks op b = false := by with_unfolding_all rfl) : T S (.Compare a [op] [b] pos) env μ PB := by
  refine ⟨fun pins s σ H Q I q => ?_⟩
  obtain ⟨F, as, a1, k⟩ := q
  have q' : rdE S env μ (asT PB) σ H (fun x H' => ∃ k, x = .bl k ∧ Q k H') := ⟨F, as, a1, fun d m v F' H' as' ⟨z, e1, e2⟩ g W r => by
    subst e1
    cases r
    exact ⟨z, rfl, k z m F' H' as' e2 g W⟩⟩
  refine wpAny_isTrue_Compare1 (binT (Q := fun v s3 => wpAny (model S.X.prog S.X.w) S.X.A (truthy v) (TP S.X pins σ Q) S.X.xe s3) pe_y pe_y I (two_run h q') fun v u s2 x y H2 I2 rx ry q2 => thn (q2 pins s2 v u I2 rx ry) fun c s3 ⟨z, H3, I3, r3, kk, e, q3⟩ => ?_) hm
  subst e
  cases r3
  exact wpAny_truthy_bool ⟨H3, I3, q3⟩
def Ix2 (S : Sc) (d1 d2 : D) (env : En) (μ : Mu) (P : KD) : Prop :=
  ∀ (value slice : Expr) (pins : List (Addr × Obj)) (s : Shared) (σ : L2.St) (H : Hp) (x y : V) (v u : Value) (Q : VK) (F : Hp) (as : List Ad), Inv S.X pins σ H s → RelV x v → RelV y u →
    At S env μ σ H F as → DV S.Γ F as x d1 → DV S.Γ F as y d2 → Kv S F H as P Q → subscripted slice false v u = operate [v, u] (getItem v u) → wpAny (model S.X.prog S.X.w) S.X.A (subscriptTail value slice v u) (EP S.X pins σ Q) S.X.xe s
theorem Ix2.of {r : R2} {d1 d2 : D} (ho : IxR S.X r) (h : ∀ F H as x y Q, Wd S.Γ F H as μ → DV S.Γ F as x d1 → DV S.Γ F as y d2 → Kv S F H as P Q → r x y H Q) : Ix2 S d1 d2 env μ P :=
  fun va sl pins s σ H x y v u Q F as I rx ry a h1 h2 k hs => ho va sl pins s σ H x y v u Q I rx ry (h F H as x y Q a.w h1 h2 k) hs
theorem e_ix (h : E S a env μ fun d1 μ1 => E S b env μ1 fun d2 μ2 => Ix2 S d1 d2 env μ2 P) (hp : PlainIx b := by exact fun _ _ => rfl) : E S (.Subscript a b pos) env μ P := by
  refine ⟨fun pins s σ H Q I ⟨F, as, a1, k⟩ => ?_⟩
  refine Subscript_ (binT (R := fun x y H2 => ∃ F2 as2 d1 d2 μ2, At S env μ2 σ H2 F2 as2 ∧ DV S.Γ F2 as2 x d1 ∧ DV S.Γ F2 as2 y d2 ∧ Kv S F2 H2 as2 P Q ∧ Ix2 S d1 d2 env μ2 P) pe_y pe_y I ?_ fun v u s2 x y H2 I2 rx ry q2 => ?_)
  · exact h.go a1 fun d1 μ1 v1 F1 H1 as1 p1 g1 W1 r1 => p1.go (a1.go g1 W1) fun d2 μ2 v2 F2 H2 as2 p2 g2 W2 r2 => ⟨F2, as2, d1, d2, μ2, (a1.go g1 W1).go g2 W2, r1.mono g2, r2, (k.go g1).go g2, p2⟩
  · obtain ⟨F2, as2, d1, d2, μ2, a2, r1, r2, k2, p2⟩ := q2
    exact p2 _ _ pins s2 σ H2 x y v u Q F2 as2 I2 rx ry a2 r1 r2 k2 (hp _ _)
def Op1 (S : Sc) (f : Value → Sem Value) (d1 : D) (env : En) (μ : Mu) (P : KD) : Prop :=
  ∀ (pins : List (Addr × Obj)) (s : Shared) (σ : L2.St) (H : Hp) (x : V) (v : Value) (Q : VK) (F : Hp) (as : List Ad), Inv S.X pins σ H s → RelV x v →
    At S env μ σ H F as → DV S.Γ F as x d1 → Kv S F H as P Q → wpAny (model S.X.prog S.X.w) S.X.A (f v) (EP S.X pins σ Q) S.X.xe s
theorem Op1.of {f : Value → Sem Value} {r : V → Hp → VK → Prop} {d1 : D} (ho : UnR S.X f r) (h : ∀ F H as x Q, Wd S.Γ F H as μ → DV S.Γ F as x d1 → Kv S F H as P Q → r x H Q) : Op1 S f d1 env μ P :=
  fun pins s σ H x v Q F as I rx a h1 k => ho pins s σ H x v Q I rx (h F H as x Q a.w h1 k)
theorem e_un {op : UnaryOp} (h : E S a env μ fun d1 μ1 => Op1 S (unaryOp op) d1 env μ1 P) : E S (.UnaryOp op a pos) env μ P := by
  refine ⟨fun pins s σ H Q I ⟨F, as, a1, k⟩ => UnaryOp_ (thn (h.run pins s σ H (fun x H1 => ∃ F2 as2 d1 μ2, At S env μ2 σ H1 F2 as2 ∧ DV S.Γ F2 as2 x d1 ∧ Kv S F2 H1 as2 P Q ∧ Op1 S (unaryOp op) d1 env μ2 P) I ⟨F, as, a1, ?_⟩) fun v s1 ⟨x, H1, I1, r1, F2, as2, d1, μ2, a2, rr, k2, p2⟩ => ?_)⟩
  · exact fun d1 μ1 v1 F1 H1 as1 p1 g1 W1 r1 => ⟨F1, as1, d1, μ1, a1.go g1 W1, r1, k.go g1, p1⟩
  · exact p2 pins s1 σ H1 x v Q F2 as2 I1 r1 a2 rr k2

/-! ### arguments, calls of built-ins -/
theorem a_nil (k : PA' [] μ) : A S [] env μ PA' := PA.imp pa_nil fun σ H Q ⟨F, as, a, kk⟩ => kk [] μ [] F H as k (Go.refl F H as) a.w .nil
theorem a_cons (h : E S e env μ fun d μ1 => A S es env μ1 fun ds μ2 => PA' (d :: ds) μ2) (hs : starEach (e :: es) S.X.env = (false, eval e S.X.env) :: starEach es S.X.env := by rfl) : A S (e :: es) env μ PA' := by
  refine PA.imp (pa_cons pe_y pa_y hs) fun σ H Q ⟨F, as, a, k⟩ => ?_
  refine h.go a fun d μ1 v F1 H1 as1 p1 g1 W1 r1 => p1.go (a.go g1 W1) fun ds μ2 vs F2 H2 as2 p2 g2 W2 r2 => ?_
  exact k _ μ2 _ F2 H2 as2 p2 (g1.trans g2) W2 (.cons (r1.mono g2) r2)
/-- a call of a value with values -/
def Cl (S : Sc) (f : Value) (ds : List D) (env : En) (μ : Mu) (P : KD) : Prop :=
  ∀ (pins : List (Addr × Obj)) (s : Shared) (σ : L2.St) (H : Hp) (xs : List V) (us : List Value) (Q : VK) (F : Hp) (as : List Ad), Inv S.X pins σ H s → Vals xs us →
    At S env μ σ H F as → DVs S.Γ F as xs ds → Kv S F H as P Q → wpAny (model S.X.prog S.X.w) S.X.A (call f us) (EP S.X pins σ Q) S.X.xe s
theorem Cl.of {f : Value} {r : List V → Hp → VK → Prop} {ds : List D} (ho : CallR S.X f r) (h : ∀ F H as xs Q, Wd S.Γ F H as μ → DVs S.Γ F as xs ds → Kv S F H as P Q → r xs H Q) : Cl S f ds env μ P :=
  fun pins s σ H xs us Q F as I rx a h1 k => ho pins s σ H xs us Q I rx (h F H as xs Q a.w h1 k)
theorem arg_run {f : Value} (h : A S es env μ fun ds μ1 => Cl S f ds env μ1 P) {σ : L2.St} {H : Hp} {Q : VK} (q : rdE S env μ P σ H Q) :
    yA S.X es σ H fun xs H1 => ∀ (pins : List (Addr × Obj)) (s : Shared) (us : List Value), Inv S.X pins σ H1 s → Vals xs us → wpAny (model S.X.prog S.X.w) S.X.A (call f us) (EP S.X pins σ Q) S.X.xe s := by
  obtain ⟨F, as, a1, k⟩ := q
  exact h.go a1 fun ds μ1 vs F1 H1 as1 p1 g1 W1 r1 => fun pins s us I rx => p1 pins s σ H1 vs us Q F1 as1 I rx (a1.go g1 W1) r1 (k.go g1)
theorem e_callB {id : String} (hm : S.X.mg x = none) (hv : bootBuiltins x = some (.builtin id)) (h : A S (e :: es) env μ fun ds μ1 => Cl S (.builtin id) ds env μ1 P)
    (hg : Gl S.X x := by rfl) (hn : x ≠ "__name__" := by decide) (hdb : (x == ("__debug__" : Str)) = false := by decide)
    (he : starEach (e :: es) S.X.env = (false, eval e S.X.env) :: starEach es S.X.env := by rfl) (hpl : (backTo pos (starEach es S.X.env)).any (·.1) = false := by rfl) : E S (.Call (.Name x p0) (e :: es) [] pos) env μ P :=
  ⟨fun pins s σ H Q I q => wpAny_Call_Name_kw (ld_blt I hg hm hv (PyProof.Rows.callWith_builtin1 (thn (pa_y.run pos pins s σ H _ I (arg_run h q)) fun us s1 ⟨vs, H1, I1, r1, q1⟩ => q1 pins s1 us I1 r1) he hpl) hn hdb)⟩

theorem e_callTy {Ty : String} (hm : S.X.mg x = none) (hv : bootBuiltins x = some (.type Ty)) (h : A S (e :: es) env μ fun ds μ1 => Cl S (.type Ty) ds env μ1 P)
    (hg : Gl S.X x := by rfl) (hn : x ≠ "__name__" := by decide) (hdb : (x == ("__debug__" : Str)) = false := by decide)
    (he : starEach (e :: es) S.X.env = (false, eval e S.X.env) :: starEach es S.X.env := by rfl) (hpl : (backTo pos (starEach es S.X.env)).any (·.1) = false := by rfl) : E S (.Call (.Name x p0) (e :: es) [] pos) env μ P :=
  ⟨fun pins s σ H Q I q => wpAny_Call_Name_kw (ld_blt I hg hm hv (PyProof.Rows.callWith_type1 (thn (pa_y.run pos pins s σ H _ I (arg_run h q)) fun us s1 ⟨vs, H1, I1, r1, q1⟩ => q1 pins s1 us I1 r1) he hpl) hn hdb)⟩

/-! ### displays -/
theorem e_lst (h : A S es env μ fun ds μ1 => ds.length ≤ sizeLine ∧ P (.lst ds) μ1) : E S (.List es pos) env μ P := by
  refine PE.imp (pe_lst h) fun σ H Q ⟨F, as, a, k⟩ => ⟨F, as, a, fun ds μ1 vs F1 H1 as1 p1 g1 W1 r1 => ?_⟩
  refine ⟨by rw [r1.length]; exact p1.1, fun p np => ?_⟩
  obtain ⟨W2, g2⟩ := W1.addF (o := .lst vs) np
  exact k _ μ1 _ _ _ _ p1.2 (g1.trans g2) W2 (.lst upd_same (r1.mono g2))
theorem e_lstC (h : A S es env μ fun ds μ1 => ds.length ≤ sizeLine ∧ P (.cell μ1.length) (μ1 ++ [.lst ds])) : E S (.List es pos) env μ P := by
  refine PE.imp (pe_lst h) fun σ H Q ⟨F, as, a, k⟩ => ⟨F, as, a, fun ds μ1 vs F1 H1 as1 p1 g1 W1 r1 => ?_⟩
  refine ⟨by rw [r1.length]; exact p1.1, fun p np => ?_⟩
  obtain ⟨W2, g2⟩ := W1.addO (o := .lst vs) (c := .lst ds) np fun nF => ⟨rfl, nF, vs, upd_same, r1.to (Same.refl F1) (fun j hj ad e => by rw [List.getElem?_append_left (List.getElem?_eq_some_iff.mp e).1]; exact e)⟩
  exact k _ _ _ _ _ _ p1.2 (g1.trans g2) W2 (.cell (ad := ⟨p, none⟩) (W1.last _))
theorem e_tup {j : Nat} (h : A S es env μ fun ds μ1 => ds.length ≤ sizeLine ∧ P (.tup ds) μ1) : E S (.Tuple es j pos) env μ P := by
  refine PE.imp (pe_tup h) fun σ H Q ⟨F, as, a, k⟩ => ⟨F, as, a, fun ds μ1 vs F1 H1 as1 p1 g1 W1 r1 => ?_⟩
  refine ⟨by rw [r1.length]; exact p1.1, fun p np => ?_⟩
  obtain ⟨W2, g2⟩ := W1.addF (o := .tup vs) np
  exact k _ μ1 _ _ _ _ p1.2 (g1.trans g2) W2 (.tup upd_same (r1.mono g2))

/-! ### tests and truths -/
theorem w_and1 (h : T S a env μ PB) : W S (.BoolOp .And [a] pos) env μ PB := pw_and1 h
theorem w_or1 (h : T S a env μ PB) : W S (.BoolOp .Or [a] pos) env μ PB := pw_or1 h
theorem w_and (h : T S a env μ fun q μ1 => (q = true → W S (.BoolOp .And (b :: es) pos) env μ1 PB) ∧ (q = false → PB false μ1)) : W S (.BoolOp .And (a :: b :: es) pos) env μ PB := by
  refine PW.imp (pw_and h pw_y) fun σ H Q ⟨F, as, a1, k⟩ => ⟨F, as, a1, fun q μ1 F1 H1 as1 p1 g1 W1 => ?_⟩
  cases q with
  | true => exact (p1.1 rfl).go (a1.go g1 W1) fun b m F2 H2 as2 p2 g2 W2 => k b m F2 H2 as2 p2 (g1.trans g2) W2
  | false => exact k false μ1 F1 H1 as1 (p1.2 rfl) g1 W1
theorem w_or (h : T S a env μ fun q μ1 => (q = true → PB true μ1) ∧ (q = false → W S (.BoolOp .Or (b :: es) pos) env μ1 PB)) : W S (.BoolOp .Or (a :: b :: es) pos) env μ PB := by
  refine PW.imp (pw_or h pw_y) fun σ H Q ⟨F, as, a1, k⟩ => ⟨F, as, a1, fun q μ1 F1 H1 as1 p1 g1 W1 => ?_⟩
  cases q with
  | false => exact (p1.2 rfl).go (a1.go g1 W1) fun b m F2 H2 as2 p2 g2 W2 => k b m F2 H2 as2 p2 (g1.trans g2) W2
  | true => exact k true μ1 F1 H1 as1 (p1.1 rfl) g1 W1
theorem t_bop {op : BoolOp} (h : W S (.BoolOp op es pos) env μ PB) : T S (.BoolOp op es pos) env μ PB := h.t
theorem t_not (h : T S a env μ fun q m => PB (!q) m) : T S (.UnaryOp .Not a pos) env μ PB :=
  PT.imp (pt_not h) fun σ H Q ⟨F, as, a1, k⟩ => ⟨F, as, a1, fun q m F1 H1 as1 p g1 W1 => k (!q) m F1 H1 as1 p g1 W1⟩
theorem t_val (h : E S e env μ (asT PB)) (hp : ∀ whole, isTrue e S.X.env whole = (do let v ← whole; standAt e.pos; holding [v] (truthy v)) := by intro _; rfl) : T S e env μ PB :=
  PT.imp (pt_val h hp) fun σ H Q ⟨F, as, a, k⟩ => ⟨F, as, a, fun d m v F1 H1 as1 ⟨q, e1, p⟩ g1 W1 r1 => by
    subst e1
    cases r1
    exact ⟨q, rfl, k q m F1 H1 as1 p g1 W1⟩⟩
theorem e_one {op : BoolOp} (h : E S a env μ P) : E S (.BoolOp op [a] pos) env μ P := pe_one h
theorem e_and (h : E S a env μ fun d μ1 => ∃ q, d = .bl q ∧ (q = true → E S (.BoolOp .And (b :: es) pos) env μ1 P) ∧ (q = false → P (.bl false) μ1)) : E S (.BoolOp .And (a :: b :: es) pos) env μ P := by
  refine PE.imp (pe_and h pe_y) fun σ H Q ⟨F, as, a1, k⟩ => ⟨F, as, a1, fun d μ1 v F1 H1 as1 ⟨q, e1, pt, pf⟩ g1 W1 r1 => ?_⟩
  subst e1
  cases r1
  refine ⟨q, rfl, ?_⟩
  cases q with
  | true => exact (pt rfl).go (a1.go g1 W1) fun d m v F2 H2 as2 p2 g2 W2 => k d m v F2 H2 as2 p2 (g1.trans g2) W2
  | false => exact k _ μ1 _ F1 H1 as1 (pf rfl) g1 W1 (.bl false)
theorem e_or (h : E S a env μ fun d μ1 => ∃ q, d = .bl q ∧ (q = true → P (.bl true) μ1) ∧ (q = false → E S (.BoolOp .Or (b :: es) pos) env μ1 P)) : E S (.BoolOp .Or (a :: b :: es) pos) env μ P := by
  refine PE.imp (pe_or h pe_y) fun σ H Q ⟨F, as, a1, k⟩ => ⟨F, as, a1, fun d μ1 v F1 H1 as1 ⟨q, e1, pt, pf⟩ g1 W1 r1 => ?_⟩
  subst e1
  cases r1
  refine ⟨q, rfl, ?_⟩
  cases q with
  | false => exact (pf rfl).go (a1.go g1 W1) fun d m v F2 H2 as2 p2 g2 W2 => k d m v F2 H2 as2 p2 (g1.trans g2) W2
  | true => exact k _ μ1 _ F1 H1 as1 (pt rfl) g1 W1 (.bl true)
theorem e_not (h : E S a env μ fun d m => ∃ q, d = .bl q ∧ P (.bl (!q)) m) : E S (.UnaryOp .Not a pos) env μ P :=
  PE.imp (pe_not h) fun σ H Q ⟨F, as, a1, k⟩ => ⟨F, as, a1, fun d m v F1 H1 as1 ⟨q, e1, p⟩ g1 W1 r1 => by
    subst e1
    cases r1
    exact ⟨q, rfl, k _ m _ F1 H1 as1 p g1 W1 (.bl _)⟩⟩
theorem e_ite (h : T S c env μ fun q μ1 => (q = true → E S a env μ1 P) ∧ (q = false → E S b env μ1 P)) : E S (.IfExp c a b pos) env μ P := by
  refine PE.imp (pe_ifExp h pe_y pe_y) fun σ H Q ⟨F, as, a1, k⟩ => ⟨F, as, a1, fun q μ1 F1 H1 as1 p g1 W1 => ?_⟩
  cases q with
  | true => exact (p.1 rfl).go (a1.go g1 W1) fun d m v F2 H2 as2 p2 g2 W2 => k d m v F2 H2 as2 p2 (g1.trans g2) W2
  | false => exact (p.2 rfl).go (a1.go g1 W1) fun d m v F2 H2 as2 p2 g2 W2 => k d m v F2 H2 as2 p2 (g1.trans g2) W2
/-! ### slices -/
def OI (S : Sc) (e : Option Expr) (env : En) (μ : Mu) (P : Option Int → Mu → Prop) : Prop := PO S.X e fun σ H Q => ∃ F as, At S env μ σ H F as ∧ ∀ o μ' F' H' as', P o μ' → Go F H as F' H' as' → Wd S.Γ F' H' as' μ' → Q o H'
theorem o_none {PP : Option Int → Mu → Prop} (k : PP none μ) : OI S none env μ PP := PO.imp po_none fun σ H Q ⟨F, as, a, kk⟩ => kk none μ F H as k (Go.refl F H as) a.w
theorem o_some {PP : Option Int → Mu → Prop} (h : E S e env μ fun d m => ∃ i, d = .int i ∧ PP (some i) m) : OI S (some e) env μ PP :=
  PO.imp (po_some h) fun σ H Q ⟨F, as, a, kk⟩ => ⟨F, as, a, fun d m v F1 H1 as1 ⟨i, e1, p⟩ g1 W1 r1 => by
    subst e1
    cases r1
    exact ⟨i, rfl, kk _ m F1 H1 as1 p g1 W1⟩⟩
def Sl3 (S : Sc) (d : D) (lo hi : Option Int) (μ : Mu) (P : KD) : Prop := ∃ r, SlR S.X r ∧ ∀ F H as x Q, Wd S.Γ F H as μ → DV S.Γ F as x d → Kv S F H as P Q → r x lo hi H Q
theorem e_sl {lo hi : Option Expr} {p2 : Pos} (h : E S e env μ fun d μ1 => OI S lo env μ1 fun i μ2 => OI S hi env μ2 fun j μ3 => Sl3 S d i j μ3 P) : E S (.Subscript e (.Slice lo hi none p2) pos) env μ P := by
  have sl : SlR S.X (fun x lo hi H Q => ∃ r, SlR S.X r ∧ r x lo hi H Q) := fun pins s σ H x v vl vu lo hi sl Q I rx hs pl pu ⟨r, h, q⟩ => h pins s σ H x v vl vu lo hi sl Q I rx hs pl pu q
  refine PE.imp (pe_slice sl pe_y po_y po_y) fun σ H Q ⟨F, as, a, k⟩ => ?_
  refine h.go a fun d μ1 v F1 H1 as1 p1 g1 W1 r1 => ⟨_, p1, F1, as1, a.go g1 W1, fun i μ2 F2 H2 as2 p2 g2 W2 => ⟨_, p2, F2, as2, (a.go g1 W1).go g2 W2, fun j μ3 F3 H3 as3 p3 g3 W3 => ?_⟩⟩
  obtain ⟨r, hr, hh⟩ := p3
  exact ⟨r, hr, hh F3 H3 as3 v Q W3 ((r1.mono g2).mono g3) (((k.go g1).go g2).go g3)⟩
end
end Me

/-! Me3: statements, loops, comprehensions. -/
namespace Me
open PySem PySem.Spec PyProof.Rows L2

inductive Out where
  | next (env : En) (μ : Mu)
  | ret (d : D) (μ : Mu)
  | brk (env : En) (μ : Mu)
  | cont (env : En) (μ : Mu)
structure Ed (S : Sc) (F H : Hp) (as : List Ad) (R : Out → Prop) (D : Ends) : Prop where
  nx : ∀ env' μ' σ' F' H' as', R (.next env' μ') → Go F H as F' H' as' → EnvOk S.Γ F' as' env' σ' → Wd S.Γ F' H' as' μ' → D.nx σ' H'
  rt : ∀ d μ' v F' H' as', R (.ret d μ') → Go F H as F' H' as' → Wd S.Γ F' H' as' μ' → DV S.Γ F' as' v d → D.rt v H'
  bk : ∀ env' μ' σ' F' H' as', R (.brk env' μ') → Go F H as F' H' as' → EnvOk S.Γ F' as' env' σ' → Wd S.Γ F' H' as' μ' → D.bk σ' H'
  ct : ∀ env' μ' σ' F' H' as', R (.cont env' μ') → Go F H as F' H' as' → EnvOk S.Γ F' as' env' σ' → Wd S.Γ F' H' as' μ' → D.ct σ' H'
theorem Ed.go {S : Sc} {F H F1 H1 : Hp} {as as1 : List Ad} {R : Out → Prop} {D : Ends} (k : Ed S F H as R D) (g : Go F H as F1 H1 as1) : Ed S F1 H1 as1 R D :=
  ⟨fun e m s F' H' as' r g' => k.nx e m s F' H' as' r (g.trans g'), fun e m s F' H' as' r g' => k.rt e m s F' H' as' r (g.trans g'),
   fun e m s F' H' as' r g' => k.bk e m s F' H' as' r (g.trans g'), fun e m s F' H' as' r g' => k.ct e m s F' H' as' r (g.trans g')⟩
theorem Ed.imp {S : Sc} {F H : Hp} {as : List Ad} {R R' : Out → Prop} {D : Ends} (k : Ed S F H as R D) (i : ∀ o, R' o → R o) : Ed S F H as R' D :=
  ⟨fun e m s F' H' as' r => k.nx e m s F' H' as' (i _ r), fun e m s F' H' as' r => k.rt e m s F' H' as' (i _ r), fun e m s F' H' as' r => k.bk e m s F' H' as' (i _ r), fun e m s F' H' as' r => k.ct e m s F' H' as' (i _ r)⟩
def rdS (S : Sc) (env : En) (μ : Mu) (R : Out → Prop) : TS := fun D σ H => ∃ F as, At S env μ σ H F as ∧ Ed S F H as R D
def B (S : Sc) (sts : List Stmt) (env : En) (μ : Mu) (R : Out → Prop) : Prop := PSs S.X sts (rdS S env μ R)
def B1 (S : Sc) (st : Stmt) (env : En) (μ : Mu) (R : Out → Prop) : Prop := PS S.X st (rdS S env μ R)

section
variable {S : Sc} {env : En} {μ : Mu} {a b c e tg iter : Expr} {es : List Expr} {st : Stmt} {rest body A1 B1' : List Stmt} {R R1 : Out → Prop} {pos p0 p1 p2 : Pos} {x y z : Str} {P : KD}
theorem B.imp (h : B S body env μ R1) (i : ∀ o, R1 o → R o) : B S body env μ R := PSs.imp h fun D σ H ⟨F, as, a, k⟩ => ⟨F, as, a, k.imp i⟩
theorem B.go (h : B S body env μ R) {σ : L2.St} {H F : Hp} {as : List Ad} {D : Ends} (a : At S env μ σ H F as) (k : Ed S F H as R D) : yS S.X body D σ H := ⟨_, h, F, as, a, k⟩
/-- a block that the rest follows -/
def Thn (S : Sc) (rest : List Stmt) (R : Out → Prop) : Out → Prop
  | .next env μ => B S rest env μ R
  | o => R o
theorem b_nil (h : R (.next env μ)) : B S [] env μ R := PSs.imp pss_nil fun D σ H ⟨F, as, a, k⟩ => k.nx env μ σ F H as h (Go.refl F H as) a.e a.w
theorem b_cons (h1 : B1 S st env μ (Thn S rest R)) : B S (st :: rest) env μ R := by
  refine PSs.imp (pss_cons h1 pss_y) fun D σ H ⟨F, as, a, k⟩ => ?_
  refine ⟨F, as, a, fun env' μ' σ' F' H' as' h g he' W' => ?_, k.rt, k.bk, k.ct⟩
  exact B.go h ⟨he', W', a.k.go g⟩ (k.go g)
theorem b_set (i : Nat) (h : E S e env μ fun d μ1 => B S rest (env.set i (some d)) μ1 R) (hi : S.X.N[i]? = some x := by rfl)
    (hx : Loc S.X.env.scope x := by first | exact .inl rfl | exact .inr rfl) (hs : swapsWith e (some (.Name x p0)) pos.line S.X.env = pure false := by rfl)
    (hf : S.X.fn x = true ∨ S.X.env.scope.names.lookup x = some .local := by first | exact .inl rfl | exact .inr rfl) : B S (.Assign [.Name x p0] e pos :: rest) env μ R := by
  refine b_cons (PS.imp (ps_set S.hN hi hx h hs hf) fun D σ H ⟨F, as, a, k⟩ => ?_)
  exact ⟨F, as, a, fun d μ1 v F1 H1 as1 p1 g1 W1 r1 => k.nx _ μ1 _ F1 H1 as1 p1 g1 ((a.e.mono g1).set r1 i) W1⟩
theorem b_ret (h : E S e env μ fun d μ1 => R (.ret d μ1)) : B S (.Return (some e) pos :: rest) env μ R :=
  b_cons (PS.imp (ps_ret h) fun D σ H ⟨F, as, a, k⟩ => ⟨F, as, a, fun d μ1 v F1 H1 as1 p1 g1 W1 r1 => k.rt d μ1 v F1 H1 as1 p1 g1 W1 r1⟩)
theorem b_expr (h : E S e env μ fun d μ1 => B S rest env μ1 R) (hs : swapsWith e none pos.line S.X.env = pure false := by rfl) : B S (.Expr e pos :: rest) env μ R :=
  b_cons (PS.imp (ps_expr h hs) fun D σ H ⟨F, as, a, k⟩ => ⟨F, as, a, fun d μ1 v F1 H1 as1 p1 g1 W1 r1 => k.nx env μ1 σ F1 H1 as1 p1 g1 (a.e.mono g1) W1⟩)
theorem b_if (h : T S c env μ fun q μ1 => (q = true → B S A1 env μ1 (Thn S rest R)) ∧ (q = false → B S B1' env μ1 (Thn S rest R))) : B S (.If c A1 B1' pos :: rest) env μ R := by
  refine b_cons (PS.imp (ps_if h pss_y pss_y) fun D σ H ⟨F, as, a, k⟩ => ⟨F, as, a, fun q μ1 F1 H1 as1 p1 g1 W1 => ?_⟩)
  cases q with
  | true => exact (p1.1 rfl).go (a.go g1 W1) (k.go g1)
  | false => exact (p1.2 rfl).go (a.go g1 W1) (k.go g1)
/-- an if whose ways meet -/
def JR (J : En → Mu → Prop) (R : Out → Prop) : Out → Prop
  | .next env μ => J env μ
  | o => R o
theorem JR.thn {J : En → Mu → Prop} (hJ : ∀ env μ, J env μ → B S rest env μ R) : ∀ o, JR J R o → Thn S rest R o
  | .next env μ, h => hJ env μ h
  | .ret _ _, h => h
  | .brk _ _, h => h
  | .cont _ _, h => h
/-- x, y = a, b -/
theorem b_par (i j : Nat) {pt pt2 : Pos} {kt k2 : Nat} (hc : S.X.calm = true) (h : A S [a, b] env μ fun ds μ1 => ∃ d1 d2, ds = [d1, d2] ∧ B S rest ((env.set i (some d1)).set j (some d2)) μ1 R)
    (hi : S.X.N[i]? = some x := by rfl) (hj : S.X.N[j]? = some y := by rfl) (hij : i ≠ j := by decide) (hx : S.X.env.scope.names.lookup x = some .local := by rfl) (hy : S.X.env.scope.names.lookup y = some .local := by rfl)
    (hw : swappedStores [.Tuple [.Name x p0, .Name y p1] kt pt] (.Tuple [a, b] k2 pt2) S.X.env = pure (some [x, y]) := by rfl)
    (hs : swapsWithSole [.Tuple [.Name x p0, .Name y p1] kt pt] (.Tuple [a, b] k2 pt2) pos.line S.X.env = pure false := by rfl) :
    B S (.Assign [.Tuple [.Name x p0, .Name y p1] kt pt] (.Tuple [a, b] k2 pt2) pos :: rest) env μ R := by
  refine b_cons (PS.imp (ps_par hc S.hN hi hj hij hx hy h hw hs) fun D σ H ⟨F, as, a, k⟩ => ?_)
  refine ⟨F, as, a, fun ds μ1 vs F1 H1 as1 ⟨d1, d2, e1, p1⟩ g1 W1 r1 => ?_⟩
  subst e1
  cases r1 with
  | cons h1 t1 =>
    cases t1 with
    | cons h2 t2 =>
      cases t2
      exact ⟨_, _, rfl, k.nx _ μ1 _ F1 H1 as1 p1 g1 (((a.e.mono g1).set h1 i).set h2 j) W1⟩

/-! ### targets, iterables -/
/-- a value goes to a target -/
def rdG (S : Sc) (rel : D → En → En → Prop) (vs : List Nat) : TG := fun v σ H Q =>
  ∃ d env env' F as, rel d env env' ∧ DV S.Γ F as v d ∧ Same F H ∧ EnvOk S.Γ F as env σ ∧ ∀ σ', EnvOk S.Γ F as env' σ' → wipe σ' vs = wipe σ vs → Q σ' H
def Tg (S : Sc) (tg : Expr) (rel : D → En → En → Prop) (vs : List Nat) : Prop := PG S.X tg (rdG S rel vs)
theorem wipe1 (σ : L2.St) (i : Nat) (a : Option V) : wipe (σ.set i a) [i] = wipe σ [i] := List.set_set _
def rName (i : Nat) : D → En → En → Prop := fun d env env' => env' = env.set i (some d)
def rPair (i j : Nat) : D → En → En → Prop := fun d env env' => ∃ d1 d2, d = .tup [d1, d2] ∧ env' = (env.set i (some d1)).set j (some d2)
def rTri (i j k : Nat) : D → En → En → Prop := fun d env env' => ∃ d1 d2 d3, d = .tup [d1, d2, d3] ∧ env' = ((env.set i (some d1)).set j (some d2)).set k (some d3)
theorem g_name (i : Nat) (hi : S.X.N[i]? = some x := by rfl) (hx : Loc S.X.env.scope x := by first | exact .inl rfl | exact .inr rfl)
    (hf : S.X.fn x = true ∨ S.X.env.scope.names.lookup x = some .local := by first | exact .inl rfl | exact .inr rfl) : Tg S (.Name x pos) (rName i) [i] :=
  ⟨fun pins s σ H v u Q I r ⟨d, env, env', F, as, h, dv, sm, he, k⟩ => (pg_name (i := i) S.hN hi hx hf).run pins s σ H v u Q I r (k _ (h ▸ he.set dv i) (wipe1 σ i _))⟩
/-- what a walk over the data ds is, while Sx holds of the cells -/
def IsWalk (S : Sc) (ds : List D) (Sx : Mu → Prop) (F1 H1 : Hp) (as1 : List Ad) (J : It) : Prop := ∃ G Y, Walk J ds.length G Y ∧
  (∀ F2 H2 as2 μ2, Go F1 H1 as1 F2 H2 as2 → Wd S.Γ F2 H2 as2 μ2 → Sx μ2 → G H2) ∧
  (∀ (i : Nat) F2 H2 as2 μ2 x H', Go F1 H1 as1 F2 H2 as2 → Wd S.Γ F2 H2 as2 μ2 → Sx μ2 → Y i H2 x H' → i < ds.length → ∃ F3 d, ds[i]? = some d ∧ Go F2 H2 as2 F3 H' as2 ∧ Wd S.Γ F3 H' as2 μ2 ∧ DV S.Γ F3 as2 x d)
abbrev KI := List D → (Mu → Prop) → Mu → Prop
def rdI (S : Sc) (env : En) (μ : Mu) (PI : KI) : TI := fun σ H R => ∃ F as, At S env μ σ H F as ∧ ∀ ds Sx μ1 J F1 H1 as1, PI ds Sx μ1 → Go F H as F1 H1 as1 → Wd S.Γ F1 H1 as1 μ1 → IsWalk S ds Sx F1 H1 as1 J → R J H1
def Iter (S : Sc) (tg iter : Expr) (env : En) (μ : Mu) (PI : KI) : Prop := L2.PI S.X tg iter (rdI S env μ PI)
end
end Me

/-! Me4: iterables, loops, comprehensions. -/
namespace Me
open PySem PySem.Spec PyProof.Rows L2
/-- what a value is, a cell opened -/
def vw (μ : Mu) : D → D
  | .cell j => match μ[j]? with
    | some (.lst ds) => .lst ds
    | some (.dct t _ kvs) => .dct t kvs
    | some (.ins c fs) => .ins c fs
    | _ => .cell j
  | d => d
section
variable {Γ : Gam} {F H : Hp} {as : List Ad} {μ : Mu} {v : V} {d : D} {ds : List D}
theorem Wd.lst (W : Wd Γ F H as μ) (r : DV Γ F as v d) (h : vw μ d = .lst ds) : ∃ a vs, v = .ref a ∧ H a = some (.lst vs) ∧ DVs Γ F as vs ds := by
  cases r with
  | lst h1 h2 =>
    obtain rfl := D.lst.inj h
    exact ⟨_, _, rfl, W.sub _ _ h1, h2⟩
  | @cell j ad h1 =>
    simp only [vw] at h
    cases hc : μ[j]? with
    | none => rw [hc] at h; cases h
    | some c =>
      rw [hc] at h
      cases c with
      | lst es =>
        obtain rfl := D.lst.inj h
        obtain ⟨_, _, vs, h2, h3⟩ := W.ok j ad _ h1 hc
        exact ⟨_, vs, rfl, h2, h3⟩
      | dct _ _ _ => cases h
      | ins _ _ => cases h
      | dead => cases h
      | gd _ _ => cases h
      | ts _ _ _ => cases h
      | gl _ _ _ => cases h
  | non => cases h
  | bl _ => cases h
  | int _ => cases h
  | str _ => cases h
  | tup _ _ => cases h
  | dctK _ _ => cases h
  | dctT _ _ => cases h
  | ins _ _ _ => cases h
  | err0 _ _ => cases h
  | ty _ => cases h
  | tpx _ _ => cases h
  | cls _ => cases h
  | err1 _ _ _ _ => cases h
  | err2 _ _ _ => cases h
  | err3 _ _ _ _ _ => cases h
theorem DV.tupV (r : DV Γ F as v (.tup ds)) : ∃ a vs, v = .ref a ∧ F a = some (.tup vs) ∧ DVs Γ F as vs ds := by
  cases r with
  | tup h1 h2 => exact ⟨_, _, rfl, h1, h2⟩
end
section
variable {S : Sc} {env : En} {μ : Mu} {a b c e tg iter : Expr} {es : List Expr} {st : Stmt} {rest body : List Stmt} {R : Out → Prop} {pos p0 p1 p2 : Pos} {x y z : Str} {P : KD} {PI : KI}
theorem stays_walk {ds : List D} {J : It} {F1 H1 : Hp} {as1 : List Ad} {Sx : Mu → Prop} (G : Hp → Prop) (Y : Nat → Hp → V → Hp → Prop) (w : Walk J ds.length G Y)
    (hG : ∀ F2 H2 as2 μ2, Go F1 H1 as1 F2 H2 as2 → Wd S.Γ F2 H2 as2 μ2 → Sx μ2 → G H2)
    (hY : ∀ (i : Nat) F2 H2 as2 μ2 x H', Go F1 H1 as1 F2 H2 as2 → Wd S.Γ F2 H2 as2 μ2 → Sx μ2 → Y i H2 x H' → i < ds.length → H' = H2 ∧ ∃ d, ds[i]? = some d ∧ DV S.Γ F2 as2 x d) : IsWalk S ds Sx F1 H1 as1 J :=
  ⟨G, Y, w, hG, fun i F2 H2 as2 μ2 x H' g2 W2 s2 y hi => by
    obtain ⟨rfl, d, h1, h2⟩ := hY i F2 H2 as2 μ2 x H' g2 W2 s2 y hi
    exact ⟨F2, d, h1, Go.refl _ _ _, W2, h2⟩⟩
theorem i_tup (h : E S iter env μ fun d m => ∃ ds, d = .tup ds ∧ PI ds (fun _ => True) m) : Iter S tg iter env μ PI := by
  refine Me.PI.imp (pi_tup h) fun σ H R ⟨F, as, a, k⟩ => ⟨F, as, a, fun d m v F1 H1 as1 ⟨ds, hv, p1⟩ g1 W1 r1 => ?_⟩
  subst hv
  obtain ⟨p, vs, rfl, e, q⟩ := DV.tupV r1
  refine ⟨p, rfl, ⟨vs, .inl (.inl (W1.sub _ _ e))⟩, k ds _ m (Itt S.X.K p) F1 H1 as1 p1 g1 W1 ?_⟩
  refine stays_walk (fun H => SqT S.X.K H p vs) (YAt vs) (by rw [← q.length]; exact walk_tup) ?_ ?_
  · exact fun F2 H2 as2 μ2 g2 W2 _ => .inl (.inl (W2.sub _ _ (g2.sub _ _ e)))
  · rintro i F2 H2 as2 μ2 x H' g2 W2 h2 ⟨rfl, y⟩ hi
    obtain ⟨d, h1, h2⟩ := q.getV y
    exact ⟨rfl, d, h1, h2.mono g2⟩
def rangeD (lo : Int) (n : Nat) : List D := (List.range n).map fun (i : Nat) => D.int (lo + i)
theorem rangeD_len (lo : Int) (n : Nat) : (rangeD lo n).length = n := by unfold rangeD; simp
theorem rangeD_get {lo : Int} {n i : Nat} (h : i < n) : (rangeD lo n)[i]? = some (.int (lo + i)) := by unfold rangeD; simp [h]
theorem range_go {lo : Int} {n : Nat} {F1 H1 : Hp} {as1 : List Ad} : IsWalk S (rangeD lo n) (fun _ => True) F1 H1 as1 (Itr lo n) := by
  refine stays_walk _ _ (by rw [rangeD_len]; exact walk_range) (fun _ _ _ _ _ _ _ => trivial) ?_
  rintro i F2 H2 as2 μ2 x H' g2 W2 h2 ⟨rfl, y⟩ hi
  rw [rangeD_len] at hi
  exact ⟨rfl, _, rangeD_get hi, y ▸ .int _⟩
theorem i_range1 (hm : S.X.mg "range" = none) (h : E S a env μ fun d m => ∃ n, d = .int n ∧ (-(2 ^ 62) ≤ n ∧ n < 2 ^ 62) ∧ PI (rangeD 0 n.toNat) (fun _ => True) m) (hg : Gl S.X "range" := by rfl)
    (hs : starEach [a] S.X.env = [(false, eval a S.X.env)] := by rfl) : Iter S tg (.Call (.Name "range" p0) [a] [] pos) env μ PI := by
  refine Me.PI.imp (pi_range1 hg hm (pa_cons h pa_nil hs) hs) fun σ H R ⟨F, as, a, k⟩ => ⟨F, as, a, fun d m v F1 H1 as1 ⟨n, e1, hz, p1⟩ g1 W1 r1 => ?_⟩
  subst e1
  cases r1
  exact ⟨n, rfl, hz.1, hz.2, k _ _ m _ F1 H1 as1 p1 g1 W1 range_go⟩
def signsD (z : Str) : List D := z.cps.toList.map fun c => D.str ⟨#[c]⟩
/-- what a turn may lead to -/
def LoopR (S : Sc) (rest : List Stmt) (R : Out → Prop) (I : Nat → En → Mu → Prop) (k : Nat) : Out → Prop
  | .next env μ => I (k + 1) env μ
  | .cont env μ => I (k + 1) env μ
  | .brk env μ => B S rest env μ R
  | .ret sv μ => R (.ret sv μ)
/-- a loop over ds by an invariant -/
structure Loop (S : Sc) (rel : D → En → En → Prop) (body rest : List Stmt) (R : Out → Prop) (env : En) (I : Nat → En → Mu → Prop) (ds : List D) (Sx : Mu → Prop) (μ1 : Mu) : Prop where
  start : I 0 env μ1
  stay : ∀ k env μ, I k env μ → Sx μ
  turn : ∀ k d env μ, ds[k]? = some d → I k env μ → ∃ env', rel d env env' ∧ B S body env' μ (LoopR S rest R I k)
  done : ∀ env μ, I ds.length env μ → B S rest env μ R
theorem b_for {rel : D → En → En → Prop} {vs : List Nat} (hc : S.X.calm = true) (hg : Tg S tg rel vs)
    (h : Iter S tg iter env μ fun ds Sx μ1 => ∃ I, Loop S rel body rest R env I ds Sx μ1) (hf : ∀ x, foldedSetIterable iter S.X.env x = pure x := by intro _; rfl) : B S (.For tg iter body [] pos :: rest) env μ R := by
  refine b_cons (PS.imp (ps_for S.hp hc h hg pss_y hf) fun D σ H ⟨F, as, a, k⟩ => ?_)
  refine ⟨F, as, a, fun ds Sx μ1 J F1 H1 as1 ⟨I, L⟩ g1 W1 ⟨G, Y, w, hG, hY⟩ => ?_⟩
  refine for_it (g := rdG S rel vs) (tb := yS S.X body) (D := D) w (fun k σ H => ∃ env μ F2 as2, I k env μ ∧ EnvOk S.Γ F2 as2 env σ ∧ Wd S.Γ F2 H as2 μ ∧ Go F1 H1 as1 F2 H as2) ⟨env, μ1, F1, as1, L.start, a.e.mono g1, W1, Go.refl _ _ _⟩ ?_ ?_ ?_
  · rintro k σ2 H2 _ ⟨env2, μ2, F2, as2, i2, e2, W2, g2⟩
    exact hG F2 H2 as2 μ2 g2 W2 (L.stay k env2 μ2 i2)
  · rintro k2 v σ2 H2 H' hk ⟨env2, μ2, F2, as2, i2, e2, W2, g2⟩ y
    obtain ⟨F3, d, hd1, g3, W3, dv⟩ := hY k2 F2 H2 as2 μ2 v H' g2 W2 (L.stay k2 env2 μ2 i2) y hk
    obtain ⟨env3, r3, b3⟩ := L.turn k2 d env2 μ2 hd1 i2
    refine ⟨d, env2, env3, F3, as2, r3, dv, W3.sub, e2.mono g3, fun σ3 e3 _ => b3.go ⟨e3, W3, ((a.k.go g1).go g2).go g3⟩ ⟨?_, ?_, ?_, ?_⟩⟩
    · exact fun e4 m4 s4 F4 H4 as4 r4 g4 q4 W4 => ⟨e4, m4, F4, as4, r4, q4, W4, (g2.trans g3).trans g4⟩
    · exact fun e4 m4 s4 F4 H4 as4 r4 g4 W4 q4 => k.rt e4 m4 s4 F4 H4 as4 r4 (((g1.trans g2).trans g3).trans g4) W4 q4
    · exact fun e4 m4 s4 F4 H4 as4 r4 g4 q4 W4 => k.nx e4 m4 s4 F4 H4 as4 r4 (((g1.trans g2).trans g3).trans g4) q4 W4
    · exact fun e4 m4 s4 F4 H4 as4 r4 g4 q4 W4 => ⟨e4, m4, F4, as4, r4, q4, W4, (g2.trans g3).trans g4⟩
  · rintro σ2 H2 ⟨env2, μ2, F2, as2, i2, e2, W2, g2⟩
    exact k.nx env2 μ2 σ2 F2 H2 as2 (L.done env2 μ2 i2) (g1.trans g2) e2 W2
def WhileR (S : Sc) (rest : List Stmt) (R : Out → Prop) (I : Nat → En → Mu → Prop) (n : Nat) : Out → Prop
  | .next env μ => ∃ m, m < n ∧ I m env μ
  | .cont env μ => ∃ m, m < n ∧ I m env μ
  | .brk env μ => B S rest env μ R
  | .ret sv μ => R (.ret sv μ)
end
end Me

/-! Me5: comprehensions. -/
namespace Me
open PySem PySem.Spec PyProof.Rows L2
/-- the scene of a comprehension's block -/
abbrev Blk (S : Sc) (scope : Scope) (s : Shared) (H : Hp) (C : Addr) (cl : List (Str × Addr)) (fp : List Addr) : Sc := ⟨S.Γ, S.X.blk s H scope (compEnvC scope cl C S.X.env) fp, fun _ _ _ => False, S.hK, S.hg, S.hN, PassesOwn.never, S.hb, S.k, S.rm⟩
def AllB (S : Sc) (scope : Scope) (p : Sc → Prop) : Prop := ∀ s H C cl fp, p (Blk S scope s H C cl fp)
def Ts (S : Sc) (ifs : List Expr) (env : En) (μ : Mu) (PB : Bool → Mu → Prop) : Prop := PTs S.X ifs (rdT S env μ PB)
def wipeE (env : En) : List Nat → En
  | [] => env
  | v :: vs => (wipeE env vs).set v none
theorem EnvOk.wipe {Γ : Gam} {F : Hp} {as : List Ad} {env : En} {σ : L2.St} (h : EnvOk Γ F as env σ) : ∀ vs : List Nat, EnvOk Γ F as (wipeE env vs) (L2.wipe σ vs)
  | [] => h
  | v :: vs => (h.wipe vs).set0 v
theorem wipe_in {σ : L2.St} {i : Nat} : ∀ {vs : List Nat}, i ∈ vs → (L2.wipe σ vs)[i]? = (σ[i]?).map fun _ => none
  | v :: vs, h => by
    show ((L2.wipe σ vs).set v none)[i]? = _
    rw [List.getElem?_set]
    by_cases e : v = i
    · subst e
      rw [if_pos rfl, wipe_length]
      by_cases hl : v < σ.length
      · rw [if_pos hl, List.getElem?_eq_getElem hl]; rfl
      · rw [if_neg hl, List.getElem?_eq_none (by omega)]; rfl
    · rw [if_neg e]
      exact wipe_in ((List.mem_cons.mp h).resolve_left (Ne.symm e))
theorem wipe_wipe (σ : L2.St) (vs : List Nat) : L2.wipe (L2.wipe σ vs) vs = L2.wipe σ vs := by
  refine List.ext_getElem? fun i => ?_
  by_cases h : i ∈ vs
  · rw [wipe_in h, wipe_in h]
    cases σ[i]? <;> rfl
  · rw [wipe_out h]
theorem ko_blk {S : Sc} {scope : Scope} {s : Shared} {H : Hp} {C : Addr} {cl : List (Str × Addr)} {fp : List Addr} {F1 H1 : Hp} {as : List Ad} : Ko (Blk S scope s H C cl fp) F1 H1 as := fun _ _ _ _ _ _ _ _ _ z => z.elim
section
variable {S : Sc} {env : En} {μ : Mu} {a b c e elt kx vx tg iter : Expr} {ifs : List Expr} {rest : List Stmt} {R : Out → Prop} {pos p0 p1 spos : Pos} {x y : Str} {scope : Scope} {P : KD} {PB : Bool → Mu → Prop}
theorem ts_nil (k : PB true μ) : Ts S [] env μ PB := ⟨fun pins s σ H Q I ⟨F, as, a, kk⟩ => pts_nil.run pins s σ H Q I (kk true μ F H as k (Go.refl F H as) a.w)⟩
/-- readings that serve every block -/
def rdTT (S : Sc) (scope : Scope) (ifs : List Expr) : TT := fun σ H Q => ∃ env m PB F as, AllB S scope (fun S' => Ts S' ifs env m PB) ∧ EnvOk S.Γ F as env σ ∧ Wd S.Γ F H as m ∧
  ∀ b μ' F' H' as', PB b μ' → Go F H as F' H' as' → Wd S.Γ F' H' as' μ' → Q b H'
def rdEE (S : Sc) (scope : Scope) (elt : Expr) : TE := fun σ H Q => ∃ env m P F as, AllB S scope (fun S' => E S' elt env m P) ∧ EnvOk S.Γ F as env σ ∧ Wd S.Γ F H as m ∧ Kv S F H as P Q
theorem pts_all (s : Shared) (H : Hp) (C : Addr) (cl : List (Str × Addr)) (fp : List Addr) : PTs (S.X.blk s H scope (compEnvC scope cl C S.X.env) fp) ifs (rdTT S scope ifs) :=
  ⟨fun pins s2 σ H2 Q J ⟨env, m, PB, F, as, h, e, w, k⟩ => (h s H C cl fp).run pins s2 σ H2 Q J ⟨F, as, ⟨e, w, ko_blk⟩, k⟩⟩
theorem pe_all (s : Shared) (H : Hp) (C : Addr) (cl : List (Str × Addr)) (fp : List Addr) : PE (S.X.blk s H scope (compEnvC scope cl C S.X.env) fp) elt (rdEE S scope elt) :=
  ⟨fun pins s2 σ H2 Q J ⟨env, m, P, F, as, h, e, w, k⟩ => (h s H C cl fp).run pins s2 σ H2 Q J ⟨F, as, ⟨e, w, ko_blk⟩, k⟩⟩
/-- a comprehension by an invariant -/
structure Comp (S : Sc) (scope : Scope) (rel : D → En → En → Prop) (vs : List Nat) (elt : Expr) (ifs : List Expr) (env : En) (I : Nat → List D → Mu → Prop) (ds : List D) (Sx : Mu → Prop) (μ1 : Mu) (fin : List D → Mu → Prop) : Prop where
  size : ds.length ≤ sizeLine
  start : I 0 [] μ1
  stay : ∀ k acc μ, I k acc μ → Sx μ
  turn : ∀ k d acc m, ds[k]? = some d → I k acc m → ∃ env2 PB, rel d (wipeE env vs) env2 ∧ AllB S scope (fun S' => Ts S' ifs env2 m PB) ∧
    ∀ q m1, PB q m1 → (q = true → AllB S scope fun S' => E S' elt env2 m1 fun d' m2 => I (k + 1) (acc ++ [d']) m2) ∧ (q = false → I (k + 1) acc m1)
  done : ∀ acc m, I ds.length acc m → fin acc m
theorem lc_read {rel : D → En → En → Prop} {vs : List Nat} (fin : List D → Mu → Prop) {H : Hp} {σ : L2.St} {Q : VK} {F : Hp} {as : List Ad}
    (a : At S env μ σ H F as) {ds : List D} {Sx : Mu → Prop} {μ1 : Mu} {J : It} {F1 H1 : Hp} {as1 : List Ad} {I : Nat → List D → Mu → Prop} (L : Comp S scope rel vs elt ifs env I ds Sx μ1 fin) (g1 : Go F H as F1 H1 as1) (W1 : Wd S.Γ F1 H1 as1 μ1) (iw : IsWalk S ds Sx F1 H1 as1 J)
    (k : ∀ acc m D0 vs F2 H2 as2, fin acc m → H2 D0 = none → Wd S.Γ F2 H2 as2 m → Go F H as F2 H2 as2 → DVs S.Γ F2 as2 vs acc → Q (.ref D0) (upd H2 D0 (.lst vs))) :
    ∀ D0, H1 D0 = none → ∃ W : Nat → Nat → Hp → Prop, (∃ m, W 0 m (upd H1 D0 (.lst []))) ∧ ∀ i m H, W i m H → (J.stop i H ∧ Q (.ref D0) H) ∨ (J.go i H ∧ ∃ Nx : Hp → Prop, (∀ H', Nx H' → ∃ m', m' < m ∧ W (i + 1) m' H') ∧ ∀ x H', J.yld i H x H' →
      rdG S rel vs x (wipe σ vs) H' fun σ2 H2 => wipe σ2 vs = wipe σ vs ∧ rdTT S scope ifs σ2 H2 fun b H3 => if b = true then rdEE S scope elt σ2 H3 fun y H4 => ∃ acc, H4 D0 = some (.lst acc) ∧ acc.length < sizeLine ∧ Nx (upd H4 D0 (.lst (acc ++ [y]))) else Nx H3) := by
  intro D0 nD
  obtain ⟨G, Y, w, hG, hY⟩ := iw
  refine lc_it (g := rdG S rel vs) (tt := rdTT S scope ifs) (te := rdEE S scope elt) w (fun k H2 => ∃ acc m F2 as2 ws, I k acc m ∧ acc.length ≤ k ∧ Wd S.Γ F2 H2 as2 m ∧ Go F1 H1 as1 F2 H2 as2 ∧ H2 D0 = some (.lst ws) ∧ F2 D0 = none ∧ D0 ∉ ads as2 ∧ DVs S.Γ F2 as2 ws acc) ?_ ?_ ?_ ?_
  · obtain ⟨f1, f2⟩ := W1.nofree nD
    exact ⟨[], μ1, F1, as1, [], L.start, Nat.le_refl _, W1.off f1 f2, (Go.refl _ _ _).off nD, upd_same, f1, f2, .nil⟩
  · rintro k2 H2 _ ⟨acc, m, F2, as2, ws, i2, l2, W2, g2, hD, nF, na, dv⟩
    exact hG F2 H2 as2 m g2 W2 (L.stay k2 acc m i2)
  · rintro k2 v H2 H' hk ⟨acc, m, F2, as2, ws, i2, l2, W2, g2, hD, nF, na, dv⟩ y
    obtain ⟨F3, d, hd1, g3, W3, dvd⟩ := hY k2 F2 H2 as2 m v H' g2 W2 (L.stay k2 acc m i2) y hk
    obtain ⟨hD3, nF3, na3⟩ := g3.apart hD (fun xs z => nomatch z) nF na
    obtain ⟨env2, PB, r2, ht, hh⟩ := L.turn k2 d acc m hd1 i2
    refine ⟨d, wipeE env vs, env2, F3, as2, r2, dvd, W3.sub, (((a.e.mono g1).mono g2).mono g3).wipe vs, fun σ2 e2 hw => ⟨by rw [hw, wipe_wipe], env2, m, PB, F3, as2, ht, e2, W3, fun q m1 F4 H4 as4 p4 g4 W4 => ?_⟩⟩
    obtain ⟨hD4, nF4, na4⟩ := g4.apart hD3 (fun xs z => nomatch z) nF3 na3
    obtain ⟨hT, hF⟩ := hh q m1 p4
    cases q with
    | true =>
      refine ⟨env2, m1, _, F4, as4, hT rfl, e2.mono g4, W4, fun d' m2 u F5 H5 as5 i3 g5 W5 r5 => ?_⟩
      obtain ⟨hD5, nF5, na5⟩ := g5.apart hD4 (fun xs z => nomatch z) nF4 na4
      refine ⟨ws, hD5, ?_, acc ++ [d'], m2, F5, as5, ws ++ [u], i3, ?_, W5.off nF5 na5, (((g2.trans g3).trans g4).trans g5).off nD, upd_same, nF5, na5, ?_⟩
      · have := L.size; rw [dv.length]; omega
      · rw [List.length_append]
        show acc.length + 1 ≤ k2 + 1
        omega
      · exact (((dv.mono g3).mono g4).mono g5).append (.cons r5 .nil)
    | false => exact ⟨acc, m1, F4, as4, ws, hF rfl, by omega, W4, (g2.trans g3).trans g4, hD4, nF4, na4, (dv.mono g3).mono g4⟩
  · rintro H2 ⟨acc, m, F2, as2, ws, i2, l2, W2, g2, hD, nF, na, dv⟩
    have z := k acc m D0 ws F2 (Me.era H2 D0) as2 (L.done acc m i2) era_same (W2.era nF na) (g1.trans (g2.era nD)) dv
    rw [era_upd hD] at z
    exact z
/-- a new list, stable -/
def FinL (P : KD) : List D → Mu → Prop := fun acc m => P (.lst acc) m
def FinC (P : KD) : List D → Mu → Prop := fun acc m => P (.cell m.length) (m ++ [.lst acc])
theorem fin_l {F H : Hp} {as : List Ad} {Q : VK} (k : Kv S F H as P Q) : ∀ acc m D0 vs F2 H2 as2, FinL P acc m → H2 D0 = none → Wd S.Γ F2 H2 as2 m → Go F H as F2 H2 as2 → DVs S.Γ F2 as2 vs acc → Q (.ref D0) (upd H2 D0 (.lst vs)) := by
  intro acc m D0 vs F2 H2 as2 f n W2 g2 dv
  obtain ⟨W3, g3⟩ := W2.addF (o := .lst vs) n
  exact k _ m _ _ _ _ f (g2.trans g3) W3 (.lst upd_same (dv.mono g3))
theorem e_lcG {rel : D → En → En → Prop} (own : List (Str × Nat)) (fin : List D → Mu → Prop) (hfin : ∀ {F H : Hp} {as : List Ad} {Q : VK}, Kv S F H as P Q → ∀ acc m D0 vs F2 H2 as2, fin acc m → H2 D0 = none → Wd S.Γ F2 H2 as2 m → Go F H as F2 H2 as2 → DVs S.Γ F2 as2 vs acc → Q (.ref D0) (upd H2 D0 (.lst vs)))
    (hc : S.X.calm = true) (ok : BlkOk S.X.N S.X.env.scope scope own) (hg : AllB S scope fun S' => Tg S' tg rel (own.map fun x : Str × Nat => x.2))
    (h : Iter S tg iter env μ fun ds Sx μ1 => ∃ I, Comp S scope rel (own.map fun x : Str × Nat => x.2) elt ifs env I ds Sx μ1 fin) (hf : ∀ x, foldedSetIterable iter S.X.env x = pure x := by intro _; rfl) : E S (.ListComp elt [⟨tg, iter, ifs, 0⟩] scope pos) env μ P := by
  refine PE.imp (pe_lc (own := own) (g := rdG S rel (own.map fun x : Str × Nat => x.2)) (tt := rdTT S scope ifs) (te := rdEE S scope elt) hc S.hN h ok hg pts_all pe_all hf) fun σ H Q ⟨F, as, a, k⟩ => ?_
  exact ⟨F, as, a, fun ds Sx μ1 J F1 H1 as1 ⟨I, L⟩ g1 W1 iw => lc_read fin a L g1 W1 iw (hfin k)⟩
def NameOk (S : Sc) (scope : Scope) (x : Str) : Prop := AllB S scope fun S' => Loc S'.X.env.scope x ∧ (S'.X.fn x = true ∨ S'.X.env.scope.names.lookup x = some .local)
theorem e_lc (i : Nat) (hc : S.X.calm = true) (ok : BlkOk S.X.N S.X.env.scope scope [(x, i)])
    (h : Iter S (.Name x p1) iter env μ fun ds Sx μ1 => ∃ I, Comp S scope (rName i) [i] elt ifs env I ds Sx μ1 (FinL P))
    (hn : S.X.N[i]? = some x := by rfl) (hx : NameOk S scope x := by exact fun _ _ _ _ _ => ⟨by first | exact .inl rfl | exact .inr rfl, by first | exact .inl rfl | exact .inr rfl⟩)
    (hf : ∀ x, foldedSetIterable iter S.X.env x = pure x := by intro _; rfl) : E S (.ListComp elt [⟨.Name x p1, iter, ifs, 0⟩] scope pos) env μ P :=
  e_lcG (rel := rName i) [(x, i)] (FinL P) fin_l hc ok (fun s H C cl fp => g_name (S := Blk S scope s H C cl fp) i hn (hx s H C cl fp).1 (hx s H C cl fp).2) h hf
theorem take_snoc {α : Type} {l : List α} {i : Nat} {x : α} (h : l[i]? = some x) : l.take (i + 1) = l.take i ++ [x] := by rw [List.take_add_one, h]; rfl
/-- a comprehension that changes nothing -/
theorem Comp.pure {rel : D → En → En → Prop} {vs : List Nat} {ds : List D} {Sx : Mu → Prop} {μ1 : Mu} {fin : List D → Mu → Prop} (g : D → Option D) (size : ds.length ≤ sizeLine) (stay : Sx μ1)
    (turn : ∀ (k : Nat) d, ds[k]? = some d → ∃ env2 q, rel d (wipeE env vs) env2 ∧ AllB S scope (fun S' => Ts S' ifs env2 μ1 fun b m => b = q ∧ m = μ1) ∧
      (q = true → ∃ d', g d = some d' ∧ AllB S scope fun S' => E S' elt env2 μ1 fun x m => x = d' ∧ m = μ1) ∧ (q = false → g d = none))
    (done : fin (ds.filterMap g) μ1) : ∃ I, Comp S scope rel vs elt ifs env I ds Sx μ1 fin := by
  refine ⟨fun k acc m => m = μ1 ∧ acc = (ds.take k).filterMap g, size, ⟨rfl, rfl⟩, fun k acc m ⟨e, _⟩ => e ▸ stay, fun k d acc m hd ⟨e1, e2⟩ => ?_, fun acc m ⟨e1, e2⟩ => ?_⟩
  · subst e1 e2
    obtain ⟨env2, q, h1, h2, h3, h4⟩ := turn k d hd
    refine ⟨env2, _, h1, h2, fun b m1 ⟨e1, e2⟩ => ?_⟩
    subst e1 e2
    refine ⟨fun z => ?_, fun z => ⟨rfl, ?_⟩⟩
    · obtain ⟨d', e, he⟩ := h3 z
      refine fun s H C cl fp => (he s H C cl fp).imp fun x m ⟨e1, e2⟩ => ⟨e2, ?_⟩
      rw [take_snoc hd, List.filterMap_append, e1]
      simp [e]
    · rw [take_snoc hd, List.filterMap_append]
      simp [h4 z]
  · rw [e1, e2, List.take_length]
    exact done
/-- .. without a test -/
theorem Comp.map {rel : D → En → En → Prop} {vs : List Nat} {ds : List D} {Sx : Mu → Prop} {μ1 : Mu} {fin : List D → Mu → Prop} (g : D → D) (size : ds.length ≤ sizeLine) (stay : Sx μ1)
    (turn : ∀ (k : Nat) d, ds[k]? = some d → ∃ env2, rel d (wipeE env vs) env2 ∧ AllB S scope fun S' => E S' elt env2 μ1 fun x m => x = g d ∧ m = μ1)
    (done : fin (ds.map g) μ1) : ∃ I, Comp S scope rel vs elt [] env I ds Sx μ1 fin := by
  refine Comp.pure (fun d => some (g d)) size stay (fun k d hd => ?_) (by rw [List.filterMap_eq_map']; exact done)
  obtain ⟨env2, h1, h2⟩ := turn k d hd
  exact ⟨env2, true, h1, fun s H C cl fp => ts_nil ⟨rfl, rfl⟩, fun _ => ⟨_, rfl, h2⟩, fun z => nomatch z⟩
end
end Me

/-! Me6: operations on values. -/
namespace Me
open PySem PySem.Spec PyProof.Rows L2
mutual
/-- as the library's data -/
def D.py : D → PyData
  | .non => .none
  | .bl b => .bool b
  | .int i => .int i
  | .str x => .str x
  | .lst ds => .list (D.pys ds)
  | .tup ds => .tuple (D.pys ds)
  | .dct _ _ => .dict []
  | .ins _ _ => .none
  | .err _ _ => .none
  | .ty _ => .none
  | .tpx xs => .tuple (xs.map PyData.str)
  | .cls _ => .none
  | .cell _ => .none
def D.pys : List D → List PyData
  | [] => []
  | d :: ds => d.py :: D.pys ds
end
mutual
def D.isPy : D → Bool
  | .non => true
  | .bl _ => true
  | .int _ => true
  | .str _ => true
  | .lst ds => D.isPys ds
  | .tup ds => D.isPys ds
  | .dct t kvs => !t && kvs.isEmpty
  | .ins _ _ => false
  | .err _ _ => false
  | .ty _ => false
  | .tpx _ => true
  | .cls _ => false
  | .cell _ => false
def D.isPys : List D → Bool
  | [] => true
  | d :: ds => d.isPy && D.isPys ds
end
theorem pys_map : ∀ ds : List D, D.pys ds = ds.map D.py
  | [] => rfl
  | d :: ds => by rw [D.pys, pys_map ds]; rfl
section
variable {Γ : Gam} {F H : Hp} {as : List Ad} {μ : Mu} {v : V} {d : D} {ds : List D} {vs : List V}
theorem dpAll_strs (K : PySem.W.Frag) : ∀ xs : List Str, DpAll K H (xs.map V.str) (xs.map PyData.str)
  | [] => .nil
  | x :: xs => .cons (.str x) (dpAll_strs K xs)
mutual
theorem DV.dp (K : PySem.W.Frag) (s : Same F H) {v : V} {d : D} (h : DV Γ F as v d) (hp : d.isPy = true) (c : d.py.canLay0 = true) : Dp K H v d.py := by
  cases h with
  | non => exact .non
  | bl b => exact .bl b
  | int i => exact .int i
  | str x => exact .str x
  | lst h1 h2 => exact .lst (.inl (.inl (s _ _ h1))) (DVs.dp K s h2 (by simpa [D.isPy] using hp) (by simpa [D.py, PyData.canLay0] using c))
  | tup h1 h2 => exact .tup (.inl (.inl (s _ _ h1))) (DVs.dp K s h2 (by simpa [D.isPy] using hp) (by simpa [D.py, PyData.canLay0] using c))
  | dctK h1 h2 => simp [D.py, PyData.canLay0] at c
  | dctT h1 h2 => simp [D.py, PyData.canLay0] at c
  | ins _ _ _ => simp [D.isPy] at hp
  | err0 _ _ => simp [D.isPy] at hp
  | ty _ => simp [D.isPy] at hp
  | tpx h1 _ => exact .tup (.inl (.inr ⟨_, s _ _ h1⟩)) (dpAll_strs K _)
  | cls _ => simp [D.isPy] at hp
  | err1 _ _ _ _ => simp [D.isPy] at hp
  | err2 _ _ _ => simp [D.isPy] at hp
  | err3 _ _ _ _ _ => simp [D.isPy] at hp
  | cell _ => simp [D.isPy] at hp
theorem DVs.dp (K : PySem.W.Frag) (s : Same F H) {vs : List V} {ds : List D} (h : DVs Γ F as vs ds) (hp : D.isPys ds = true) (c : PyData.canLayAll0 (D.pys ds) = true) : DpAll K H vs (D.pys ds) := by
  cases h with
  | nil => exact .nil
  | cons h1 h2 =>
    simp only [D.isPys, Bool.and_eq_true] at hp
    simp only [D.pys, PyData.canLayAll0, Bool.and_eq_true] at c
    exact .cons (DV.dp K s h1 hp.1 c.1) (DVs.dp K s h2 hp.2 c.2)
end
mutual
theorem DV.dpn (K : PySem.W.Frag) (s : Same F H) {v : V} {d : D} (h : DV Γ F as v d) (hp : d.isPy = true) (c : d.py.hasDict = false) : Dp K H v d.py := by
  cases h with
  | non => exact .non
  | bl b => exact .bl b
  | int i => exact .int i
  | str x => exact .str x
  | lst h1 h2 => exact .lst (.inl (.inl (s _ _ h1))) (DVs.dpn K s h2 (by simpa [D.isPy] using hp) (by simpa [D.py, PyData.hasDict] using c))
  | tup h1 h2 => exact .tup (.inl (.inl (s _ _ h1))) (DVs.dpn K s h2 (by simpa [D.isPy] using hp) (by simpa [D.py, PyData.hasDict] using c))
  | dctK h1 h2 => simp [D.py, PyData.hasDict] at c
  | dctT h1 h2 => simp [D.py, PyData.hasDict] at c
  | ins _ _ _ => simp [D.isPy] at hp
  | err0 _ _ => simp [D.isPy] at hp
  | ty _ => simp [D.isPy] at hp
  | tpx h1 _ => exact .tup (.inl (.inr ⟨_, s _ _ h1⟩)) (dpAll_strs K _)
  | cls _ => simp [D.isPy] at hp
  | err1 _ _ _ _ => simp [D.isPy] at hp
  | err2 _ _ _ => simp [D.isPy] at hp
  | err3 _ _ _ _ _ => simp [D.isPy] at hp
  | cell _ => simp [D.isPy] at hp
theorem DVs.dpn (K : PySem.W.Frag) (s : Same F H) {vs : List V} {ds : List D} (h : DVs Γ F as vs ds) (hp : D.isPys ds = true) (c : PyData.hasDictAll (D.pys ds) = false) : DpAll K H vs (D.pys ds) := by
  cases h with
  | nil => exact .nil
  | cons h1 h2 =>
    simp only [D.isPys, Bool.and_eq_true] at hp
    simp only [D.pys, PyData.hasDictAll, Bool.or_eq_false_iff] at c
    exact .cons (DV.dpn K s h1 hp.1 c.1) (DVs.dpn K s h2 hp.2 c.2)
end
/-- what a value is now: a list that is a cell's is opened -/
theorem Wd.dp (K : PySem.W.Frag) (W : Wd Γ F H as μ) {v : V} {d d' : D} (h : DV Γ F as v d) (e : vw μ d = d') (hp : d'.isPy = true) (c : d'.py.canLay0 = true) : Dp K H v d'.py := by
  by_cases hc : ∃ j, d = .cell j
  · obtain ⟨j, rfl⟩ := hc
    match hm : μ[j]? with
    | none => simp only [vw, hm] at e; subst e; simp [D.isPy] at hp
    | some .dead => simp only [vw, hm] at e; subst e; simp [D.isPy] at hp
    | some (.gd _ _) => simp only [vw, hm] at e; subst e; simp [D.isPy] at hp
    | some (.ts _ _ _) => simp only [vw, hm] at e; subst e; simp [D.isPy] at hp
    | some (.gl _ _ _) => simp only [vw, hm] at e; subst e; simp [D.isPy] at hp
    | some (.ins _ _) => simp only [vw, hm] at e; subst e; simp [D.isPy] at hp
    | some (.dct _ _ _) => simp only [vw, hm] at e; subst e; simp [D.py, PyData.canLay0] at c
    | some (.lst ds) =>
      obtain ⟨a, vs, rfl, h1, h2⟩ := W.lst (ds := ds) h (by simp only [vw, hm])
      simp only [vw, hm] at e
      subst e
      exact .lst (.inl (.inl h1)) (DVs.dp K W.sub h2 (by simpa [D.isPy] using hp) (by simpa [D.py, PyData.canLay0] using c))
  · have : vw μ d = d := by
      cases d <;> first | rfl | exact absurd ⟨_, rfl⟩ hc
    rw [this] at e
    subst e
    exact h.dp K W.sub hp c
theorem Wd.dpn (K : PySem.W.Frag) (W : Wd Γ F H as μ) {v : V} {d d' : D} (h : DV Γ F as v d) (e : vw μ d = d') (hp : d'.isPy = true) (c : d'.py.hasDict = false) : Dp K H v d'.py := by
  by_cases hc : ∃ j, d = .cell j
  · obtain ⟨j, rfl⟩ := hc
    match hm : μ[j]? with
    | none => simp only [vw, hm] at e; subst e; simp [D.isPy] at hp
    | some .dead => simp only [vw, hm] at e; subst e; simp [D.isPy] at hp
    | some (.gd _ _) => simp only [vw, hm] at e; subst e; simp [D.isPy] at hp
    | some (.ts _ _ _) => simp only [vw, hm] at e; subst e; simp [D.isPy] at hp
    | some (.gl _ _ _) => simp only [vw, hm] at e; subst e; simp [D.isPy] at hp
    | some (.ins _ _) => simp only [vw, hm] at e; subst e; simp [D.isPy] at hp
    | some (.dct _ _ _) => simp only [vw, hm] at e; subst e; simp [D.py, PyData.hasDict] at c
    | some (.lst ds) =>
      obtain ⟨a, vs, rfl, h1, h2⟩ := W.lst (ds := ds) h (by simp only [vw, hm])
      simp only [vw, hm] at e
      subst e
      exact .lst (.inl (.inl h1)) (DVs.dpn K W.sub h2 (by simpa [D.isPy] using hp) (by simpa [D.py, PyData.hasDict] using c))
  · have : vw μ d = d := by
      cases d <;> first | rfl | exact absurd ⟨_, rfl⟩ hc
    rw [this] at e
    subst e
    exact h.dpn K W.sub hp c
end

section
variable {S : Sc} {env : En} {μ : Mu} {P : KD} {d d1 d2 : D} {i j : Int} {x y : Str} {ds es : List D}
/-- a new list, a new tuple -/
theorem Kv.newL {F H : Hp} {as : List Ad} {Q : VK} (k : Kv S F H as P Q) (W : Wd S.Γ F H as μ) {p : Addr} {vs : List V} (n : H p = none) (h : P (.lst ds) μ) (dv : DVs S.Γ F as vs ds) : Q (.ref p) (upd H p (.lst vs)) := by
  obtain ⟨W3, g3⟩ := W.addF (o := .lst vs) n
  exact k _ _ _ _ _ _ h g3 W3 (.lst upd_same (dv.mono g3))
theorem Kv.newC {F H : Hp} {as : List Ad} {Q : VK} (k : Kv S F H as P Q) (W : Wd S.Γ F H as μ) {p : Addr} {vs : List V} (n : H p = none) (h : P (.cell μ.length) (μ ++ [.lst ds])) (dv : DVs S.Γ F as vs ds) : Q (.ref p) (upd H p (.lst vs)) := by
  obtain ⟨W3, g3⟩ := W.addO (o := .lst vs) (c := .lst ds) n fun nF => ⟨rfl, nF, vs, upd_same, dv.to (Same.refl F) (fun j hj ad e => by rw [List.getElem?_append_left (List.getElem?_eq_some_iff.mp e).1]; exact e)⟩
  exact k _ _ _ _ _ _ h g3 W3 (.cell (ad := ⟨p, none⟩) (W.last _))
theorem Kv.now {F H : Hp} {as : List Ad} {Q : VK} {v : V} (k : Kv S F H as P Q) (W : Wd S.Γ F H as μ) (h : P d μ) (r : DV S.Γ F as v d) : Q v H := k d μ v F H as h (Go.refl _ _ _) W r
/-- a list may become a cell or stay -/
inductive Nl (P : KD) (ds : List D) (μ : Mu) : Prop
  | l : P (.lst ds) μ → Nl P ds μ
  | c : P (.cell μ.length) (μ ++ [.lst ds]) → Nl P ds μ
theorem Kv.new {F H : Hp} {as : List Ad} {Q : VK} (k : Kv S F H as P Q) (W : Wd S.Γ F H as μ) {p : Addr} {vs : List V} (n : H p = none) (h : Nl P ds μ) (dv : DVs S.Γ F as vs ds) : Q (.ref p) (upd H p (.lst vs)) := by
  cases h with
  | l h => exact k.newL W n h dv
  | c h => exact k.newC W n h dv

/-! ### ints -/
theorem o_add (k : P (.int (i + j)) μ) : Op2 S (binaryOp .Add) (.int i) (.int j) env μ P :=
  Op2.of op_add fun F H as x y Q W h1 h2 kk => by cases h1; cases h2; exact ⟨_, _, rfl, rfl, kk.now W k (.int _)⟩
theorem o_sub (k : P (.int (i - j)) μ) : Op2 S (binaryOp .Sub) (.int i) (.int j) env μ P :=
  Op2.of op_sub fun F H as x y Q W h1 h2 kk => by cases h1; cases h2; exact ⟨_, _, rfl, rfl, kk.now W k (.int _)⟩
theorem o_mul (hm : CMul i j) (k : P (.int (i * j)) μ) : Op2 S (binaryOp .Mult) (.int i) (.int j) env μ P :=
  Op2.of op_mul fun F H as x y Q W h1 h2 kk => by cases h1; cases h2; exact ⟨_, _, rfl, rfl, hm, kk.now W k (.int _)⟩
theorem o_fdiv (hm : 0 < j ∧ j < 1073741824) (k : P (.int (i / j)) μ) : Op2 S (binaryOp .FloorDiv) (.int i) (.int j) env μ P :=
  Op2.of op_fdiv fun F H as x y Q W h1 h2 kk => by cases h1; cases h2; exact ⟨_, _, rfl, rfl, hm, kk.now W k (.int _)⟩
theorem o_mod (hm : 0 < j) (k : P (.int (i % j)) μ) : Op2 S (binaryOp .Mod) (.int i) (.int j) env μ P :=
  Op2.of op_mod fun F H as x y Q W h1 h2 kk => by cases h1; cases h2; exact ⟨_, _, rfl, rfl, hm, kk.now W k (.int _)⟩
theorem o_pow (hm : 0 ≤ j ∧ j ≤ 1000000 ∧ i.natAbs < 2 ^ 64) (k : P (.int (i ^ j.toNat)) μ) : Op2 S (binaryOp .Pow) (.int i) (.int j) env μ P :=
  Op2.of op_pow fun F H as x y Q W h1 h2 kk => by cases h1; cases h2; exact ⟨_, _, rfl, rfl, hm, kk.now W k (.int _)⟩
theorem o_lt (k : P (.bl (decide (i < j))) μ) : Op2 S (compareOp .Lt) (.int i) (.int j) env μ P :=
  Op2.of op_lt fun F H as x y Q W h1 h2 kk => by cases h1; cases h2; exact ⟨_, _, rfl, rfl, kk.now W k (.bl _)⟩
theorem o_le (k : P (.bl (decide (i ≤ j))) μ) : Op2 S (compareOp .LtE) (.int i) (.int j) env μ P :=
  Op2.of op_le fun F H as x y Q W h1 h2 kk => by cases h1; cases h2; exact ⟨_, _, rfl, rfl, kk.now W k (.bl _)⟩
theorem o_gt (k : P (.bl (decide (j < i))) μ) : Op2 S (compareOp .Gt) (.int i) (.int j) env μ P :=
  Op2.of op_gt fun F H as x y Q W h1 h2 kk => by cases h1; cases h2; exact ⟨_, _, rfl, rfl, kk.now W k (.bl _)⟩
theorem o_ge (k : P (.bl (decide (j ≤ i))) μ) : Op2 S (compareOp .GtE) (.int i) (.int j) env μ P :=
  Op2.of op_ge fun F H as x y Q W h1 h2 kk => by cases h1; cases h2; exact ⟨_, _, rfl, rfl, kk.now W k (.bl _)⟩
theorem o_neg (k : P (.int (-i)) μ) : Op1 S (unaryOp .USub) (.int i) env μ P :=
  Op1.of un_neg fun F H as x Q W h1 kk => by cases h1; exact ⟨_, rfl, kk.now W k (.int _)⟩
/-! ### texts, lists, tuples -/
theorem o_addL (h1 : vw μ d1 = .lst ds) (h2 : vw μ d2 = .lst es) (hz : ds.length + es.length ≤ sizeLine) (k : Nl P (ds ++ es) μ) : Op2 S (binaryOp .Add) d1 d2 env μ P :=
  Op2.of op_cat fun F H as x y Q W r1 r2 kk => by
    obtain ⟨a, vs, rfl, e1, q1⟩ := W.lst r1 h1
    obtain ⟨b, ws, rfl, e2, q2⟩ := W.lst r2 h2
    exact ⟨a, b, vs, ws, rfl, rfl, e1, e2, by rw [q1.length, q2.length]; exact hz, fun p np => kk.new W np k (q1.append q2)⟩
def rMulS : R2 := fun x y H Q => ∃ a n, x = .str a ∧ y = .int n ∧ PySem.MulOk a n ∧ Q (.str (PySem.Txt.mul a n)) H
theorem o_mulL (h1 : vw μ d1 = .lst ds) (hz : -(2 ^ 63) ≤ i ∧ i < 2 ^ 63 ∧ ds.length * i.toNat ≤ sizeLine) (k : Nl P (List.replicate i.toNat ds).flatten μ) : Op2 S (binaryOp .Mult) d1 (.int i) env μ P :=
  Op2.of op_rep fun F H as x y Q W r1 r2 kk => by
    obtain ⟨a, vs, rfl, e1, q1⟩ := W.lst r1 h1
    cases r2
    exact ⟨a, _, vs, rfl, rfl, e1, hz.1, hz.2.1, by rw [q1.length]; exact hz.2.2, fun p np => kk.new W np k (q1.rep _)⟩
/-! ### equality of data -/
@[reducible] def EqOk (d e : D) : Prop := d.isPy = true ∧ e.isPy = true ∧ SeqAt.shaped d.py = true ∧ SeqAt.shaped e.py = true
theorem lay_of {d : PyData} (h : SeqAt.shaped d = true) : d.canLay0 = true := by
  unfold SeqAt.shaped at h
  simp only [Bool.and_eq_true] at h
  exact h.1
def eqv (d e : D) : Bool := PyData.eqv d.py e.py
theorem o_ne {e1 e2 : D} (h1 : vw μ d1 = e1) (h2 : vw μ d2 = e2) (hk : EqOk e1 e2) (kk : P (.bl (!eqv e1 e2)) μ) : Op2 S (compareOp .NotEq) d1 d2 env μ P :=
  Op2.of (op_neD (by have := S.hu; omega)) fun F H as x y Q W r1 r2 kq => ⟨e1.py, e2.py, W.dp _ r1 h1 hk.1 (lay_of hk.2.2.1), W.dp _ r2 h2 hk.2.1 (lay_of hk.2.2.2), hk.2.2.1, hk.2.2.2, kq.now W kk (.bl _)⟩
theorem o_eqI (k : P (.bl (decide (i = j))) μ) : Op2 S (compareOp .Eq) (.int i) (.int j) env μ P :=
  Op2.of op_eq fun F H as x y Q W h1 h2 kk => by
    cases h1; cases h2
    have e : decide (V.int i = V.int j) = decide (i = j) := by simp
    exact ⟨rfl, by rw [e]; exact kk.now W k (.bl _)⟩
theorem o_neI (k : P (.bl (!decide (i = j))) μ) : Op2 S (compareOp .NotEq) (.int i) (.int j) env μ P :=
  Op2.of op_ne fun F H as x y Q W h1 h2 kk => by
    cases h1; cases h2
    have e : decide (V.int i = V.int j) = decide (i = j) := by simp
    exact ⟨rfl, by rw [e]; exact kk.now W k (.bl _)⟩
theorem o_eqS (k : P (.bl (decide (x = y))) μ) : Op2 S (compareOp .Eq) (.str x) (.str y) env μ P :=
  Op2.of op_eq fun F H as u v Q W h1 h2 kk => by
    cases h1; cases h2
    have e : decide (V.str x = V.str y) = decide (x = y) := by simp
    exact ⟨rfl, by rw [e]; exact kk.now W k (.bl _)⟩
theorem o_neS (k : P (.bl (!decide (x = y))) μ) : Op2 S (compareOp .NotEq) (.str x) (.str y) env μ P :=
  Op2.of op_ne fun F H as u v Q W h1 h2 kk => by
    cases h1; cases h2
    have e : decide (V.str x = V.str y) = decide (x = y) := by simp
    exact ⟨rfl, by rw [e]; exact kk.now W k (.bl _)⟩
/-! ### is None -/
def isNone : D → Bool
  | .non => true
  | _ => false
theorem isNone_v {Γ : Gam} {F : Hp} {as : List Ad} {v : V} (h : DV Γ F as v d) : decide (v = .non) = isNone d := by cases h <;> rfl
theorem o_isN (k : P (.bl (isNone d)) μ) : Op2 S (compareOp .Is) d .non env μ P :=
  Op2.of op_isN fun F H as u v Q W h1 h2 kk => by
    cases h2
    exact ⟨rfl, by rw [isNone_v h1]; exact kk.now W k (.bl _)⟩
theorem o_isntN (k : P (.bl (!isNone d)) μ) : Op2 S (compareOp .IsNot) d .non env μ P :=
  Op2.of op_notN fun F H as u v Q W h1 h2 kk => by
    cases h2
    exact ⟨rfl, by rw [isNone_v h1]; exact kk.now W k (.bl _)⟩
/-! ### in -/
/-! ### subscripts -/
theorem DVs.atI {Γ : Gam} {F : Hp} {as : List Ad} {vs : List V} (h : DVs Γ F as vs ds) (e : L2.atI ds i = some d) : ∃ v, L2.atI vs i = some v ∧ DV Γ F as v d := by
  unfold L2.atI at e ⊢
  rw [h.length]
  cases hi : ixN ds.length i with
  | none => rw [hi] at e; exact nomatch e
  | some j => rw [hi] at e; exact h.get e
theorem x_lst (h1 : vw μ d1 = .lst ds) (h : L2.atI ds i = some d) (k : P d μ) : Ix2 S d1 (.int i) env μ P :=
  Ix2.of ix_seq fun F H as x y Q W r1 r2 kk => by
    obtain ⟨a, vs, rfl, e1, q1⟩ := W.lst r1 h1
    cases r2
    obtain ⟨v, hv, dv⟩ := q1.atI h
    exact .inl ⟨a, vs, _, v, rfl, rfl, .inl (.inl e1), hv, kk.now W k dv⟩
theorem x_tup (h : L2.atI ds i = some d) (k : P d μ) : Ix2 S (.tup ds) (.int i) env μ P :=
  Ix2.of ix_seq fun F H as x y Q W r1 r2 kk => by
    obtain ⟨a, vs, rfl, e1, q1⟩ := r1.tupV
    cases r2
    obtain ⟨v, hv, dv⟩ := q1.atI h
    exact .inr (.inl ⟨_, _, _, v, rfl, rfl, .inl (.inl (W.sub _ _ e1)), hv, kk.now W k dv⟩)
/-! ### slices -/
def cutD (ds : List D) (lo hi : Option Int) : List D := (ds.drop (HT.sIx ds.length 0 lo)).take (HT.sIx ds.length ds.length hi - HT.sIx ds.length 0 lo)
theorem DVs.cut {Γ : Gam} {F : Hp} {as : List Ad} {vs : List V} (h : DVs Γ F as vs ds) (lo hi : Option Int) : DVs Γ F as (cutV vs lo hi) (cutD ds lo hi) := by
  unfold cutV cutD
  rw [h.length]
  exact (h.drop _).take _
/-! ### built-in calls -/
theorem dvs1 {Γ : Gam} {F : Hp} {as : List Ad} {xs : List V} (h : DVs Γ F as xs [d]) : ∃ x, xs = [x] ∧ DV Γ F as x d := by
  cases h with
  | cons h t => cases t; exact ⟨_, rfl, h⟩
theorem dvs2 {Γ : Gam} {F : Hp} {as : List Ad} {xs : List V} (h : DVs Γ F as xs [d, d1]) : ∃ x y, xs = [x, y] ∧ DV Γ F as x d ∧ DV Γ F as y d1 := by
  cases h with
  | cons h t =>
    obtain ⟨y, rfl, h2⟩ := dvs1 t
    exact ⟨_, _, rfl, h, h2⟩
theorem c_lenL (h1 : vw μ d = .lst ds) (k : P (.int ds.length) μ) : Cl S (.builtin "len") [d] env μ P :=
  Cl.of call_len_seq fun F H as xs Q W r kk => by
    obtain ⟨x, rfl, r1⟩ := dvs1 r
    obtain ⟨a, vs, rfl, e, q⟩ := W.lst r1 h1
    exact ⟨a, vs, rfl, .inl (.inl (.inl e)), by rw [q.length]; exact kk.now W k (.int _)⟩
theorem c_lenT (k : P (.int ds.length) μ) : Cl S (.builtin "len") [.tup ds] env μ P :=
  Cl.of call_len_seq fun F H as xs Q W r kk => by
    obtain ⟨x, rfl, r1⟩ := dvs1 r
    obtain ⟨a, vs, rfl, e, q⟩ := r1.tupV
    exact ⟨a, vs, rfl, .inr (.inl (.inl (W.sub _ _ e))), by rw [q.length]; exact kk.now W k (.int _)⟩
theorem c_int (k : P (.int i) μ) : Cl S (.type "int") [.int i] env μ P :=
  Cl.of call_int1 fun F H as xs Q W r kk => by
    obtain ⟨x, rfl, r1⟩ := dvs1 r
    cases r1
    exact .inl ⟨i, rfl, kk.now W k (.int _)⟩
end
end Me

/-! Me7: contracts of defs, calls. -/
namespace Me
open PySem PySem.Spec PyProof.Rows L2
/-- the cells speak of cells among them -/
def Low (μ : Mu) : Prop := ∀ (j : Nat) (c : Cell), μ[j]? = some c → ∀ i ∈ c.refs, i < μ.length
theorem Wd.lows {Γ : Gam} {F H : Hp} {as : List Ad} {μ : Mu} (W : Wd Γ F H as μ) : Low μ := fun _ _ h => W.low h
theorem take_at {α : Type} {l : List α} {n j : Nat} {x : α} (h : (l.take n)[j]? = some x) : l[j]? = some x ∧ j < n := by
  rw [List.getElem?_take] at h
  split at h
  · exact ⟨h, by assumption⟩
  · exact nomatch h
/-- a state seen otherwise: cells from n on are dropped, or become stable -/
structure ShR (Γ : Gam) (n : Nat) (F : Hp) (as : List Ad) (F' : Hp) (as' : List Ad) : Prop where
  sub : Same F F'
  new : ∀ a, F a = none → F' a ≠ none → a ∈ ads (as.drop n)
  pre : ∃ more, as' = as.take n ++ more ∧ ∀ ad ∈ more, ad ∈ as.drop n
def Sh (Γ : Gam) (n : Nat) (d : D) (μ : Mu) (d' : D) (μ' : Mu) : Prop := ∀ F H as v, Wd Γ F H as μ → DV Γ F as v d → n ≤ as.length → ∃ F' as', Wd Γ F' H as' μ' ∧ DV Γ F' as' v d' ∧ ShR Γ n F as F' as'
theorem ShR.refl {Γ : Gam} {n : Nat} {F : Hp} {as : List Ad} (h : n ≤ as.length) : ShR Γ n F as F as :=
  ⟨Same.refl F, fun a h h' => absurd h h', as.drop n, (List.take_append_drop n as).symm, fun _ h => h⟩
theorem ShR.trans {Γ : Gam} {n : Nat} {F F1 F2 : Hp} {as as1 as2 : List Ad} (hn : n ≤ as.length) (h : ShR Γ n F as F1 as1) (h' : ShR Γ n F1 as1 F2 as2) : ShR Γ n F as F2 as2 := by
  obtain ⟨m1, e1, k1⟩ := h.pre
  obtain ⟨m2, e2, k2⟩ := h'.pre
  have t : as1.take n = as.take n := by
    rw [e1, List.take_append, List.take_take, Nat.min_self, List.length_take, Nat.min_eq_left hn, Nat.sub_self, List.take_zero, List.append_nil]
  have dr : as1.drop n = m1 := by
    rw [e1, List.drop_append, List.drop_eq_nil_of_le (by rw [List.length_take]; omega), List.length_take, Nat.min_eq_left hn, Nat.sub_self, List.drop_zero, List.nil_append]
  refine ⟨h.sub.trans h'.sub, fun a q q' => ?_, m2, by rw [e2, t], fun ad z => k1 ad (dr ▸ k2 ad z)⟩
  by_cases z : F1 a = none
  · have := h'.new a z q'
    rw [dr] at this
    obtain ⟨ad, z1, z2⟩ := List.mem_map.mp this
    exact List.mem_map.mpr ⟨ad, k1 ad z1, z2⟩
  · exact h.new a q z
theorem Go.sh {Γ : Gam} {F H F2 H2 F3 : Hp} {as as2 as3 : List Ad} (g : Go F H as F2 H2 as2) (h : ShR Γ as.length F2 as2 F3 as3) : Go F H as F3 H2 as3 := by
  obtain ⟨more, e, n⟩ := g.pre
  obtain ⟨m1, e1, k1⟩ := h.pre
  have t : as2.take as.length = as := by rw [e, List.take_left]
  have dr : as2.drop as.length = more := by rw [e, List.drop_left]
  refine ⟨g.keep, g.dom, g.sub.trans h.sub, fun a q q' => ?_, m1, by rw [e1, t], fun ad z => n ad (dr ▸ k1 ad z)⟩
  by_cases z : F2 a = none
  · have := h.new a z q'
    rw [dr] at this
    obtain ⟨ad, z1, rfl⟩ := List.mem_map.mp this
    exact .inl (n ad z1)
  · exact g.new a q z
section
variable {Γ : Gam} {F H : Hp} {as : List Ad} {μ ext : Mu} {n : Nat} {d : D}
theorem Wd.cut (W : Wd Γ F H as (μ ++ ext)) (lo : Low μ) : Wd Γ F H (as.take μ.length) μ := by
  refine ⟨W.sub, ?_, ?_, fun j a c ha hc => ?_, fun a ha => W.seen a (List.mem_of_mem_take ha)⟩
  · show ((as.take μ.length).map Ad.a).Nodup
    rw [List.map_take]
    exact List.Sublist.nodup (List.take_sublist _ _) W.nd
  · have := W.len
    rw [List.length_append] at this
    rw [List.length_take]
    omega
  · obtain ⟨h1, h2⟩ := take_at ha
    refine (W.ok j a c h1 (by rw [List.getElem?_append_left h2]; exact hc)).go (Same.refl F) (fun z => z) (fun o z => z) (fun i hi b z => ?_)
    rw [List.getElem?_take, if_pos (lo j c hc i hi)]
    exact z
theorem Sh.refl {μ : Mu} : Sh Γ n d μ d μ := fun F H as v W r hn => ⟨F, as, W, r, ShR.refl hn⟩
theorem Sh.trans {d1 d2 : D} {μ μ1 μ2 : Mu} (h : Sh Γ n d μ d1 μ1) (h' : Sh Γ n d1 μ1 d2 μ2) (hn : n ≤ μ1.length) : Sh Γ n d μ d2 μ2 := fun F H as v W r hl => by
  obtain ⟨F1, as1, W1, r1, s1⟩ := h F H as v W r hl
  obtain ⟨F2, as2, W2, r2, s2⟩ := h' F1 H as1 v W1 r1 (by rw [W1.len]; exact hn)
  exact ⟨F2, as2, W2, r2, s1.trans hl s2⟩
theorem Sh.drop (hr : ∀ i ∈ d.refs, i < μ.length) (lo : Low μ) (hn : n ≤ μ.length) : Sh Γ n d (μ ++ ext) d μ := fun F H as v W r hl => by
  have hlen := W.len
  rw [List.length_append] at hlen
  refine ⟨F, as.take μ.length, W.cut lo, r.to (Same.refl F) fun i hi ad z => ?_, Same.refl F, fun a h h' => absurd h h', (as.take μ.length).drop n, ?_, fun ad z => ?_⟩
  · rw [List.getElem?_take, if_pos (hr i hi)]
    exact z
  · have e0 : as.take n = (as.take μ.length).take n := by rw [List.take_take, Nat.min_eq_left hn]
    rw [e0, List.take_append_drop]
  · rw [List.drop_take] at z
    exact List.mem_of_mem_take z
/-- a cell becomes stable; its place is empty -/
theorem Wd.freeze {j : Nat} {ad : Ad} {o : HO} {μ : Mu} (W : Wd Γ F H as μ) (ha : as[j]? = some ad) (hv : H ad.a = some o) (nF : F ad.a = none) : Wd Γ (upd F ad.a o) H as (μ.set j .dead) ∧ Same F (upd F ad.a o) := by
  have sF : Same F (upd F ad.a o) := fun b u e => by rw [upd_ne (ne_of_none e nF)]; exact e
  refine ⟨⟨fun b u e => ?_, W.nd, by rw [List.length_set]; exact W.len, fun k b c hb hc => ?_, W.seen⟩, sF⟩
  · by_cases hb : b = ad.a
    · subst hb; rw [upd_same] at e; rw [hv]; exact e
    · rw [upd_ne hb] at e; exact W.sub b u e
  · by_cases hk : j = k
    · subst hk
      rw [List.getElem?_set, if_pos rfl] at hc
      split at hc
      · obtain rfl := Option.some.inj hc; trivial
      · exact nomatch hc
    · rw [List.getElem?_set, if_neg hk] at hc
      have hba : b.a ≠ ad.a := fun z => hk (W.inj ha hb z.symm)
      exact (W.ok k b c hb hc).go sF (fun z => by rw [upd_ne hba]; exact z) (fun o z => z) (fun _ _ _ z => z)
theorem freeze_sh {j : Nat} {ad : Ad} {o : HO} (ha : as[j]? = some ad) (hn : n ≤ j) (hl : n ≤ as.length) (sF : Same F (upd F ad.a o)) : ShR Γ n F as (upd F ad.a o) as := by
  refine ⟨sF, fun a q q' => ?_, as.drop n, (List.take_append_drop n as).symm, fun _ h => h⟩
  by_cases z : a = ad.a
  · subst z
    refine List.mem_map.mpr ⟨ad, ?_, rfl⟩
    refine List.mem_of_getElem? (i := j - n) ?_
    rw [List.getElem?_drop, show n + (j - n) = j by omega]
    exact ha
  · rw [upd_ne z] at q'
    exact absurd q q'
theorem Sh.frz {j : Nat} {ds : List D} {μ : Mu} (hj : μ[j]? = some (.lst ds)) (hn : n ≤ j) : Sh Γ n (.cell j) μ (.lst ds) (μ.set j .dead) := fun F H as v W r hl => by
  cases r with
  | cell ha =>
    obtain ⟨_, nF, vs, hv, dv⟩ := W.ok j _ _ ha hj
    obtain ⟨W', sF⟩ := W.freeze ha hv nF
    exact ⟨_, as, W', .lst upd_same (dv.to sF fun _ _ _ z => z), freeze_sh ha hn hl sF⟩
end

/-! ### promises -/
abbrev KX := Ex → Mu → Prop
abbrev Ct := List D → Mu → KD → KX → Prop
def spM (Γ : Gam) (C : Ct) : Sp := fun vs H Q E => ∃ F as args μ P Z, C args μ P Z ∧ DVs Γ F as vs args ∧ Wd Γ F H as μ ∧
  (∀ d μ' v F' H' as', P d μ' → Go F H as F' H' as' → Wd Γ F' H' as' μ' → DV Γ F' as' v d → Q v H') ∧
  (∀ x μ' cls dx F' H' as', Z x μ' → Go F H as F' H' as' → Wd Γ F' H' as' μ' → XOk Γ F' H' as' cls dx x → E cls dx H')
/-- what is returned, seen as is wanted -/
def Rt (Γ : Gam) (μ0 : Mu) (P : KD) (d : D) (μ : Mu) : Prop := Low μ0 → ∃ d' μ', Sh Γ μ0.length d μ d' μ' ∧ P d' μ'
def RetR (Γ : Gam) (μ0 : Mu) (P : KD) : Out → Prop
  | .ret d m => Rt Γ μ0 P d m
  | .next _ m => Rt Γ μ0 P .non m
  | _ => False
/-- what is raised, local cells dropped -/
def ZR (μ0 : Mu) (Z : KX) : Ex → En → Mu → Prop := fun x _ m => Low μ0 → ∃ m' ext, m = m' ++ ext ∧ μ0.length ≤ m'.length ∧ Low m' ∧ (∀ i ∈ D.refsF x.fs, i < m'.length) ∧ Z x m'
section
variable {Γ : Gam} {μ0 μ ext : Mu} {P : KD} {Z : KX} {d : D} {j : Nat} {ds : List D} {x : Ex} {env : En}
theorem rt (h : P d μ) : Rt Γ μ0 P d μ := fun _ => ⟨d, μ, Sh.refl, h⟩
theorem rt_drop (h : P d μ) (hr : ∀ i ∈ d.refs, i < μ.length) (hn : μ0.length ≤ μ.length) (lo : Low μ0 → Low μ) : Rt Γ μ0 P d (μ ++ ext) := fun l => ⟨d, μ, Sh.drop hr (lo l) hn, h⟩
end
theorem env_start {Γ : Gam} {F : Hp} {as : List Ad} {args : List D} {vs : List V} (r : DVs Γ F as vs args) (n : Nat) : EnvOk Γ F as (args.map some ++ List.replicate (n - args.length) none) (vs.map some ++ List.replicate (n - vs.length) none) := by
  have hl := r.length
  refine ⟨by simp [hl], fun i d e => ?_⟩
  by_cases hi : i < args.length
  · rw [List.getElem?_append_left (by simpa using hi), List.getElem?_map] at e
    obtain ⟨d', h1, h2⟩ := Option.map_eq_some_iff.mp e
    obtain rfl := Option.some.inj h2
    obtain ⟨v, q1, q2⟩ := r.get h1
    exact ⟨v, by rw [List.getElem?_append_left (by simpa [hl] using hi), List.getElem?_map, q1]; rfl, q2⟩
  · rw [List.getElem?_append_right (by simpa using hi), List.getElem?_replicate] at e
    split at e <;> exact nomatch e
section
variable {w : World} {P : Program} {base : Heap} {mg : Str → Option Value} {K : PySem.W.Frag}
abbrev bodyX (P : Program) (w : World) (K : PySem.W.Frag) (mg : Str → Option Value) (base : Heap) (N : List Str) (qual : Str) (st : Stmt) (f : Addr) (cdv : Value) (A : Around) (outer : List Env) (s : Shared) (H : Hp) (E : XK) : Cx :=
  cxOf (L2.CX P w) P w K mg base N qual (defScope st) f cdv A outer s H E
/-- the scene of a body -/
abbrev bodyS (P : Program) (w : World) (K : PySem.W.Frag) (mg : Str → Option Value) (base : Heap) (Γ : Gam) (hK : Γ.K = K) (N : List Str) (qual : Str) (st : Stmt) (f : Addr) (cdv : Value) (A : Around) (outer : List Env) (s : Shared) (H : Hp) (E : XK)
    (Z : Ex → En → Mu → Prop) (hg : A.guards = some []) (hN : N.Nodup) (hb : Bi mg) (k : Nat) (rm : L2H.RoomH k (A.deeper (envOfC qual (defScope st) s.heap.objs.size f cdv))) : Sc := ⟨Γ, bodyX P w K mg base N qual st f cdv A outer s H E, Z, hK, hg, hN, passes_of rfl, hb, k, rm⟩
theorem okM {Γ : Gam} (hK : Γ.K = K) (hb' : Bi mg) {x qual : Str} {st : Stmt} {f : Addr} {fd : FuncData} {N ps : List Str} {k : Nat} {C : Ct} (F : Fun K x qual st f fd) (S : FnScope N ps (defScope st)) (ct : ∀ args μ P Z, C args μ P Z → args.length = ps.length)
    (hb : ∀ (cdv : Value) (A : Around) (outer : List Env) (s : Shared) (H : Hp) (E : XK) (hg : A.guards = some []) (rm : L2H.RoomH k (A.deeper (envOfC qual (defScope st) s.heap.objs.size f cdv))),
      ∀ args μ Q Z, C args μ Q Z → B (bodyS P w K mg base Γ hK N qual st f cdv A outer s H E (ZR μ Z) hg S.nd hb' k rm) (defBody st) (args.map some ++ List.replicate (N.length - args.length) none) μ (RetR Γ μ Q)) :
    Gd.FnG P w K mg base (L2.CX P w) (k + 1) f fd ps (spM Γ C) := by
  obtain ⟨oc, od, kV, doc, pm, an, cdv, ct', osl, rfl, lk, hcd⟩ := F.ex
  refine Gd.fn_ofG lk hcd S (fun vs H Q E ⟨F, as, args, μ, P, Z, hC, r, _⟩ => by rw [r.length]; exact ct _ _ _ _ hC) fun A outer s H vs Q E gA hr hsp => ?_
  obtain ⟨F, as, args, μ, Pd, Z, hC, r, W, kp, kz⟩ := hsp
  have hbb := hb cdv A outer s H E gA ⟨hr.dp, hr.un⟩ args μ Pd Z hC
  have hln : as.length = μ.length := W.len
  refine ⟨_, hbb, F, as, ⟨env_start r N.length, W, ?_⟩, ?_, ?_, ?_, ?_⟩
  · intro x env μ' σ cls dx F' H' as' z g e W' xo
    obtain ⟨m', ext, rfl, hn, lo, hrf, hz⟩ := z W.lows
    have W2 := W'.cut lo
    refine Wk.of (takes_of (X := bodyX P w K mg base N qual st f cdv A outer s H E) rfl rfl rfl rfl) (kz x m' cls dx F' H' (as'.take m'.length) hz ?_ W2 ?_)
    · obtain ⟨more, e1, n1⟩ := g.pre
      refine ⟨g.keep, g.dom, g.sub, g.new, more.take (m'.length - as.length), ?_, fun a ha => n1 a (List.mem_of_mem_take ha)⟩
      rw [e1, List.take_append, List.take_of_length_le (by omega)]
    · obtain ⟨C0, h1, h2, h3⟩ := xo
      refine ⟨C0, h1, h2, ?_⟩
      rcases h3 with h3 | ⟨dx', vs', e1, e2, e3⟩
      · exact .inl h3
      · refine .inr ⟨dx', vs', e1, e2, e3.to (Same.refl F') fun i hi ad z => ?_⟩
        rw [List.getElem?_take, if_pos (hrf i hi)]
        exact z
  · intro env2 m2 σ2 F2 H2 as2 h2 g2 e2 W2
    obtain ⟨d', μ', sh, p⟩ := h2 W.lows
    have l2 : as.length ≤ as2.length := by obtain ⟨more, e1, _⟩ := g2.pre; rw [e1, List.length_append]; omega
    obtain ⟨F3, as3, W3, r3, s3⟩ := sh F2 H2 as2 .non W2 .non (by omega)
    exact kp _ μ' _ F3 H2 as3 p (g2.sh (by rw [hln]; exact s3)) W3 r3
  · intro d2 m2 v F2 H2 as2 h2 g2 W2 r2
    obtain ⟨d', μ', sh, p⟩ := h2 W.lows
    have l2 : as.length ≤ as2.length := by obtain ⟨more, e1, _⟩ := g2.pre; rw [e1, List.length_append]; omega
    obtain ⟨F3, as3, W3, r3, s3⟩ := sh F2 H2 as2 v W2 r2 (by omega)
    exact kp _ μ' _ F3 H2 as3 p (g2.sh (by rw [hln]; exact s3)) W3 r3
  · exact fun _ _ _ _ _ _ h => h.elim
  · exact fun _ _ _ _ _ _ h => h.elim
/-- a def of the module by its name -/
structure Fn (P : Program) (w : World) (K : PySem.W.Frag) (mg : Str → Option Value) (base : Heap) (Γ : Gam) (k : Nat) (x : Str) (C : Ct) : Prop where
  ex : ∃ f fd ps, Gd.FnG P w K mg base (L2.CX P w) k f fd ps (spM Γ C) ∧ mg x = some (.ref f) ∧ PySem.W.keepIn K (.ref f) = true ∧ Binds K fd ps []
end
section
variable {S : Sc} {env : En} {μ : Mu} {e : Expr} {es : List Expr} {pos p0 : Pos} {x : Str} {k j : Nat} {C : Ct} {P : KD}
theorem run_fnM {X : Cx} {f : Addr} {fd : FuncData} {ps : List Str} {sp : Sp} {pins : List (Addr × Obj)} {σ : L2.St} {H : Hp} {s : Shared} {Q : VK} {us ds : List Value} {vs dvs : List V}
    (F : Gd.FnG X.prog X.w X.K X.mg X.base (L2.CX X.prog X.w) k f fd ps sp) (gX : X.A.guards = some []) (hr : Room k X.A) (hb : Binds X.K fd ps ds)
    (hd : Vals dvs ds) (I : Inv X pins σ H s) (r : Vals vs us) (h : sp (vs ++ dvs) H Q (fun cls d H' => Wk X cls d σ H')) :
    wpAny (model X.prog X.w) X.A (call (.ref f) us) (EP X pins σ Q) X.xe s := by
  have rr : Vals (vs ++ dvs) (us ++ ds) := r.append hd
  have len : (us ++ ds).length = ps.length := rr.length ▸ F.lenG _ _ _ _ h
  refine wpAny_call (codeAny_mono (F.runG X.A X.stack s H ⟨us, []⟩ (us ++ ds) (vs ++ dvs) Q _ gX hr I.env0 (hb s us I.kIn len) rr h) fun res s' hq => ?_)
  match res, hq with
  | .error e, hq => exact takes_wk _ _ (XE.of_call (W := Wk X) I (fun _ _ _ z => z) hq)
  | .ok (.ret u), hq => exact I.after hq
  | .ok .next, hq => exact False.elim hq
  | .ok .brk, hq => exact False.elim hq
  | .ok .cont, hq => exact False.elim hq
theorem spM_of {ds : List D} {F H : Hp} {as : List Ad} {σ : L2.St} {Q : VK} {vs : List V} (hC : C ds μ P (fun x m => S.Z x env m)) (a : At S env μ σ H F as) (r : DVs S.Γ F as vs ds) (k : Kv S F H as P Q) :
    spM S.Γ C (vs ++ []) H Q (fun cls d H' => Wk S.X cls d σ H') := by
  rw [List.append_nil]
  exact ⟨F, as, ds, μ, P, _, hC, r, a.w, k, fun x μ' cls dx F' H' as' z g W' xo => a.k x env μ' σ cls dx F' H' as' z g (a.e.mono g) W' xo⟩
theorem e_call (F : Fn S.X.prog S.X.w S.X.K S.X.mg S.X.base S.Γ k x C) (h : A S (e :: es) env μ fun ds μ1 => C ds μ1 P (fun x m => S.Z x env m)) (hkj : k ≤ S.k := by first | decide | assumption | omega) (hc : S.X.calm = true := by rfl) (hg : Gl S.X x := by rfl) (hdb : (x == ("__debug__" : Str)) = false := by decide)
    (he : starEach (e :: es) S.X.env = (false, eval e S.X.env) :: starEach es S.X.env := by rfl) (hpl : (backTo pos (starEach es S.X.env)).any (·.1) = false := by rfl) : E S (.Call (.Name x p0) (e :: es) [] pos) env μ P := by
  obtain ⟨f, fd, ps, F1, hm, hk, hb⟩ := F.ex
  refine ⟨fun pins s σ H Q I ⟨F0, as, a, k0⟩ => wpAny_Call_Name_kw (ld_glob I hg hm ?_ hdb)⟩
  refine PySem.W.callWith_K (h₀ := S.X.base) I.ok.mod.kin hk (thn (h.run pos pins s σ H (fun vs H1 => spM S.Γ C (vs ++ []) H1 Q (fun cls d H' => Wk S.X cls d σ H')) I ⟨F0, as, a, ?_⟩) ?_) he hpl
  · exact fun ds μ1 vs F1 H1 as1 p1 g1 W1 r1 => spM_of p1 (a.go g1 W1) r1 (k0.go g1)
  · intro us s1 ⟨vs, H1, I1, r1, q1⟩
    exact ⟨I1.kIn, run_fnM F1 S.hg ⟨I1.ok.hd hc, (S.rm.mono hkj).dp, (S.rm.mono hkj).un⟩ hb .nil I1 r1 q1⟩
end
end Me

/-! Me8: methods of built-in types, stores to places. -/
namespace Me
open PySem PySem.Spec PyProof.Rows L2
section
variable {S : Sc} {env : En} {μ : Mu} {a b c e o : Expr} {es : List Expr} {rest : List Stmt} {R : Out → Prop} {pos p0 apos cpos tpos : Pos} {x y : Str} {P : KD} {d d1 d2 : D} {ds : List D} {i j : Int} {n : Nat}
/-- what type a receiver has -/
def Ty (S : Sc) (Tn : String) (d : D) (μ : Mu) : Prop := ∀ F H as v, Wd S.Γ F H as μ → DV S.Γ F as v d → tyV S.X.K Tn v H
theorem ty_lst (h : vw μ d = .lst ds) : Ty S "list" d μ := fun F H as v W r => by
  obtain ⟨a, vs, rfl, h1, _⟩ := W.lst r h
  exact .inl ⟨rfl, vs, .inl (.inl h1)⟩
/-- a method of a built-in type, by values -/
def Mt (S : Sc) (id : String) (d : D) (ds : List D) (μ : Mu) (P : KD) : Prop := ∃ r, MtR S.X id r ∧ ∀ F H as x xs Q, Wd S.Γ F H as μ → DV S.Γ F as x d → DVs S.Γ F as xs ds → Kv S F H as P Q → r x xs H Q
def yMt (X : Cx) (id : String) : V → List V → Hp → VK → Prop := fun x xs H Q => ∃ r, MtR X id r ∧ r x xs H Q
theorem mt_y {X : Cx} {id : String} : MtR X id (yMt X id) := fun pins s σ H x xs v us Q I rx rs ⟨r, h, q⟩ => h pins s σ H x xs v us Q I rx rs q
theorem e_bm {Tn id : String} {name : Str} (pa : PlainAttrs Tn) (slot : Slot Tn name id) (hty : typeOf (.builtin id) = pure (.type "method_descriptor"))
    (h : E S o env μ fun d μ1 => Ty S Tn d μ1 ∧ A S (e :: es) env μ1 fun ds μ2 => Mt S id d ds μ2 P)
    (hbase : attributeBase o name S.X.env (eval o S.X.env) = eval o S.X.env := by rfl)
    (hfew : ((backTo cpos (starEach (e :: es) S.X.env)).all (fun x => !x.1) && (backToKw cpos (keywordEach [] S.X.env)).all (fun x => x.1.isSome) && decide ((e :: es).length + ([] : List Keyword).length + (if ([] : List Keyword).isEmpty then 0 else 1) < 30)) = true := by rfl)
    (hline : (apos.endLine == cpos.line) = true := by rfl) (hs : starEach (e :: es) S.X.env = (false, eval e S.X.env) :: starEach es S.X.env := by rfl) (hpl : (backTo cpos (starEach es S.X.env)).any (·.1) = false := by rfl) :
    E S (.Call (.Attribute o name apos) (e :: es) [] cpos) env μ P := by
  refine PE.imp (pe_bm pa slot hty mt_y h pa_y hbase hfew hline hs hpl) fun σ H Q ⟨F, as, a, k⟩ => ⟨F, as, a, fun d μ1 v F1 H1 as1 ⟨t1, p1⟩ g1 W1 r1 => ⟨t1 F1 H1 as1 v W1 r1, ?_⟩⟩
  refine p1.go (a.go g1 W1) fun ds μ2 vs F2 H2 as2 ⟨r, hr, hh⟩ g2 W2 r2 => ⟨r, hr, ?_⟩
  exact hh F2 H2 as2 v vs Q W2 (r1.mono g2) r2 ((k.go g1).go g2)
/-- a list cell is changed -/
theorem Wd.setL {Γ : Gam} {F H : Hp} {as : List Ad} {m : Nat} {ad : Ad} {vs : List V} {es : List D} (W : Wd Γ F H as μ) (ha : as[m]? = some ad) (hc : μ[m]? = some (.lst es)) (hv : DVs Γ F as vs ds) :
    Wd Γ F (upd H ad.a (.lst vs)) as (μ.set m (.lst ds)) ∧ Go F H as F (upd H ad.a (.lst vs)) as := by
  obtain ⟨k0, nF, _⟩ := W.ok m ad _ ha hc
  exact W.setO ha nF ⟨k0, nF, vs, upd_same, hv⟩
theorem cellL {Γ : Gam} {F H : Hp} {as : List Ad} {m : Nat} {v : V} (W : Wd Γ F H as μ) (r : DV Γ F as v (.cell m)) (hc : μ[m]? = some (.lst ds)) : ∃ ad vs, v = .ref ad.a ∧ as[m]? = some ad ∧ H ad.a = some (.lst vs) ∧ DVs Γ F as vs ds := by
  cases r with
  | cell ha =>
    obtain ⟨_, _, vs, h1, h2⟩ := W.ok m _ _ ha hc
    exact ⟨_, vs, rfl, ha, h1, h2⟩
theorem m_append {m : Nat} (hc : μ[m]? = some (.lst ds)) (hz : ds.length < sizeLine) (k : P .non (μ.set m (.lst (ds ++ [d])))) : Mt S "list.append" (.cell m) [d] μ P := ⟨_, mt_append, fun F H as x xs Q W r rs kk => by
  obtain ⟨ad, vs, rfl, ha, h1, dv⟩ := cellL W r hc
  obtain ⟨u, rfl, ru⟩ := dvs1 rs
  obtain ⟨W2, g2⟩ := W.setL ha hc (dv.append (.cons ru .nil))
  exact ⟨_, vs, u, rfl, rfl, h1, by rw [dv.length]; exact hz, kk _ _ _ _ _ _ k g2 W2 .non⟩⟩
theorem e_append (h : E S o env μ fun d μ1 => ∃ m, d = .cell m ∧ (∃ ds, vw μ1 d = .lst ds) ∧ E S e env μ1 fun d2 μ2 => ∃ ds, μ2[m]? = some (.lst ds) ∧ ds.length < sizeLine ∧ P .non (μ2.set m (.lst (ds ++ [d2]))))
    (hbase : attributeBase o "append" S.X.env (eval o S.X.env) = eval o S.X.env := by rfl) (hline : (apos.endLine == cpos.line) = true := by rfl) (hs : starEach [e] S.X.env = (false, eval e S.X.env) :: starEach [] S.X.env := by rfl) :
    E S (.Call (.Attribute o "append" apos) [e] [] cpos) env μ P := by
  refine e_bm PySem.F.plainAttrs_list PySem.F.slot_list_append PySem.F.type_list_append (h.imp fun d μ1 ⟨m, e1, ⟨ds, h1⟩, h2⟩ => ⟨ty_lst h1, ?_⟩) hbase (by rw [hs]; rfl) hline hs (by rfl)
  subst e1
  exact a_cons (h2.imp fun d2 μ2 ⟨ds, q1, q2, q3⟩ => a_nil (m_append q1 q2 q3)) hs

/-! ### stores to places -/
/-- o[i] = v by values -/
def St3 (S : Sc) (o i v : D) (env : En) (μ : Mu) (P : Mu → Prop) : Prop :=
  ∀ (pins : List (Addr × Obj)) (s : Shared) (σ : L2.St) (H : Hp) (x y z : V) (ov iv u : Value) (Q : Hp → Prop) (F : Hp) (as : List Ad), Inv S.X pins σ H s → RelV x ov → RelV y iv → RelV z u →
    At S env μ σ H F as → DV S.Γ F as x o → DV S.Γ F as y i → DV S.Γ F as z v → (∀ μ' F' H' as', P μ' → Go F H as F' H' as' → Wd S.Γ F' H' as' μ' → Q H') →
    wpAny (model S.X.prog S.X.w) S.X.A (setItem ov iv u) (fun _ s' => ∃ H', Inv S.X pins σ H' s' ∧ Q H') S.X.xe s
theorem St3.of {t : TSet} {P : Mu → Prop} {o i v : D} (hs : PSet S.X t) (h : ∀ F H as x y z Q, Wd S.Γ F H as μ → DV S.Γ F as x o → DV S.Γ F as y i → DV S.Γ F as z v → (∀ μ' F' H' as', P μ' → Go F H as F' H' as' → Wd S.Γ F' H' as' μ' → Q H') → t x y z H Q) : St3 S o i v env μ P :=
  fun pins s σ H x y z ov iv u Q F as I r1 r2 r3 a h1 h2 h3 k => hs pins s σ H x y z ov iv u Q I r1 r2 r3 (h F H as x y z Q a.w h1 h2 h3 k)
theorem t_setL {m : Nat} {P : Mu → Prop} (hc : μ[m]? = some (.lst ds)) (hn : n < ds.length) (k : P (μ.set m (.lst (ds.set n d)))) : St3 S (.cell m) (.int (n : Nat)) d env μ P :=
  St3.of set_list fun F H as x y z Q W r1 r2 r3 kk => by
    obtain ⟨ad, vs, rfl, ha, h1, dv⟩ := cellL W r1 hc
    cases r2
    obtain ⟨W2, g2⟩ := W.setL ha hc (dv.set r3 n)
    refine ⟨ad.a, vs, n, n, rfl, rfl, h1, ?_, kk _ _ _ _ k g2 W2⟩
    unfold ixN
    rw [if_pos (Int.natCast_nonneg n), if_pos (by rw [dv.length]; omega)]
    rfl
theorem b_setIx (h : E S e env μ fun d μ1 => E S a env μ1 fun o μ2 => E S b env μ2 fun i μ3 => St3 S o i d env μ3 fun μ4 => B S rest env μ4 R)
    (hs : swapsWithSole [.Subscript a b p0] e pos.line S.X.env = pure false := by rfl) (hw : swappedStores [.Subscript a b p0] e S.X.env = pure none := by rfl)
    (h1 : (assignEach [.Subscript a b p0] S.X.env).map (·.2) = [assign (.Subscript a b p0) S.X.env] := by rfl)
    (ha : ∀ v, assign (.Subscript a b p0) S.X.env v = (do
      let ov ← holding [v] (eval a S.X.env)
      let iv ← holding [v, ov] (eval b S.X.env)
      standAt p0
      holding [v, ov, iv] (setItem ov iv v)
      release [v, ov, iv] []) := by intro _; rfl) : B S (.Assign [.Subscript a b p0] e pos :: rest) env μ R := by
  have pg : PG S.X (.Subscript a b p0) (fun v σ H Q => yE S.X a σ H fun x H1 => yE S.X b σ H1 fun y H2 => ∀ (pins : List (Addr × Obj)) (s : Shared) (ov iv u : Value), Inv S.X pins σ H2 s → RelV x ov → RelV y iv → RelV v u →
      wpAny (model S.X.prog S.X.w) S.X.A (setItem ov iv u) (fun _ s' => ∃ H', Inv S.X pins σ H' s' ∧ Q σ H') S.X.xe s) := by
    refine ⟨fun pins s σ H v u Q I r h => ?_⟩
    rw [ha]
    refine wpAny_bind (wpAny_holding (thn (pe_y.run pins s σ H _ I h) fun ov s1 ⟨x1, H1, I1, r1, q1⟩ => ?_))
    refine wpAny_bind (wpAny_holding (thn (pe_y.run pins s1 σ H1 _ I1 q1) fun iv s2 ⟨x2, H2, I2, r2, q2⟩ => ?_))
    refine wpAny_bind (wpAny_standAt (wpAny_bind (wpAny_holding (thn (q2 pins s2 ov iv u I2 r1 r2 r) fun _ s3 ⟨H3, I3, q3⟩ => ?_))))
    exact wpAny_release ⟨σ, H3, I3, q3⟩
  refine b_cons (PS.imp (ps_asg h pg hs hw h1) fun D σ H ⟨F, as, a, k⟩ => ?_)
  refine ⟨F, as, a, fun d μ1 v F1 H1 as1 p1 g1 W1 r1 => p1.go (a.go g1 W1) fun o μ2 vo F2 H2 as2 p2 g2 W2 r2 => p2.go ((a.go g1 W1).go g2 W2) fun i μ3 vi F3 H3 as3 p3 g3 W3 r3 => ?_⟩
  intro pins s ov iv u I q1 q2 q3
  have a3 := ((a.go g1 W1).go g2 W2).go g3 W3
  refine p3 pins s σ H3 vo vi v ov iv u _ F3 as3 I q1 q2 q3 a3 (r2.mono g3) r3 ((r1.mono g2).mono g3) fun μ4 F4 H4 as4 p4 g4 W4 => ?_
  exact k.nx env μ4 σ F4 H4 as4 p4 (((g1.trans g2).trans g3).trans g4) ((a3.go g4 W4).e) W4
def rGetL (K : PySem.W.Frag) : R2 := fun o i H Q => ∃ p xs k v, o = .ref p ∧ i = .int (k : Nat) ∧ SqL K H p xs ∧ xs[k]? = some v ∧ Q v H
theorem get_list {X : Cx} : PGet X (rGetL X.K) := by
  intro pins s σ H o i ov iv Q I ro ri h
  obtain ⟨p, xs, k, v, rfl, rfl, hq, hk, q⟩ := h
  cases ro
  obtain ⟨t, rfl⟩ := ri
  obtain ⟨its, r, hl, hz⟩ := I.list hq
  obtain ⟨u, hu, ru⟩ := r.get hk
  have hlt := (List.getElem?_eq_some_iff.mp hu).1
  have hn := line63
  have hrl := r.length
  refine wpAny_getItem_list hl.isList (by omega) (by omega) (x := u) (by simpa using hu) ⟨v, H, I, ru, q⟩
/-- x[n] += e, x a list, ints -/
theorem b_augIx (h : E S a env μ fun o μ1 => E S b env μ1 fun ix μ2 => ∃ (m n : Nat) (i : Int) (ds : List D), o = .cell m ∧ ix = .int (n : Nat) ∧ μ2[m]? = some (.lst ds) ∧ ds[n]? = some (.int i) ∧
      E S e env μ2 fun y μ3 => ∃ (k : Int) (es : List D), y = .int k ∧ μ3[m]? = some (.lst es) ∧ n < es.length ∧ B S rest env (μ3.set m (.lst (es.set n (.int (i + k))))) R)
    (ha : ∀ ov iv new, augStore b ov iv new = (do holding [new, ov, iv] (setItem ov iv new); release [new, ov, iv] []; pure .next) := by intros; rfl) : B S (.AugAssign (.Subscript a b tpos) .Add e pos :: rest) env μ R := by
  refine b_cons (PS.imp (ps_augS pe_y pe_y get_list pe_y ip_add set_list ha) fun D σ H ⟨F, as, a, k⟩ => ?_)
  refine h.go a fun o μ1 v F1 H1 as1 p1 g1 W1 r1 => p1.go (a.go g1 W1) fun ix μ2 v2 F2 H2 as2 ⟨m, n, i, ds, e1, e2, hc, hd, p2⟩ g2 W2 r2 => ?_
  subst e1 e2
  cases r2
  obtain ⟨ad, vs, rfl, hp, q, dv⟩ := cellL W2 (r1.mono g2) hc
  obtain ⟨u, hu, du⟩ := dv.get hd
  cases du
  have a2 := (a.go g1 W1).go g2 W2
  refine ⟨ad.a, vs, n, _, rfl, rfl, .inl (.inl q), hu, p2.go a2 fun y μ3 v3 F3 H3 as3 ⟨k3, es, e3, hc3, hn, p3⟩ g3 W3 r3 => ?_⟩
  subst e3
  cases r3
  obtain ⟨ad3, vs3, e4, hp3, q3, dv3⟩ := cellL W3 (DV.cell (g3.at hp)) hc3
  obtain ⟨W4, g4⟩ := W3.setL hp3 hc3 (dv3.set (.int (i + k3)) n)
  refine ⟨i, k3, rfl, rfl, ad3.a, vs3, n, n, e4, rfl, q3, ?_, k.nx env _ σ _ _ as3 p3 (((g1.trans g2).trans g3).trans g4) ((a2.go g3 W3).go g4 W4).e W4⟩
  unfold ixN
  rw [if_pos (Int.natCast_nonneg n), if_pos (by rw [dv3.length]; omega)]
  rfl
end
end Me

/-! Me9: instances: fields, methods, making; isinstance. -/
namespace Me
open PySem PySem.Spec PyProof.Rows L2
def putF' (f : Str) (d : D) : List (Str × D) → List (Str × D)
  | [] => [(f, d)]
  | (g, x) :: r => if g = f then (g, d) :: r else (g, x) :: putF' f d r
section
variable {Γ : Gam} {F H : Hp} {as : List Ad} {μ : Mu} {v : V} {d : D} {c : String} {f : Str} {fs : List (Str × D)} {vs : List (Str × V)}
theorem DFs.put (r : DV Γ F as v d) : ∀ {vs : List (Str × V)} {fs : List (Str × D)}, DFs Γ F as vs fs → DFs Γ F as (putF f v vs) (putF' f d fs)
  | _, _, .nil => .cons r .nil
  | (g, x) :: vs, (_, y) :: fs, .cons h t => by
    unfold putF putF'
    by_cases e : g = f
    · subst e
      rw [if_pos rfl]
      simp only [if_true]
      exact .cons r t
    · rw [if_neg e, if_neg e]
      exact .cons h (t.put r)
theorem DFs.look : ∀ {vs : List (Str × V)} {fs : List (Str × D)}, DFs Γ F as vs fs → fs.lookup f = some d → ∃ v, vs.lookup f = some v ∧ DV Γ F as v d
  | _, _, .nil, e => nomatch e
  | (g, x) :: vs, (_, y) :: fs, .cons h t, e => by
    rw [List.lookup_cons] at e ⊢
    cases hg : (f == g) with
    | true => rw [hg] at e; obtain rfl := Option.some.inj e; exact ⟨x, rfl, h⟩
    | false => rw [hg] at e; exact t.look e
theorem DFs.length : ∀ {vs : List (Str × V)} {fs : List (Str × D)}, DFs Γ F as vs fs → vs.length = fs.length
  | _, _, .nil => rfl
  | _, _, .cons _ t => congrArg (· + 1) t.length
/-- an instance, a cell's or a stable one -/
theorem Wd.ins (W : Wd Γ F H as μ) (r : DV Γ F as v d) (h : vw μ d = .ins c fs) : ∃ a C dx vs, v = .ref a ∧ Γ.cls c = some C ∧ H a = some (.ins C dx vs) ∧ DFs Γ F as vs fs := by
  cases r with
  | ins h1 hc h2 =>
    obtain ⟨rfl, rfl⟩ := D.ins.inj h
    exact ⟨_, _, _, _, rfl, hc, W.sub _ _ h1, h2⟩
  | @cell j ad h1 =>
    simp only [vw] at h
    match hm : μ[j]?, h with
    | none, h => cases h
    | some (.lst _), h => cases h
    | some (.dct _ _ _), h => cases h
    | some .dead, h => cases h
    | some (.gd _ _), h => cases h
    | some (.ts _ _ _), h => cases h
    | some (.gl _ _ _), h => cases h
    | some (.ins c' fs'), h =>
      obtain ⟨rfl, rfl⟩ := D.ins.inj h
      obtain ⟨_, _, C, dx, vs, hc, h2, h3⟩ := W.ok j ad _ h1 hm
      exact ⟨_, C, dx, vs, rfl, hc, h2, h3⟩
  | lst _ _ => cases h
  | non => cases h
  | bl _ => cases h
  | int _ => cases h
  | str _ => cases h
  | tup _ _ => cases h
  | dctK _ _ => cases h
  | dctT _ _ => cases h
  | err0 _ _ => cases h
  | ty _ => cases h
  | tpx _ _ => cases h
  | cls _ => cases h
  | err1 _ _ _ _ => cases h
  | err2 _ _ _ => cases h
  | err3 _ _ _ _ _ => cases h
end
/-- the class c has no attribute f of its own -/
structure Fld (Γ : Gam) (c : String) (f : Str) : Prop where
  ex : ∃ C, Γ.cls c = some C ∧ Cls Γ.K C ∧ NoAttr Γ.K C f
section
variable {S : Sc} {env : En} {μ : Mu} {a b e o : Expr} {es : List Expr} {rest : List Stmt} {R : Out → Prop} {pos p0 p1 pos' apos : Pos} {x f m : Str} {c : String} {P : KD} {d : D} {k : Nat} {C : Ct}
/-- a method by its name -/
structure Mth (P : Program) (w : World) (K : PySem.W.Frag) (mg : Str → Option Value) (base : Heap) (Γ : Gam) (k : Nat) (c : String) (m : Str) (C : Ct) : Prop where
  ex : ∃ Ca f fd ps, Γ.cls c = some Ca ∧ Cls K Ca ∧ Meth K Ca m f ∧ Gd.FnG P w K mg base (L2.CX P w) k f fd ps (spM Γ C) ∧ Binds K fd ps []
/-! ### making -/
/-- a class by its name, and what its __init__ promises -/
structure Mak (P : Program) (w : World) (K : PySem.W.Frag) (mg : Str → Option Value) (base : Heap) (Γ : Gam) (k : Nat) (c : String) (x : Str) (C : Ct) : Prop where
  ex : ∃ Ca f fd ps, Γ.cls c = some Ca ∧ Mk K Ca f ∧ mg x = some (.ref Ca) ∧ Gd.FnG P w K mg base (L2.CX P w) k f fd ps (spM Γ C) ∧ Binds K fd ps []
end
end Me

/-! Me10: special methods of own classes; isinstance; chains. -/
namespace Me
open PySem PySem.Spec PyProof.Rows L2
section
variable {S : Sc} {env : En} {μ : Mu} {a b e o : Expr} {es : List Expr} {rest : List Stmt} {R : Out → Prop} {pos p0 p1 pos' apos : Pos} {x f m : Str} {c : String} {P : KD} {d d1 d2 d3 : D} {k : Nat} {C : Ct}
/-- a special method -/
structure Dn (P : Program) (w : World) (K : PySem.W.Frag) (mg : Str → Option Value) (base : Heap) (Γ : Gam) (k : Nat) (c : String) (m : Str) (C : Ct) : Prop where
  ex : ∃ Ca f fd ps, Γ.cls c = some Ca ∧ PySem.W.findIn K (.ref Ca) m = some (some (.ref f)) ∧ PySem.W.isFn K (.ref f) = true ∧ PySem.W.fnIn K f = true ∧ PySem.W.noSeq K Ca = true ∧ PySem.W.selfFirst K Ca = true ∧ Gd.FnG P w K mg base (L2.CX P w) k f fd ps (spM Γ C) ∧ Binds K fd ps []
/-- calls at the place itself -/
theorem Sc.room (S : Sc) {pins : List (Addr × Obj)} {σ : L2.St} {H : Hp} {s : Shared} (I : Inv S.X pins σ H s) (hc : S.X.calm = true) (h : k ≤ S.k) : Room k S.X.A := ⟨I.ok.hd hc, (S.rm.mono h).dp, (S.rm.mono h).un⟩
/-- a subscript whose receiver may have its own method -/
def Ix2' (S : Sc) (d1 d2 : D) (env : En) (μ : Mu) (P : KD) : Prop :=
  ∀ (value slice : Expr) (pins : List (Addr × Obj)) (s : Shared) (σ : L2.St) (H : Hp) (x y : V) (v u : Value) (Q : VK) (F : Hp) (as : List Ad), Inv S.X pins σ H s → RelV x v → RelV y u →
    At S env μ σ H F as → DV S.Γ F as x d1 → DV S.Γ F as y d2 → Kv S F H as P Q → subscripted slice true v u = runValue (.builtin "lifetime.subscript" ⟨[v, u], []⟩) → wpAny (model S.X.prog S.X.w) S.X.A (subscriptTail value slice v u) (EP S.X pins σ Q) S.X.xe s
end
end Me

/-! Me11: isinstance, chains of comparisons. -/
namespace Me
open PySem PySem.Spec PyProof.Rows L2
section
variable {S : Sc} {env : En} {μ : Mu} {a b c e : Expr} {pos p0 : Pos} {x : Str} {P : KD} {PB : Bool → Mu → Prop} {d : D} {i j k : Int}
/-- a class as a value -/
theorem e_ty {Tn : String} (hm : S.X.mg x = none) (hv : bootBuiltins x = some (.type Tn)) (k : P (.ty Tn) μ) (hg : Gl S.X x := by rfl) (hn : x ≠ "__name__" := by decide) (hd : (x == ("__debug__" : Str)) = false := by decide) : E S (.Name x pos) env μ P :=
  e_c (pe_bltn (v := .ty Tn) hg hm hv rfl hn hd) (fun _ _ => .ty Tn) k
theorem e_cls {cn : String} {C : Addr} (hC : S.Γ.cls cn = some C) (hm : S.X.mg x = some (.ref C)) (k : P (.cls cn) μ) (hg : Gl S.X x := by rfl) (hd : (x == ("__debug__" : Str)) = false := by decide) : E S (.Name x pos) env μ P :=
  e_c (pe_glob (v := .ref C) hg hm rfl hd) (fun _ _ => .cls hC) k
/-- a value's type -/
def TyI (S : Sc) (μ : Mu) (d : D) (t : Value) : Prop := ∀ F H as v, Wd S.Γ F H as μ → DV S.Γ F as v d → TyX S.X.K H v t
def tyN : D → Option String
  | .non => some "NoneType" | .bl _ => some "bool" | .int _ => some "int" | .str _ => some "str" | .lst _ => some "list" | .tup _ => some "tuple" | _ => none
theorem ty_dat {Tn : String} (h : tyN (vw μ d) = some Tn) : TyI S μ d (.type Tn) := fun F H as v W r => by
  by_cases hl : ∃ ds, vw μ d = .lst ds
  · obtain ⟨ds, e⟩ := hl
    obtain ⟨a, vs, rfl, h1, _⟩ := W.lst r e
    rw [e] at h
    obtain rfl := Option.some.inj h
    exact .base (.lst h1)
  · cases r with
    | non => obtain rfl := Option.some.inj h; exact .base .non
    | bl b => obtain rfl := Option.some.inj h; exact .base (.bl b)
    | int i => obtain rfl := Option.some.inj h; exact .base (.int i)
    | str x => obtain rfl := Option.some.inj h; exact .base (.str x)
    | tup h1 h2 => obtain rfl := Option.some.inj h; exact .base (.tup (W.sub _ _ h1))
    | lst h1 h2 => exact absurd ⟨_, rfl⟩ hl
    | dctK _ _ => exact nomatch h
    | dctT _ _ => exact nomatch h
    | ins _ _ _ => exact nomatch h
    | err0 _ _ => exact nomatch h
    | err1 _ _ _ _ => exact nomatch h
    | err2 _ _ _ => exact nomatch h
    | err3 _ _ _ _ _ => exact nomatch h
    | ty _ => exact nomatch h
    | tpx _ _ => exact nomatch h
    | cls _ => exact nomatch h
    | @cell m ad ha =>
      simp only [vw] at h hl
      match hm : μ[m]?, h, hl with
      | none, h, _ => exact nomatch h
      | some (.lst es), _, hl => exact absurd ⟨_, rfl⟩ hl
      | some (.dct _ _ _), h, _ => exact nomatch h
      | some (.ins _ _), h, _ => exact nomatch h
      | some .dead, h, _ => exact nomatch h
      | some (.gd _ _), h, _ => exact nomatch h
      | some (.ts _ _ _), h, _ => exact nomatch h
      | some (.gl _ _ _), h, _ => exact nomatch h
theorem ty_dct {m : Nat} {t : Bool} {kvs : List (DK × D)} (h : μ[m]? = some (.dct t none kvs)) : TyI S μ (.cell m) (.type "dict") := fun F H as v W r => by
  cases r with
  | cell ha =>
    cases t with
    | false =>
      obtain ⟨_, vs, h1, _⟩ := W.ok m _ _ ha h
      exact .base (.dK h1)
    | true =>
      obtain ⟨_, vs, h1, _⟩ := W.ok m _ _ ha h
      exact .base (.dT h1)
/-- what isinstance asks of an own class -/
structure OwnC (Γ : Gam) (c : String) (C : Addr) : Prop where
  at_ : Γ.cls c = some C
  cl : Cls Γ.K C
  ha : PySem.W.findIn Γ.K (.ref C) "__class__" = some (some (.builtin "object.__class__"))
  hn : PySem.W.specialIn Γ.K (.builtin "object.__class__") "__get__" = some (some (.builtin "getset_descriptor.__get__"))
  htk : PySem.W.takesIn Γ.K (.builtin "object.__class__") = some true
  hm : PySem.W.mroIn Γ.K C (.type "object") = some true
/-- what a class is in the model -/
def clsV (Γ : Gam) : D → Option Value
  | .ty n => some (.type n)
  | .cls c => (Γ.cls c).map .ref
  | _ => none
def clsVs (Γ : Gam) : List D → Option (List Value)
  | [] => some []
  | d :: ds => (clsV Γ d).bind fun u => (clsVs Γ ds).bind fun us => some (u :: us)
theorem clsV_of {Γ : Gam} {F : Hp} {as : List Ad} {v : V} {u : Value} (r : DV Γ F as v d) (h : clsV Γ d = some u) : ClsV v u := by
  cases r with
  | ty n => obtain rfl := Option.some.inj h; exact .ty n
  | cls hc =>
    simp only [clsV, hc, Option.map_some] at h
    obtain rfl := Option.some.inj h
    exact .own _
  | _ => exact nomatch h
theorem c_isi {t u : Value} {q : Bool} {dc : D} (ht : TyI S μ d t) (hu : clsV S.Γ dc = some u) (hk : PySem.W.kitOne S.X.K t u = some q) (k : P (.bl q) μ) : Cl S (.builtin "isinstance") [d, dc] env μ P :=
  Cl.of call_isi fun F H as xs Q W r kk => by
    obtain ⟨x, y, rfl, r1, r2⟩ := dvs2 r
    exact ⟨x, y, t, u, q, rfl, clsV_of r2 hu, ht F H as x W r1, hk, kk.now W k (.bl q)⟩
/-! ### a <= b < c -/
end
end Me

/-! Me12: dicts. -/
namespace Me
open PySem PySem.Spec PyProof.Rows L2
def asKey : D → Option Key
  | .int i => some (.inl i)
  | .str x => some (.inr x)
  | _ => none
def asKeys : List D → Option (List Key)
  | [] => some []
  | d :: ds => match asKey d, asKeys ds with
    | some k, some ks => some (k :: ks)
    | _, _ => none
/-- a value as a key of a dict by keys (false), by tuples (true) -/
def asDK : Bool → D → Option DK
  | false, d => (asKey d).map .k
  | true, .tup ds => (asKeys ds).map .t
  | true, _ => none
abbrev nmK (n : List Str) : DK := .t (n.map Sum.inr)
/-- what a dict holds at a key; a dict with a key put, dropped -/
def valD (kvs : List (DK × D)) (k : DK) : Option D := (kvs.find? fun kv => decide (kv.1 = k)).map (·.2)
def putD (kvs : List (DK × D)) (k : DK) (d : D) : List (DK × D) := if (kvs.any fun kv => decide (kv.1 = k)) = true then kvs.map (fun kv => if kv.1 = k then (kv.1, d) else kv) else kvs ++ [(k, d)]
def delD (kvs : List (DK × D)) (k : DK) : List (DK × D) := kvs.filter fun kv => decide (kv.1 ≠ k)
section
variable {Γ : Gam} {F H : Hp} {as : List Ad} {μ : Mu} {v : V} {d : D} {t : Bool} {kvs : List (DK × D)}
theorem DV.key {k : Key} (r : DV Γ F as v d) (h : asKey d = some k) : v = kV k := by
  cases r with
  | int i => obtain rfl := Option.some.inj h; rfl
  | str x => obtain rfl := Option.some.inj h; rfl
  | _ => exact nomatch h
theorem DVs.keys : ∀ {ds : List D} {vs : List V} {ks : List Key}, DVs Γ F as vs ds → asKeys ds = some ks → vs = ks.map kV
  | [], _, _, .nil, h => by obtain rfl := Option.some.inj h; rfl
  | d :: ds, _, _, .cons r t, h => by
    unfold asKeys at h
    cases e1 : asKey d with
    | none => rw [e1] at h; exact nomatch h
    | some k =>
      cases e2 : asKeys ds with
      | none => rw [e1, e2] at h; exact nomatch h
      | some ks =>
        rw [e1, e2] at h
        obtain rfl := Option.some.inj h
        rw [r.key e1, t.keys e2]; rfl
theorem DV.keyT {ks : List Key} (r : DV Γ F as v d) (h : asDK true d = some (.t ks)) : ∃ b, v = .ref b ∧ F b = some (.tup (ks.map kV)) := by
  cases r with
  | tup h1 h2 =>
    obtain ⟨ks', e1, e2⟩ := Option.map_eq_some_iff.mp h
    obtain rfl := DK.t.inj e2
    rw [h2.keys e1] at h1
    exact ⟨_, rfl, h1⟩
  | _ => exact nomatch h
theorem asDK_k {k : DK} (h : asDK false d = some k) : ∃ x, k = .k x ∧ asKey d = some x := by
  obtain ⟨x, e1, e2⟩ := Option.map_eq_some_iff.mp h
  exact ⟨x, e2.symm, e1⟩
theorem asDK_t {k : DK} (h : asDK true d = some k) : ∃ x, k = .t x := by
  cases d with
  | tup ds => obtain ⟨x, e1, e2⟩ := Option.map_eq_some_iff.mp h; exact ⟨x, e2.symm⟩
  | _ => exact nomatch h
/-- how what a dict holds is told -/
def RO (Γ : Gam) (F : Hp) (as : List Ad) : Option V → Option D → Prop
  | some v, some d => DV Γ F as v d
  | none, none => True
  | _, _ => False
theorem valD_cons (p : DK × D) (kvs : List (DK × D)) (k : DK) : valD (p :: kvs) k = if p.1 = k then some p.2 else valD kvs k := by
  unfold valD
  rw [List.find?_cons]
  by_cases h : p.1 = k
  · rw [decide_eq_true h, if_pos h]; rfl
  · rw [decide_eq_false h, if_neg h]
theorem DKs.val : ∀ {vs : List (Key × V)} {kvs : List (DK × D)} (k : Key), DKs Γ F as vs kvs → RO Γ F as (valV vs k) (valD kvs (.k k))
  | _, _, _, .nil => trivial
  | _, _, k, @DKs.cons _ _ _ k' v vs d ds h t => by
    rw [valD_cons]
    by_cases e : k' = k
    · rw [valV_pos e, if_pos (by rw [e])]; exact h
    · rw [valV_neg e, if_neg (fun z => e (DK.k.inj z))]; exact t.val k
theorem DTs.val : ∀ {vs : List (List Key × V)} {kvs : List (DK × D)} (k : List Key), DTs Γ F as vs kvs → RO Γ F as (valV vs k) (valD kvs (.t k))
  | _, _, _, .nil => trivial
  | _, _, k, @DTs.cons _ _ _ k' v vs d ds h t => by
    rw [valD_cons]
    by_cases e : k' = k
    · rw [valV_pos e, if_pos (by rw [e])]; exact h
    · rw [valV_neg e, if_neg (fun z => e (DK.t.inj z))]; exact t.val k
theorem RO.isSome : ∀ {o : Option V} {p : Option D}, RO Γ F as o p → o.isSome = p.isSome
  | some _, some _, _ => rfl
  | none, none, _ => rfl
theorem DKs.length : ∀ {vs : List (Key × V)} {kvs : List (DK × D)}, DKs Γ F as vs kvs → vs.length = kvs.length
  | _, _, .nil => rfl
  | _, _, .cons _ t => congrArg (· + 1) t.length
theorem DTs.length : ∀ {vs : List (List Key × V)} {kvs : List (DK × D)}, DTs Γ F as vs kvs → vs.length = kvs.length
  | _, _, .nil => rfl
  | _, _, .cons _ t => congrArg (· + 1) t.length
theorem valD_any (k : DK) : ∀ kvs : List (DK × D), (kvs.any fun kv => decide (kv.1 = k)) = (valD kvs k).isSome
  | [] => rfl
  | p :: r => by
    rw [List.any_cons, valD_cons, valD_any k r]
    by_cases e : p.1 = k
    · rw [if_pos e, decide_eq_true e]; rfl
    · rw [if_neg e, decide_eq_false e, Bool.false_or]
theorem DKs.map (k : Key) (r : DV Γ F as v d) : ∀ {vs : List (Key × V)} {kvs : List (DK × D)}, DKs Γ F as vs kvs → DKs Γ F as (vs.map fun kv => if kv.1 = k then (kv.1, v) else kv) (kvs.map fun kv => if kv.1 = .k k then (kv.1, d) else kv)
  | _, _, .nil => .nil
  | _, _, @DKs.cons _ _ _ k' v' vs d' ds h t => by
    rw [List.map_cons, List.map_cons]
    by_cases e : k' = k
    · rw [if_pos e, if_pos (by rw [e])]; exact .cons r (t.map k r)
    · rw [if_neg e, if_neg (fun z => e (DK.k.inj z))]; exact .cons h (t.map k r)
theorem DTs.map (k : List Key) (r : DV Γ F as v d) : ∀ {vs : List (List Key × V)} {kvs : List (DK × D)}, DTs Γ F as vs kvs → DTs Γ F as (vs.map fun kv => if kv.1 = k then (kv.1, v) else kv) (kvs.map fun kv => if kv.1 = .t k then (kv.1, d) else kv)
  | _, _, .nil => .nil
  | _, _, @DTs.cons _ _ _ k' v' vs d' ds h t => by
    rw [List.map_cons, List.map_cons]
    by_cases e : k' = k
    · rw [if_pos e, if_pos (by rw [e])]; exact .cons r (t.map k r)
    · rw [if_neg e, if_neg (fun z => e (DK.t.inj z))]; exact .cons h (t.map k r)
theorem DKs.snoc (k : Key) (r : DV Γ F as v d) : ∀ {vs : List (Key × V)} {kvs : List (DK × D)}, DKs Γ F as vs kvs → DKs Γ F as (vs ++ [(k, v)]) (kvs ++ [(.k k, d)])
  | _, _, .nil => .cons r .nil
  | _, _, .cons h t => .cons h (t.snoc k r)
theorem DTs.snoc (k : List Key) (r : DV Γ F as v d) : ∀ {vs : List (List Key × V)} {kvs : List (DK × D)}, DTs Γ F as vs kvs → DTs Γ F as (vs ++ [(k, v)]) (kvs ++ [(.t k, d)])
  | _, _, .nil => .cons r .nil
  | _, _, .cons h t => .cons h (t.snoc k r)
theorem DKs.put {vs : List (Key × V)} (k : Key) (r : DV Γ F as v d) (h : DKs Γ F as vs kvs) : DKs Γ F as (putK vs k v) (putD kvs (.k k) d) := by
  unfold putK putD
  rw [valV_any, valD_any, (h.val k).isSome]
  split
  · exact h.map k r
  · exact h.snoc k r
theorem DTs.put {vs : List (List Key × V)} (k : List Key) (r : DV Γ F as v d) (h : DTs Γ F as vs kvs) : DTs Γ F as (putK vs k v) (putD kvs (.t k) d) := by
  unfold putK putD
  rw [valV_any, valD_any, (h.val k).isSome]
  split
  · exact h.map k r
  · exact h.snoc k r
/-- a dict, a cell's or a stable one -/
def DctAt (Γ : Gam) (F H : Hp) (as : List Ad) (a : Addr) : Bool → List (DK × D) → Prop
  | false, kvs => ∃ vs, Rd H a (.dK vs) ∧ DKs Γ F as vs kvs
  | true, kvs => ∃ vs, Rd H a (.dT vs) ∧ DTs Γ F as vs kvs
theorem Wd.dct (W : Wd Γ F H as μ) (r : DV Γ F as v d) (h : vw μ d = .dct t kvs) : ∃ a, v = .ref a ∧ DctAt Γ F H as a t kvs := by
  cases r with
  | dctK h1 h2 =>
    obtain ⟨rfl, rfl⟩ := D.dct.inj h
    exact ⟨_, rfl, _, .inr ⟨_, W.sub _ _ h1⟩, h2⟩
  | dctT h1 h2 =>
    obtain ⟨rfl, rfl⟩ := D.dct.inj h
    exact ⟨_, rfl, _, .inr ⟨_, W.sub _ _ h1⟩, h2⟩
  | @cell j ad h1 =>
    simp only [vw] at h
    match hm : μ[j]?, h with
    | none, h => cases h
    | some (.lst _), h => cases h
    | some (.ins _ _), h => cases h
    | some .dead, h => cases h
    | some (.gd _ _), h => cases h
    | some (.ts _ _ _), h => cases h
    | some (.gl _ _ _), h => cases h
    | some (.dct false lk ks), h =>
      obtain ⟨rfl, rfl⟩ := D.dct.inj h
      obtain ⟨_, vs, h2, h3⟩ := W.ok j ad _ h1 hm
      exact ⟨_, rfl, vs, h2.rd, h3⟩
    | some (.dct true lk ks), h =>
      obtain ⟨rfl, rfl⟩ := D.dct.inj h
      obtain ⟨_, vs, h2, h3⟩ := W.ok j ad _ h1 hm
      exact ⟨_, rfl, vs, h2.rd, h3⟩
  | _ => cases h
theorem DctAt.get {a : Addr} {y : V} {dk : D} {k : DK} (h : DctAt Γ F H as a t kvs) (s : Same F H) (r : DV Γ F as y dk) (hk : asDK t dk = some k) : ∃ o, DGet H a y o ∧ RO Γ F as o (valD kvs k) := by
  cases t with
  | false =>
    obtain ⟨vs, h1, h2⟩ := h
    obtain ⟨x, rfl, e⟩ := asDK_k hk
    rw [r.key e]
    exact ⟨_, .inl ⟨vs, x, h1, rfl, rfl⟩, h2.val x⟩
  | true =>
    obtain ⟨vs, h1, h2⟩ := h
    obtain ⟨x, rfl⟩ := asDK_t hk
    obtain ⟨b, rfl, e⟩ := r.keyT hk
    exact ⟨_, .inr ⟨vs, x, b, h1, rfl, s _ _ e, rfl⟩, h2.val x⟩
end
section
variable {S : Sc} {env : En} {μ : Mu} {P : KD} {d d1 d2 d3 : D} {t : Bool} {kvs : List (DK × D)} {k : DK} {pos : Pos}
/-- {} -/
theorem e_dict0 (t : Bool) (h : P (.cell μ.length) (μ ++ [.dct t none []])) : E S (.Dict [] [] pos) env μ P := by
  cases t with
  | false =>
    refine PE.imp pe_dnewK fun σ H Q ⟨F, as, a, k⟩ p np => ?_
    obtain ⟨W3, g3⟩ := a.w.addO (o := .dK []) (c := .dct false none []) np fun nF => ⟨nF, [], upd_same, .nil⟩
    exact k _ _ _ _ _ _ h g3 W3 (.cell (ad := ⟨p, none⟩) (a.w.last _))
  | true =>
    refine PE.imp pe_dnewT fun σ H Q ⟨F, as, a, k⟩ p np => ?_
    obtain ⟨W3, g3⟩ := a.w.addO (o := .dT []) (c := .dct true none []) np fun nF => ⟨nF, [], upd_same, .nil⟩
    exact k _ _ _ _ _ _ h g3 W3 (.cell (ad := ⟨p, none⟩) (a.w.last _))
end
end Me

/-! Me13: dicts: len, locks, walks, comprehensions. -/
namespace Me
open PySem PySem.Spec PyProof.Rows L2
/-- a key as a value -/
def dkD : DK → D
  | .k x => keyD x
  | .t xs => .tup (xs.map keyD)
section
variable {Γ : Gam} {F H : Hp} {as : List Ad} {μ : Mu}
theorem DKs.at : ∀ {vs : List (Key × V)} {kvs : List (DK × D)} {i : Nat} {k : Key} {v : V}, DKs Γ F as vs kvs → vs[i]? = some (k, v) → ∃ d, kvs[i]? = some (.k k, d) ∧ DV Γ F as v d
  | _, _, _, _, _, .nil, e => by simp at e
  | _, _, 0, _, _, .cons h _, e => by simp at e; obtain ⟨rfl, rfl⟩ := e; exact ⟨_, rfl, h⟩
  | _, _, i + 1, k, v, .cons _ t, e => by
    obtain ⟨d, h1, h2⟩ := DKs.at (i := i) t (by simpa using e)
    exact ⟨d, by simpa using h1, h2⟩
theorem DTs.at : ∀ {vs : List (List Key × V)} {kvs : List (DK × D)} {i : Nat} {k : List Key} {v : V}, DTs Γ F as vs kvs → vs[i]? = some (k, v) → ∃ d, kvs[i]? = some (.t k, d) ∧ DV Γ F as v d
  | _, _, _, _, _, .nil, e => by simp at e
  | _, _, 0, _, _, .cons h _, e => by simp at e; obtain ⟨rfl, rfl⟩ := e; exact ⟨_, rfl, h⟩
  | _, _, i + 1, k, v, .cons _ t, e => by
    obtain ⟨d, h1, h2⟩ := DTs.at (i := i) t (by simpa using e)
    exact ⟨d, by simpa using h1, h2⟩
end
section
variable {S : Sc} {env : En} {μ : Mu} {P : KD} {d : D} {t : Bool} {kvs : List (DK × D)} {pos p0 p1 : Pos} {e iter tg : Expr} {PI : KI} {j : Nat}
/-- the scene where nothing is raised -/
abbrev Sc.cold (S : Sc) : Sc := { S with Z := fun _ _ _ => False }
/-! ### dict comprehensions -/
/-- what a comprehension of a dict wishes: D0 the new dict, o0 what it is at first -/
def tDcG (o0 : HO) (wi : TI) (g : TG) (tt : TT) (tk tv : TE) (vs : List Nat) : TE := fun σ H Q => wi σ H fun J H1 => ∀ D0, H1 D0 = none → ∃ Y : Nat → Nat → Hp → Prop, (∃ m, Y 0 m (upd H1 D0 o0)) ∧ ∀ i m H, Y i m H →
  (J.stop i H ∧ Q (.ref D0) H) ∨ (J.go i H ∧ ∃ Nx : Hp → Prop, (∀ H', Nx H' → ∃ m', m' < m ∧ Y (i + 1) m' H') ∧ ∀ x H', J.yld i H x H' → g x (wipe σ vs) H' fun σ2 H2 => wipe σ2 vs = wipe σ vs ∧ tt σ2 H2 fun b H3 =>
    if b = true then tk σ2 H3 fun y H4 => tv σ2 H4 fun z H5 => ∃ H6, DPut H5 D0 y z H6 ∧ Nx H6 else Nx H3)
end
end Me

/-! Me14: the comprehension of a dict, by keys or by tuples. -/
namespace Me
open PySem PySem.Spec PyProof.Rows L2
section
variable {X : Cx}
abbrev newD : Obj := { cls := .type "dict", data := .dict #[] }
/-- in every block -/
abbrev InB (X : Cx) (scope : Scope) (p : Cx → Prop) : Prop := ∀ (s : Shared) (H : Hp) (C : Addr) (cl : List (Str × Addr)) (fp : List Addr), p (X.blk s H scope (compEnvC scope cl C X.env) fp)
end
end Me

/-! Me15: dict comprehensions in continuation form. -/
namespace Me
open PySem PySem.Spec PyProof.Rows L2
def emptyO : Bool → HO
  | false => .dK []
  | true => .dT []
/-- an open dict at a place -/
def DctO (Γ : Gam) (F H : Hp) (as : List Ad) (a : Addr) : Bool → List (DK × D) → Prop
  | false, kvs => ∃ vs, H a = some (.dK vs) ∧ DKs Γ F as vs kvs
  | true, kvs => ∃ vs, H a = some (.dT vs) ∧ DTs Γ F as vs kvs
section
variable {Γ : Gam} {F H F' H' : Hp} {as as' : List Ad} {a : Addr} {t : Bool} {kvs : List (DK × D)}
theorem DctO.apart (h : DctO Γ F H as a t kvs) (g : Go F H as F' H' as') (nF : F a = none) (na : a ∉ ads as) : DctO Γ F' H' as' a t kvs ∧ F' a = none ∧ a ∉ ads as' := by
  cases t with
  | false =>
    obtain ⟨vs, h1, h2⟩ := h
    obtain ⟨q1, q2, q3⟩ := g.apart h1 (fun xs z => nomatch z) nF na
    exact ⟨⟨vs, q1, h2.mono g⟩, q2, q3⟩
  | true =>
    obtain ⟨vs, h1, h2⟩ := h
    obtain ⟨q1, q2, q3⟩ := g.apart h1 (fun xs z => nomatch z) nF na
    exact ⟨⟨vs, q1, h2.mono g⟩, q2, q3⟩
theorem DctO.put {y v : V} {dk d : D} {k : DK} (h : DctO Γ F H as a t kvs) (s : Same F H) (r : DV Γ F as y dk) (hk : asDK t dk = some k) (rv : DV Γ F as v d) (hz : kvs.length < sizeLine) : ∃ o, DPut H a y v (upd H a o) ∧ DctO Γ F (upd H a o) as a t (putD kvs k d) := by
  cases t with
  | false =>
    obtain ⟨vs, h1, h2⟩ := h
    obtain ⟨x, rfl, e⟩ := asDK_k hk
    rw [r.key e]
    exact ⟨_, DPut.k h1 (by rw [h2.length]; exact hz), _, upd_same, h2.put x rv⟩
  | true =>
    obtain ⟨vs, h1, h2⟩ := h
    obtain ⟨x, rfl⟩ := asDK_t hk
    obtain ⟨b, rfl, e⟩ := r.keyT hk
    exact ⟨_, DPut.t h1 (s _ _ e) (by rw [h2.length]; exact hz), _, upd_same, h2.put x rv⟩
theorem DctO.cell {μ : Mu} (h : DctO Γ F H as a t kvs) (W : Wd Γ F (era H a) as μ) (nF : F a = none) : Wd Γ F H (as ++ [⟨a, none⟩]) (μ ++ [.dct t none kvs]) ∧ Go F (era H a) as F H (as ++ [⟨a, none⟩]) := by
  have kp : ∀ js, Kp as (as ++ [⟨a, none⟩]) js := fun js i hi ad e => by rw [List.getElem?_append_left (List.getElem?_eq_some_iff.mp e).1]; exact e
  cases t with
  | false =>
    obtain ⟨vs, h1, h2⟩ := h
    have z := W.addO (o := .dK vs) (c := .dct false none kvs) era_same fun nF => ⟨nF, vs, upd_same, h2.to (Same.refl F) (kp _)⟩
    rw [era_upd h1] at z
    exact z
  | true =>
    obtain ⟨vs, h1, h2⟩ := h
    have z := W.addO (o := .dT vs) (c := .dct true none kvs) era_same fun nF => ⟨nF, vs, upd_same, h2.to (Same.refl F) (kp _)⟩
    rw [era_upd h1] at z
    exact z
end
section
variable {S : Sc} {env : En} {μ : Mu} {kx vx tg iter : Expr} {ifs : List Expr} {pos p0 p1 p2 : Pos} {x y : Str} {scope : Scope} {P : KD} {t : Bool}
structure CompD (S : Sc) (scope : Scope) (rel : D → En → En → Prop) (vs : List Nat) (kx vx : Expr) (ifs : List Expr) (env : En) (t : Bool) (I : Nat → List (DK × D) → Mu → Prop) (ds : List D) (Sx : Mu → Prop) (μ1 : Mu) (fin : List (DK × D) → Mu → Prop) : Prop where
  size : ds.length ≤ sizeLine
  start : I 0 [] μ1
  stay : ∀ k acc μ, I k acc μ → Sx μ
  turn : ∀ k d acc m, ds[k]? = some d → I k acc m → ∃ env2 PB, rel d (wipeE env vs) env2 ∧ AllB S scope (fun S' => Ts S' ifs env2 m PB) ∧
    ∀ q m1, PB q m1 → (q = true → ∃ PK, AllB S scope (fun S' => E S' kx env2 m1 PK) ∧ ∀ dk m2, PK dk m2 → ∃ key, asDK t dk = some key ∧ AllB S scope fun S' => E S' vx env2 m2 fun d' m3 => I (k + 1) (putD acc key d') m3) ∧ (q = false → I (k + 1) acc m1)
  done : ∀ acc m, I ds.length acc m → fin acc m
/-- a comprehension that changes nothing -/
theorem CompD.pure {rel : D → En → En → Prop} {vs : List Nat} {ds : List D} {Sx : Mu → Prop} {μ1 : Mu} {fin : List (DK × D) → Mu → Prop} (g : D → Option (DK × D)) (size : ds.length ≤ sizeLine) (stay : Sx μ1)
    (turn : ∀ (k : Nat) d, ds[k]? = some d → ∃ env2 q, rel d (wipeE env vs) env2 ∧ AllB S scope (fun S' => Ts S' ifs env2 μ1 fun b m => b = q ∧ m = μ1) ∧
      (q = true → ∃ dk key d', g d = some (key, d') ∧ asDK t dk = some key ∧ AllB S scope (fun S' => E S' kx env2 μ1 fun x m => x = dk ∧ m = μ1) ∧ AllB S scope fun S' => E S' vx env2 μ1 fun x m => x = d' ∧ m = μ1) ∧ (q = false → g d = none))
    (done : fin ((ds.filterMap g).foldl (fun acc p => putD acc p.1 p.2) []) μ1) : ∃ I, CompD S scope rel vs kx vx ifs env t I ds Sx μ1 fin := by
  refine ⟨fun k acc m => m = μ1 ∧ acc = ((ds.take k).filterMap g).foldl (fun acc p => putD acc p.1 p.2) [], size, ⟨rfl, rfl⟩, fun k acc m ⟨e, _⟩ => e ▸ stay, fun k d acc m hd ⟨e1, e2⟩ => ?_, fun acc m ⟨e1, e2⟩ => ?_⟩
  · subst e1 e2
    obtain ⟨env2, q, h1, h2, h3, h4⟩ := turn k d hd
    refine ⟨env2, _, h1, h2, fun b m1 ⟨e1, e2⟩ => ?_⟩
    subst e1 e2
    refine ⟨fun z => ?_, fun z => ⟨rfl, ?_⟩⟩
    · obtain ⟨dk, key, d', e, ek, hk, hv⟩ := h3 z
      refine ⟨_, hk, fun dk2 m2 ⟨q1, q2⟩ => ?_⟩
      subst q1 q2
      refine ⟨key, ek, fun s H C cl fp => (hv s H C cl fp).imp fun x m ⟨e1, e2⟩ => ⟨e2, ?_⟩⟩
      rw [take_snoc hd, List.filterMap_append, List.foldl_append, e1]
      simp [e]
    · rw [take_snoc hd, List.filterMap_append, List.foldl_append]
      simp [h4 z]
  · rw [e1, e2, List.take_length]
    exact done
end
end Me

/-! Me16: sorted. -/
namespace Me
open PySem PySem.Spec PyProof.Rows L2
/-- what can be sorted -/
structure SrtOk (ds : List D) : Prop where
  py : D.isPys ds = true
  nd : PyData.hasDictAll (D.pys ds) = false
  al : PySem.W.AllAlike (ds.map D.py)
  so : PySem.W.Sortable (ds.map D.py)
  sz : ds.length ≤ sizeLine
  dp : ∀ d ∈ ds, d.py.depth ≤ 60
abbrev srt (ds : List D) : List D := ds.mergeSort (PySem.W.dataLe false D.py)
section
variable {X : Cx} {pins : List (Addr × Obj)} {s : Shared} {σ : L2.St} {H F : Hp} {as : List Ad} {Γ : Gam}
end
section
variable {S : Sc} {env : En} {μ : Mu} {d : D} {ds : List D} {P : KD} {kvs : List (DK × D)}
end
end Me

/-! Me17: dict(pairs). -/
namespace Me
open PySem PySem.Spec PyProof.Rows L2
section
variable {X : Cx} {pins : List (Addr × Obj)} {σ : L2.St} {H : Hp} {s : Shared}
structure PrT where
  k : List Key
  b : Addr
  v : V
end
/-! ### at the values' level -/
def asPair (t : Bool) : D → Option (DK × D)
  | .tup [a, b] => (asDK t a).map fun k => (k, b)
  | _ => none
def putsD (kvs : List (DK × D)) (ps : List (DK × D)) : List (DK × D) := ps.foldl (fun acc p => putD acc p.1 p.2) kvs
section
variable {Γ : Gam} {F H : Hp} {as : List Ad}
end
section
variable {S : Sc} {env : En} {μ : Mu} {d : D} {ds : List D} {P : KD}
end
end Me

/-! Me18: == of dicts by names. -/
namespace Me
open PySem PySem.Spec PyProof.Rows L2
section
variable {prog : Program} {w : World} {A : Around} {s : Shared} {K : Type} [DecidableEq K] {knd : HeapKind prog w K}
/-- whether each pair of the one is in the other -/
def hitsT (e : Value → Value → Bool) (kb : List (K × Addr × Value)) : List (K × Addr × Value) → Bool
  | [] => true
  | x :: r => match atKey kb x.1 with
    | none => false
    | some p => e x.2.2 p.2 && hitsT e kb r
end
end Me

/-! Me19: == of dicts by names with ints, at the values' level. -/
namespace Me
open PySem PySem.Spec PyProof.Rows L2
def eInt : Value → Value → Bool
  | .int i _, .int j _ => i == j
  | _, _ => false
/-- each pair of the one is in the other -/
def inD (kws : List (DK × D)) : List (DK × D) → Bool
  | [] => true
  | p :: r => (match p.2, valD kws p.1 with
    | .int i, some (.int j) => i == j
    | _, _ => false) && inD kws r
def AllInt (kvs : List (DK × D)) : Prop := ∀ p ∈ kvs, ∃ i, p.2 = D.int i
section
variable {Γ : Gam} {F H : Hp} {as : List Ad}
end
section
variable {S : Sc} {env : En} {μ : Mu} {d1 d2 : D} {kvs kws : List (DK × D)} {P : KD}
def sameD (kvs kws : List (DK × D)) : Bool := kvs.length == kws.length && inD kws kvs
end
end Me

/-! Me20: == and != of instances by an own __eq__. -/
namespace Me
open PySem PySem.Spec PyProof.Rows L2
section
variable {prog : Program} {w : World} {A : Around} {E : Value → Shared → Prop} {s : Shared} {K : PySem.W.Frag} {x C L f : Addr} {h₀ : Heap} {m : Str → Option Value} {ox : Obj} {od : Option Obj} {b tb : Value}
end
section
variable {S : Sc} {env : En} {μ : Mu} {c : String} {P : KD} {d1 d2 : D} {k : Nat} {C : Ct}
/-- a class with an own __eq__ and no own __ne__ -/
structure NoNe (K : PySem.W.Frag) (Γ : Gam) (c : String) : Prop where
  ex : ∃ Ca, Γ.cls c = some Ca ∧ PySem.W.findIn K (.ref Ca) "__ne__" = some (some (.builtin "object.__ne__")) ∧ PySem.W.plainOver K Ca = true
end
end Me

/-! Me21: views through several cells; all, min, max. -/
namespace Me
open PySem PySem.Spec PyProof.Rows L2
mutual
/-- what a value is now, cells opened all the way down -/
inductive Dv (μ : Mu) : D → D → Prop
  | non : Dv μ .non .non
  | bl (b : Bool) : Dv μ (.bl b) (.bl b)
  | int (i : Int) : Dv μ (.int i) (.int i)
  | str (x : Str) : Dv μ (.str x) (.str x)
  | lst {ds es : List D} : Dvs μ ds es → Dv μ (.lst ds) (.lst es)
  | tup {ds es : List D} : Dvs μ ds es → Dv μ (.tup ds) (.tup es)
  | cell {j : Nat} {ds es : List D} : μ[j]? = some (.lst ds) → Dvs μ ds es → Dv μ (.cell j) (.lst es)
inductive Dvs (μ : Mu) : List D → List D → Prop
  | nil : Dvs μ [] []
  | cons {d e : D} {ds es : List D} : Dv μ d e → Dvs μ ds es → Dvs μ (d :: ds) (e :: es)
end
mutual
/-- plain data without dicts -/
def D.fl : D → Bool
  | .non => true
  | .bl _ => true
  | .int _ => true
  | .str _ => true
  | .lst ds => D.fls ds
  | .tup ds => D.fls ds
  | .dct _ _ => false
  | .ins _ _ => false
  | .err _ _ => false
  | .ty _ => false
  | .tpx _ => false
  | .cls _ => false
  | .cell _ => false
def D.fls : List D → Bool
  | [] => true
  | d :: ds => d.fl && D.fls ds
end
mutual
theorem Dv.self {μ : Mu} : ∀ d : D, d.fl = true → Dv μ d d
  | .non, _ => .non
  | .bl b, _ => .bl b
  | .int i, _ => .int i
  | .str x, _ => .str x
  | .lst ds, h => .lst (Dvs.self ds (by simpa [D.fl] using h))
  | .tup ds, h => .tup (Dvs.self ds (by simpa [D.fl] using h))
  | .dct _ _, h => by simp [D.fl] at h
  | .ins _ _, h => by simp [D.fl] at h
  | .err _ _, h => by simp [D.fl] at h
  | .ty _, h => by simp [D.fl] at h
  | .tpx _, h => by simp [D.fl] at h
  | .cls _, h => by simp [D.fl] at h
  | .cell _, h => by simp [D.fl] at h
theorem Dvs.self {μ : Mu} : ∀ ds : List D, D.fls ds = true → Dvs μ ds ds
  | [], _ => .nil
  | d :: ds, h => by
    simp only [D.fls, Bool.and_eq_true] at h
    exact .cons (Dv.self d h.1) (Dvs.self ds h.2)
end
section
variable {Γ : Gam} {F H : Hp} {as : List Ad} {μ : Mu}
mutual
theorem Dv.dp (K : PySem.W.Frag) (W : Wd Γ F H as μ) {v : V} {d e : D} (h : Dv μ d e) (r : DV Γ F as v d) : Dp K H v e.py := by
  cases h with
  | non => cases r; exact .non
  | bl b => cases r; exact .bl b
  | int i => cases r; exact .int i
  | str x => cases r; exact .str x
  | lst t => cases r with | lst h1 h2 => exact .lst (.inl (.inl (W.sub _ _ h1))) (Dvs.dp K W t h2)
  | tup t => cases r with | tup h1 h2 => exact .tup (.inl (.inl (W.sub _ _ h1))) (Dvs.dp K W t h2)
  | cell hc t =>
    cases r with
    | cell ha =>
      obtain ⟨_, _, vs, h1, h2⟩ := W.ok _ _ _ ha hc
      exact .lst (.inl (.inl h1)) (Dvs.dp K W t h2)
theorem Dvs.dp (K : PySem.W.Frag) (W : Wd Γ F H as μ) {vs : List V} {ds es : List D} (h : Dvs μ ds es) (r : DVs Γ F as vs ds) : DpAll K H vs (D.pys es) := by
  cases h with
  | nil => cases r; exact .nil
  | cons h1 h2 => cases r with | cons r1 r2 => exact .cons (Dv.dp K W h1 r1) (Dvs.dp K W h2 r2)
end
end
section
variable {S : Sc} {env : En} {μ : Mu} {d d1 d2 e1 e2 : D} {ds : List D} {P : KD} {i j : Int}
end
end Me

/-! Me22: the built-in names, ready. -/
namespace Me
open PySem PySem.Spec PyProof.Rows L2
section
variable {S : Sc} {env : En} {μ : Mu} {e : Expr} {es : List Expr} {pos p0 : Pos} {P : KD} {PB : Bool → Mu → Prop}
theorem thn_n {rest : List Stmt} {R : Out → Prop} (h : B S rest env μ R) : Thn S rest R (.next env μ) := h
theorem asT_i {q : Bool} (h : PB q μ) : asT PB (.bl q) μ := ⟨q, rfl, h⟩
theorem boot_len : bootBuiltins "len" = some (.builtin "len") := by decide +kernel
theorem k_len (h : A S (e :: es) env μ fun ds μ1 => Cl S (.builtin "len") ds env μ1 P) (hg : Gl S.X "len" := by rfl) (he : starEach (e :: es) S.X.env = (false, eval e S.X.env) :: starEach es S.X.env := by rfl) (hpl : (backTo pos (starEach es S.X.env)).any (·.1) = false := by rfl) :
    E S (.Call (.Name "len" p0) (e :: es) [] pos) env μ P := e_callB S.hb.len boot_len h hg (by decide) (by decide) he hpl
theorem boot_abs : bootBuiltins "abs" = some (.builtin "abs") := by decide +kernel
theorem k_abs (h : A S (e :: es) env μ fun ds μ1 => Cl S (.builtin "abs") ds env μ1 P) (hg : Gl S.X "abs" := by rfl) (he : starEach (e :: es) S.X.env = (false, eval e S.X.env) :: starEach es S.X.env := by rfl) (hpl : (backTo pos (starEach es S.X.env)).any (·.1) = false := by rfl) :
    E S (.Call (.Name "abs" p0) (e :: es) [] pos) env μ P := e_callB S.hb.abs boot_abs h hg (by decide) (by decide) he hpl
theorem boot_repr : bootBuiltins "repr" = some (.builtin "repr") := by decide +kernel
theorem k_repr (h : A S (e :: es) env μ fun ds μ1 => Cl S (.builtin "repr") ds env μ1 P) (hg : Gl S.X "repr" := by rfl) (he : starEach (e :: es) S.X.env = (false, eval e S.X.env) :: starEach es S.X.env := by rfl) (hpl : (backTo pos (starEach es S.X.env)).any (·.1) = false := by rfl) :
    E S (.Call (.Name "repr" p0) (e :: es) [] pos) env μ P := e_callB S.hb.repr boot_repr h hg (by decide) (by decide) he hpl
theorem boot_sorted : bootBuiltins "sorted" = some (.builtin "sorted") := by decide +kernel
theorem k_sorted (h : A S (e :: es) env μ fun ds μ1 => Cl S (.builtin "sorted") ds env μ1 P) (hg : Gl S.X "sorted" := by rfl) (he : starEach (e :: es) S.X.env = (false, eval e S.X.env) :: starEach es S.X.env := by rfl) (hpl : (backTo pos (starEach es S.X.env)).any (·.1) = false := by rfl) :
    E S (.Call (.Name "sorted" p0) (e :: es) [] pos) env μ P := e_callB S.hb.sorted boot_sorted h hg (by decide) (by decide) he hpl
theorem boot_all : bootBuiltins "all" = some (.builtin "all") := by decide +kernel
theorem k_all (h : A S (e :: es) env μ fun ds μ1 => Cl S (.builtin "all") ds env μ1 P) (hg : Gl S.X "all" := by rfl) (he : starEach (e :: es) S.X.env = (false, eval e S.X.env) :: starEach es S.X.env := by rfl) (hpl : (backTo pos (starEach es S.X.env)).any (·.1) = false := by rfl) :
    E S (.Call (.Name "all" p0) (e :: es) [] pos) env μ P := e_callB S.hb.all boot_all h hg (by decide) (by decide) he hpl
theorem boot_min : bootBuiltins "min" = some (.builtin "min") := by decide +kernel
theorem k_min (h : A S (e :: es) env μ fun ds μ1 => Cl S (.builtin "min") ds env μ1 P) (hg : Gl S.X "min" := by rfl) (he : starEach (e :: es) S.X.env = (false, eval e S.X.env) :: starEach es S.X.env := by rfl) (hpl : (backTo pos (starEach es S.X.env)).any (·.1) = false := by rfl) :
    E S (.Call (.Name "min" p0) (e :: es) [] pos) env μ P := e_callB S.hb.min boot_min h hg (by decide) (by decide) he hpl
theorem boot_isinstance : bootBuiltins "isinstance" = some (.builtin "isinstance") := by decide +kernel
theorem k_isinstance (h : A S (e :: es) env μ fun ds μ1 => Cl S (.builtin "isinstance") ds env μ1 P) (hg : Gl S.X "isinstance" := by rfl) (he : starEach (e :: es) S.X.env = (false, eval e S.X.env) :: starEach es S.X.env := by rfl) (hpl : (backTo pos (starEach es S.X.env)).any (·.1) = false := by rfl) :
    E S (.Call (.Name "isinstance" p0) (e :: es) [] pos) env μ P := e_callB S.hb.isinstance boot_isinstance h hg (by decide) (by decide) he hpl
theorem boot_int : bootBuiltins "int" = some (.type "int") := by decide +kernel
theorem k_int (h : A S (e :: es) env μ fun ds μ1 => Cl S (.type "int") ds env μ1 P) (hg : Gl S.X "int" := by rfl) (he : starEach (e :: es) S.X.env = (false, eval e S.X.env) :: starEach es S.X.env := by rfl) (hpl : (backTo pos (starEach es S.X.env)).any (·.1) = false := by rfl) :
    E S (.Call (.Name "int" p0) (e :: es) [] pos) env μ P := e_callTy S.hb.int boot_int h hg (by decide) (by decide) he hpl
theorem boot_tuple : bootBuiltins "tuple" = some (.type "tuple") := by decide +kernel
theorem k_tuple (h : A S (e :: es) env μ fun ds μ1 => Cl S (.type "tuple") ds env μ1 P) (hg : Gl S.X "tuple" := by rfl) (he : starEach (e :: es) S.X.env = (false, eval e S.X.env) :: starEach es S.X.env := by rfl) (hpl : (backTo pos (starEach es S.X.env)).any (·.1) = false := by rfl) :
    E S (.Call (.Name "tuple" p0) (e :: es) [] pos) env μ P := e_callTy S.hb.tuple boot_tuple h hg (by decide) (by decide) he hpl
theorem boot_list : bootBuiltins "list" = some (.type "list") := by decide +kernel
theorem k_list (h : A S (e :: es) env μ fun ds μ1 => Cl S (.type "list") ds env μ1 P) (hg : Gl S.X "list" := by rfl) (he : starEach (e :: es) S.X.env = (false, eval e S.X.env) :: starEach es S.X.env := by rfl) (hpl : (backTo pos (starEach es S.X.env)).any (·.1) = false := by rfl) :
    E S (.Call (.Name "list" p0) (e :: es) [] pos) env μ P := e_callTy S.hb.list boot_list h hg (by decide) (by decide) he hpl
theorem boot_dict : bootBuiltins "dict" = some (.type "dict") := by decide +kernel
theorem k_dict (h : A S (e :: es) env μ fun ds μ1 => Cl S (.type "dict") ds env μ1 P) (hg : Gl S.X "dict" := by rfl) (he : starEach (e :: es) S.X.env = (false, eval e S.X.env) :: starEach es S.X.env := by rfl) (hpl : (backTo pos (starEach es S.X.env)).any (·.1) = false := by rfl) :
    E S (.Call (.Name "dict" p0) (e :: es) [] pos) env μ P := e_callTy S.hb.dict boot_dict h hg (by decide) (by decide) he hpl
end
end Me

/-! Me23: o.f, o.g = .. -/
namespace Me
open PySem PySem.Spec PyProof.Rows L2
section
variable {X : Cx} {o : Expr} {to : TE} {f : Str} {pos : Pos}
def gFld (K : PySem.W.Frag) (to : TE) (f : Str) : TG := fun v σ H Q => to σ H fun x H1 => ∃ a C dx fs, x = .ref a ∧ H1 a = some (.ins C dx fs) ∧ Cls K C ∧ NoAttr K C f ∧ fs.length < 1000 ∧ Q σ (upd H1 a (.ins C dx (putF f v fs)))
end
section
variable {S : Sc} {env : En} {μ : Mu} {e o1 o2 : Expr} {rest : List Stmt} {R : Out → Prop} {pos p1 p2 pt : Pos} {f1 f2 : Str} {k : Nat}
end
end Me

/-! LM1: the laws' bag and the laws' data. -/
namespace Lm
open PySem PySem.Spec PyProof.Rows L2 Me

/-- the laws' bag -/
structure Bag where
  a : Int
  seed : Int
  i : Int
  cells : List Int
def bagD (s : Bag) : List D := [.int s.a, .int s.seed, .int s.i, .lst (s.cells.map D.int)]
def bagC (s : Bag) : Cell := .lst (bagD s)
structure Good (s : Bag) : Prop where
  a0 : 0 ≤ s.a
  s0 : 0 ≤ s.seed
  s1 : s.seed < 2147483647
  i0 : 0 ≤ s.i
def cellOf (s : Bag) : Int := if s.i < s.cells.length then s.cells.getD s.i.toNat 0 else 0
def fill (s : Bag) : Bag := if s.a = 0 then
    ⟨if 1000000000000000000 ≤ cellOf s then cellOf s else 0, (s.seed * 48271 + (cellOf s % 2147483647 + 7919 * (s.i + 1))) % 2147483647, s.i + 1, s.cells⟩
  else s
def takeV (s : Bag) (n : Int) : Int := if 0 < (fill s).a then (fill s).a % n else ((fill s).seed * 48271 + 11) % 2147483647 / 64 % n
def takeS (s : Bag) (n : Int) : Bag := if 0 < (fill s).a then { fill s with a := (fill s).a / n } else { fill s with seed := ((fill s).seed * 48271 + 11) % 2147483647 }
theorem fill_good {s : Bag} (h : Good s) : Good (fill s) := by
  unfold fill
  split
  · refine ⟨?_, Int.emod_nonneg _ (by decide), Int.emod_lt_of_pos _ (by decide), ?_⟩
    · show 0 ≤ if 1000000000000000000 ≤ cellOf s then cellOf s else 0
      split <;> omega
    · show 0 ≤ s.i + 1
      have := h.i0
      omega
  · exact h
theorem takeS_good {s : Bag} {n : Int} (h : Good s) (hn : 0 < n) : Good (takeS s n) := by
  have f := fill_good h
  unfold takeS
  split
  · exact ⟨Int.ediv_nonneg f.a0 (Int.le_of_lt hn), f.s0, f.s1, f.i0⟩
  · exact ⟨f.a0, Int.emod_nonneg _ (by decide), Int.emod_lt_of_pos _ (by decide), f.i0⟩
theorem takeV_nonneg {s : Bag} {n : Int} (hn : 0 < n) : 0 ≤ takeV s n := by
  unfold takeV
  split <;> exact Int.emod_nonneg _ (by omega)
theorem takeV_lt {s : Bag} {n : Int} (hn : 0 < n) : takeV s n < n := by
  unfold takeV
  split <;> exact Int.emod_lt_of_pos _ hn
/-- data that == and repr take: how deep at most, how long its text at most -/
structure Ok (d : PyData) (h n : Nat) : Prop where
  lay : d.canLay0 = true
  shw : d.showable = true
  dep : d.depth ≤ h
  txt : d.shown.length ≤ n
theorem Ok.mono {d : PyData} {h n h' n' : Nat} (o : Ok d h n) (a : h ≤ h') (b : n ≤ n') : Ok d h' n' := ⟨o.lay, o.shw, Nat.le_trans o.dep a, Nat.le_trans o.txt b⟩
theorem str_len_append (a b : Str) : (a ++ b).length = a.length + b.length := by
  show (a.cps ++ b.cps).size = a.cps.size + b.cps.size
  exact Array.size_append
theorem Ok.none : Ok .none 0 4 := ⟨rfl, rfl, Nat.le_refl _, by decide⟩
theorem Ok.bool (b : Bool) : Ok (.bool b) 0 5 := by cases b <;> exact ⟨rfl, rfl, Nat.le_refl _, by decide⟩
theorem Ok.str {x : Str} (h : PyData.strOk x = true) {n : Nat} (hn : x.length ≤ n) : Ok (.str x) 0 (10 * n + 2) := by
  refine ⟨by simpa [PyData.canLay0] using h, rfl, Nat.le_refl _, ?_⟩
  have k := StrLaws.reprText_len x fun c hc => by
    have := h
    unfold PyData.strOk at this
    rw [Array.all_eq_true'] at this
    have z := of_decide_eq_true (this c (Array.mem_toList_iff.mp hc))
    omega
  show (reprText x).length ≤ _
  omega
theorem textFrom_le : ∀ (ts : List Str) (k : Nat) (acc : Str), (textFrom k acc ts).length ≤ acc.length + piled ts
  | [], k, acc => Nat.le_refl _
  | t :: r, k, acc => by
    have ih := textFrom_le r (k + 1) (acc ++ (if k > 0 then ", " else "" : String) ++ t)
    rw [str_len_append, str_len_append] at ih
    rw [piled_cons]
    have : (Str.ofString (if k > 0 then ", " else "" : String)).length ≤ 2 := by split <;> decide
    show (textFrom (k + 1) (acc ++ (if k > 0 then ", " else "" : String) ++ t) r).length ≤ _
    omega
theorem piled_le {n : Nat} : ∀ {ts : List Str}, (∀ t ∈ ts, t.length ≤ n) → piled ts ≤ ts.length * (n + 2)
  | [], _ => Nat.zero_le _
  | t :: r, h => by
    have ih := piled_le (ts := r) fun t ht => h t (List.mem_cons_of_mem _ ht)
    have := h t List.mem_cons_self
    rw [piled_cons, List.length_cons, Nat.succ_mul]
    omega
theorem shownAll_len : ∀ ds : List PyData, (PyData.shownAll ds).length = ds.length
  | [] => rfl
  | d :: ds => by simp [PyData.shownAll, shownAll_len ds]
theorem shownAll_le {n : Nat} : ∀ {ds : List PyData}, (∀ d ∈ ds, d.shown.length ≤ n) → ∀ t ∈ PyData.shownAll ds, t.length ≤ n
  | [], _, t, ht => by simp [PyData.shownAll] at ht
  | d :: ds, h, t, ht => by
    simp only [PyData.shownAll, List.mem_cons] at ht
    rcases ht with rfl | ht
    · exact h d List.mem_cons_self
    · exact shownAll_le (ds := ds) (fun d hd => h d (List.mem_cons_of_mem _ hd)) t ht
theorem all_lay {h n : Nat} : ∀ {ds : List PyData}, (∀ d ∈ ds, Ok d h n) → PyData.canLayAll0 ds = true ∧ PyData.showableAll ds = true ∧ PyData.depthAll ds ≤ h
  | [], _ => ⟨rfl, rfl, Nat.zero_le _⟩
  | d :: ds, k => by
    obtain ⟨h1, h2, h3⟩ := all_lay (ds := ds) fun d hd => k d (List.mem_cons_of_mem _ hd)
    have o := k d List.mem_cons_self
    refine ⟨by simp only [PyData.canLayAll0, o.lay, h1, Bool.and_self], by simp only [PyData.showableAll, o.shw, h2, Bool.and_self], ?_⟩
    show max d.depth (PyData.depthAll ds) ≤ h
    have := o.dep
    omega
theorem Ok.list {ds : List PyData} {h n : Nat} (k : ∀ d ∈ ds, Ok d h n) {m : Nat} (hm : ds.length ≤ m) : Ok (.list ds) (h + 1) (m * (n + 2) + 2) := by
  obtain ⟨h1, h2, h3⟩ := all_lay k
  refine ⟨h1, h2, Nat.succ_le_succ h3, ?_⟩
  show (textFrom 0 "[" (PyData.shownAll ds) ++ Str.ofString "]").length ≤ _
  rw [str_len_append]
  have a := textFrom_le (PyData.shownAll ds) 0 "["
  have b := piled_le (shownAll_le fun d hd => (k d hd).txt)
  rw [shownAll_len] at b
  have c : (Str.ofString "[").length = 1 := by decide
  have d : (Str.ofString "]").length = 1 := by decide
  have e : ds.length * (n + 2) ≤ m * (n + 2) := Nat.mul_le_mul_right _ hm
  omega
theorem Ok.tuple {ds : List PyData} {h n : Nat} (k : ∀ d ∈ ds, Ok d h n) {m : Nat} (hm : ds.length ≤ m) : Ok (.tuple ds) (h + 1) (m * (n + 2) + 3) := by
  obtain ⟨h1, h2, h3⟩ := all_lay k
  refine ⟨h1, h2, Nat.succ_le_succ h3, ?_⟩
  show (Str.ofString "(" ++ Str.join ", " (PyData.shownAll ds) ++ (Str.ofString (if (PyData.shownAll ds).length == 1 then ",)" else ")" : String))).length ≤ _
  rw [str_len_append, str_len_append]
  have b := piled_le (shownAll_le fun d hd => (k d hd).txt)
  rw [shownAll_len] at b
  have c : (Str.ofString "(").length = 1 := by decide
  have d : (Str.ofString (if (PyData.shownAll ds).length == 1 then ",)" else ")" : String)).length ≤ 2 := by split <;> decide
  have e : ds.length * (n + 2) ≤ m * (n + 2) := Nat.mul_le_mul_right _ hm
  by_cases hz : PyData.shownAll ds = []
  · rw [hz]
    have f : (Str.join (Str.ofString ", ") []).length = 0 := by decide
    rw [hz] at d
    omega
  · have := join_length_add (PyData.shownAll ds) hz
    omega
theorem Ok.mem {ds : List PyData} {h n : Nat} (o : Ok (.list ds) h n) : True := trivial
mutual
theorem noDict : ∀ {d : PyData}, d.canLay0 = true → d.hasDict = false
  | .none, _ => rfl
  | .bool _, _ => rfl
  | .int _, _ => rfl
  | .str _, _ => rfl
  | .list ds, h => noDicts (ds := ds) h
  | .tuple ds, h => noDicts (ds := ds) h
  | .dict _, h => nomatch h
theorem noDicts : ∀ {ds : List PyData}, PyData.canLayAll0 ds = true → PyData.hasDictAll ds = false
  | [], _ => rfl
  | d :: ds, h => by
    simp only [PyData.canLayAll0, Bool.and_eq_true] at h
    simp only [PyData.hasDictAll, noDict h.1, noDicts h.2, Bool.or_self]
end
theorem Ok.shaped {d : PyData} {h n : Nat} (o : Ok d h n) (hh : h ≤ 64 := by decide) : SeqAt.shaped d = true := by
  unfold SeqAt.shaped
  rw [o.lay, decide_eq_true (Nat.le_trans o.dep hh)]
  rfl
/-! ### names -/
abbrev namePy (n : List Str) : PyData := .tuple (n.map PyData.str)
/-- a label as the laws have them -/
structure Lab (x : Str) : Prop where
  let_ : ∀ c ∈ x.cps.toList, 97 ≤ c ∧ c ≤ 122
  pos : 1 ≤ x.length
  len : x.length ≤ 16
theorem Lab.ok {x : Str} (h : Lab x) : PyData.strOk x = true := by
  unfold PyData.strOk
  rw [Array.all_eq_true']
  intro c hc
  have := h.let_ c (Array.mem_toList_iff.mpr hc)
  exact decide_eq_true (by omega)
theorem Lab.append {x y : Str} (h : Lab x) (h' : Lab y) (hl : x.length + y.length ≤ 16) : Lab (x ++ y) := by
  refine ⟨fun c hc => ?_, by rw [str_len_append]; have := h.pos; omega, by rw [str_len_append]; exact hl⟩
  have : c ∈ (x.cps ++ y.cps).toList := hc
  rw [Array.toList_append] at this
  rcases List.mem_append.mp this with z | z
  · exact h.let_ c z
  · exact h'.let_ c z
structure Nm (n : List Str) (k : Nat) : Prop where
  lab : ∀ x ∈ n, Lab x
  len : n.length ≤ k
theorem Nm.okD {n : List Str} {k : Nat} (h : Nm n k) : Ok (namePy n) 1 (k * 164 + 3) :=
  Ok.tuple (h := 0) (n := 162) (fun d hd => by
    obtain ⟨x, hx, rfl⟩ := List.mem_map.mp hd
    exact (Ok.str (h.lab x hx).ok (h.lab x hx).len)) (by rw [List.length_map]; exact h.len)
theorem Nm.drop {n : List Str} {k : Nat} (h : Nm n k) (i : Nat) : Nm (n.drop i) k := ⟨fun x hx => h.lab x (List.mem_of_mem_drop hx), by rw [List.length_drop]; have := h.len; omega⟩
theorem Nm.take {n : List Str} {k : Nat} (h : Nm n k) (i : Nat) : Nm (n.take i) k := ⟨fun x hx => h.lab x (List.mem_of_mem_take hx), by rw [List.length_take]; have := h.len; omega⟩
theorem Nm.append {n m : List Str} {k j : Nat} (h : Nm n k) (h' : Nm m j) : Nm (n ++ m) (k + j) := ⟨fun x hx => (List.mem_append.mp hx).elim (h.lab x) (h'.lab x), by rw [List.length_append]; have := h.len; have := h'.len; omega⟩
theorem Nm.mono {n : List Str} {k j : Nat} (h : Nm n k) (e : k ≤ j) : Nm n j := ⟨h.lab, Nat.le_trans h.len e⟩
theorem Nm.nil {k : Nat} : Nm [] k := ⟨fun x hx => (nomatch hx), Nat.zero_le _⟩

/-! ### the same as values -/
abbrev nameD (n : List Str) : D := .tup (n.map D.str)
theorem pys_strs : ∀ n : List Str, D.pys (n.map D.str) = n.map PyData.str
  | [] => rfl
  | x :: n => by rw [List.map_cons, D.pys, pys_strs n]; rfl
theorem py_name (n : List Str) : (nameD n).py = namePy n := by
  show PyData.tuple (D.pys (n.map D.str)) = _
  rw [pys_strs]
end Lm

/-! LM2: what the laws' helpers promise. -/
namespace Lm
open PySem PySem.Spec PyProof.Rows L2 Me
/-- take(bag, n); the bag is the first cell -/
def CTake : Ct := fun args μ P _ => ∃ s n m, args = [.cell 0, .int n] ∧ μ = bagC s :: m ∧ Good s ∧ 0 < n ∧ n < 1073741824 ∧ P (.int (takeV s n)) (bagC (takeS s n) :: m)
/-- what draws from the bag and returns a value -/
def CBag (A : List D → Prop) (R : List D → D → Prop) : Ct := fun args μ P _ => ∃ s m r, args = .cell 0 :: r ∧ μ = bagC s :: m ∧ Good s ∧ A r ∧ ∀ d s', R r d → Good s' → P d (bagC s' :: m)
/-- a def that changes nothing -/
def CPure (rel : List D → D → Prop) : Ct := fun args μ P _ => ∃ d, rel args d ∧ P d μ
/-- alike(found, right), equal ones -/
def CAlike : Ct := fun args μ P _ => ∃ d1 d2 e h n, args = [d1, d2] ∧ Dv μ d1 e ∧ Dv μ d2 e ∧ Ok e.py h n ∧ h ≤ 64 ∧ n ≤ sizeLine ∧ P (.bl true) μ
def APick : List D → Prop := fun r => ∃ ds, r = [.lst ds] ∧ ds ≠ [] ∧ ds.length < 1073741824 ∧ D.refsL ds = []
def RPick : List D → D → Prop := fun r d => ∃ ds, r = [.lst ds] ∧ d ∈ ds
def ALabels : List D → Prop := fun r => ∃ n : Nat, r = [.int (n : Int)] ∧ n ≤ 100
def RLabels : List D → D → Prop := fun r d => ∃ (n : Nat) (ls : List Str), r = [.int (n : Int)] ∧ d = .lst (ls.map D.str) ∧ ls.length = n ∧ ∀ x ∈ ls, Lab x ∧ x.length ≤ 8
def AWord : List D → Prop := fun r => ∃ (ls : List Str) (a b : Int), r = [.lst (ls.map D.str), .int a, .int b] ∧ ls ≠ [] ∧ ls.length ≤ 1000 ∧ 0 ≤ a ∧ a ≤ b ∧ b ≤ 100
def RWord : List D → D → Prop := fun r d => ∃ (ls : List Str) (a b : Int) (n : List Str), r = [.lst (ls.map D.str), .int a, .int b] ∧ d = nameD n ∧ a ≤ n.length ∧ n.length ≤ b ∧ ∀ x ∈ n, x ∈ ls
def isUnder (n t : List Str) : Bool := decide (t.length ≤ n.length) && decide (n.drop (n.length - t.length) = t)
def isBeneath (n t : List Str) : Bool := decide (t.length < n.length) && isUnder n t
def relUnder (g : List Str → List Str → Bool) : List D → D → Prop := fun ds d => ∃ n t k, ds = [nameD n, nameD t] ∧ Nm n k ∧ Nm t k ∧ d = .bl (g n t)
theorem refs_ints : ∀ n : List Int, D.refsL (n.map D.int) = []
  | [] => rfl
  | x :: n => by rw [List.map_cons, D.refsL, refs_ints n]; rfl
theorem bag_refs (s : Bag) : (bagC s).refs = [] := by
  show D.refsL (bagD s) = []
  simp only [bagD, D.refsL, D.refs, refs_ints, List.append_nil]
theorem low_bag {s s' : Bag} {m : Mu} (h : Low (bagC s :: m)) : Low (bagC s' :: m) := fun j c hc i hi => by
  cases j with
  | zero =>
    obtain rfl := Option.some.inj hc
    rw [bag_refs] at hi
    exact nomatch hi
  | succ j => exact h (j + 1) c hc i hi
/-! ### cuts -/
theorem at_i {α : Type} {ds : List α} {i : Int} {d : α} (h0 : 0 ≤ i) (h : ds[i.toNat]? = some d) : L2.atI ds i = some d := by
  have h2 := (List.getElem?_eq_some_iff.mp h).1
  unfold atI ixN
  rw [if_pos h0, if_pos (by omega)]
  exact h
theorem at_ints {ns : List Int} {i : Int} (h0 : 0 ≤ i) (h1 : i < ns.length) : L2.atI (ns.map D.int) i = some (.int (ns.getD i.toNat 0)) := by
  refine at_i h0 ?_
  have h2 : i.toNat < ns.length := by omega
  rw [List.getElem?_map, List.getElem?_eq_getElem h2, List.getD_eq_getElem?_getD, List.getElem?_eq_getElem h2]
  rfl
/-- a stem: letters, at most seven -/
structure Stem (x : Str) : Prop where
  let_ : ∀ c ∈ x.cps.toList, 97 ≤ c ∧ c ≤ 122
  len : x.length ≤ 7
/-! ### calls -/
section
variable {S : Sc} {env : En} {μ : Mu} {e : Expr} {es : List Expr} {pos p0 : Pos} {x : Str} {k : Nat} {P : KD}
theorem ctake {s : Bag} {n : Int} {m : Mu} {Z : KX} (gs : Good s) (hn : 0 < n ∧ n < 1073741824) (k : P (.int (takeV s n)) (bagC (takeS s n) :: m)) : CTake [.cell 0, .int n] (bagC s :: m) P Z := ⟨s, n, m, rfl, rfl, gs, hn.1, hn.2, k⟩
theorem c_lenN {n : List Str} (k : P (.int n.length) μ) : Cl S (.builtin "len") [nameD n] env μ P := c_lenT (by rw [List.length_map]; exact k)
end
end Lm

/-! LM3: lists of names, zones. -/
namespace Lm
open PySem PySem.Spec PyProof.Rows L2 Me
open PySem.W (alike alikeAll)
/-- a label that the program takes -/
def L8 (x : Str) : Prop := Lab x ∧ x.length ≤ 8
/-- a name of at most so many labels -/
structure N8 (n : List Str) (k : Nat) : Prop where
  lab : ∀ x ∈ n, L8 x
  len : n.length ≤ k
theorem N8.nm {n : List Str} {k : Nat} (h : N8 n k) : Nm n k := ⟨fun x hx => (h.lab x hx).1, h.len⟩
theorem N8.mono {n : List Str} {k j : Nat} (h : N8 n k) (e : k ≤ j) : N8 n j := ⟨h.lab, Nat.le_trans h.len e⟩
/-! ### lists of names -/
def nmsD (ns : List (List Str)) : List D := ns.map nameD
/-- some names, none empty -/
structure Ns (ns : List (List Str)) (k m : Nat) : Prop where
  ok : ∀ n ∈ ns, N8 n k ∧ n ≠ []
  len : ns.length ≤ m
/-- the names, ascending -/
def asc (ns : List (List Str)) : List (List Str) := ns.mergeSort fun a b => PySem.W.dataLe false D.py (nameD a) (nameD b)
theorem mem_asc {ns : List (List Str)} {n : List Str} : n ∈ asc ns ↔ n ∈ ns := List.mem_mergeSort
theorem len_asc (ns : List (List Str)) : (asc ns).length = ns.length := List.length_mergeSort _
theorem Ns.asc {ns : List (List Str)} {k m : Nat} (h : Ns ns k m) : Ns (Lm.asc ns) k m := ⟨fun n hn => h.ok n (mem_asc.mp hn), by rw [len_asc]; exact h.len⟩
theorem pys_nms (ns : List (List Str)) : D.pys (nmsD ns) = ns.map namePy := by
  rw [pys_map]
  unfold nmsD
  rw [List.map_map]
  exact List.map_congr_left fun n _ => py_name n
theorem Ns.okD {ns : List (List Str)} {k m : Nat} (h : Ns ns k m) : Ok (D.lst (nmsD ns)).py 2 (m * (k * 164 + 3 + 2) + 2) := by
  show Ok (.list (D.pys (nmsD ns))) _ _
  rw [pys_nms]
  exact Ok.list (h := 1) (n := k * 164 + 3) (fun d hd => by
    obtain ⟨n, hn, rfl⟩ := List.mem_map.mp hd
    exact (h.ok n hn).1.nm.okD) (by rw [List.length_map]; exact h.len)
end Lm

/-! LM4: dicts from names to ints. -/
namespace Lm
open PySem PySem.Spec PyProof.Rows L2 Me
abbrev Zp := List (List Str × Int)
def zk (ps : Zp) : List (DK × D) := ps.map fun p => (nmK p.1, .int p.2)
def keysZ (ps : Zp) : List (List Str) := ps.map (·.1)
def getZ (ps : Zp) (n : List Str) : Option Int := (ps.find? fun p => decide (p.1 = n)).map (·.2)
def putZ (ps : Zp) (n : List Str) (v : Int) : Zp := if n ∈ keysZ ps then ps.map (fun p => if p.1 = n then (p.1, v) else p) else ps ++ [(n, v)]
def putsZ (acc ps : Zp) : Zp := ps.foldl (fun a p => putZ a p.1 p.2) acc
theorem vw_dct {μ : Mu} {j : Nat} {t : Bool} {lk : Option HO} {kvs : List (DK × D)} (h : μ[j]? = some (.dct t lk kvs)) : vw μ (.cell j) = .dct t kvs := by simp only [vw, h]
theorem vw_lst {μ : Mu} {j : Nat} {ds : List D} (h : μ[j]? = some (.lst ds)) : vw μ (.cell j) = .lst ds := by simp only [vw, h]
theorem at_lt {μ : Mu} {j : Nat} {c : Cell} (h : μ[j]? = some c) : j < μ.length := (List.getElem?_eq_some_iff.mp h).1
theorem at_app {μ ext : Mu} {j : Nat} {c : Cell} (h : μ[j]? = some c) : (μ ++ ext)[j]? = some c := by rw [List.getElem?_append_left (at_lt h)]; exact h
/-- the pair of a key -/
def pairAt (ps : Zp) (d : D) : Option (DK × D) := (asDK true d).bind fun k => (valD (zk ps) k).map fun v => (k, v)
/-- the pairs that a zone may have -/
structure Zn (ps : Zp) (k m : Nat) : Prop where
  ok : ∀ p ∈ ps, N8 p.1 k ∧ p.1 ≠ [] ∧ 0 ≤ p.2 ∧ p.2 < 1000
  nd : (keysZ ps).Nodup
  len : ps.length ≤ m
theorem Zn.ns {ps : Zp} {k m : Nat} (h : Zn ps k m) : Ns (keysZ ps) k m := ⟨fun n hn => by
  obtain ⟨p, hp, rfl⟩ := List.mem_map.mp hn
  exact ⟨(h.ok p hp).1, (h.ok p hp).2.1⟩, by unfold keysZ; rw [List.length_map]; exact h.len⟩
theorem keys_put (ps : Zp) (n : List Str) (v : Int) : keysZ (putZ ps n v) = if n ∈ keysZ ps then keysZ ps else keysZ ps ++ [n] := by
  unfold putZ
  by_cases h : n ∈ keysZ ps
  · rw [if_pos h, if_pos h]
    unfold keysZ
    rw [List.map_map]
    refine List.map_congr_left fun p _ => ?_
    show (if p.1 = n then (p.1, v) else p).1 = p.1
    split <;> rfl
  · rw [if_neg h, if_neg h]
    unfold keysZ
    rw [List.map_append]
    rfl
theorem Zn.put {ps : Zp} {k m : Nat} {n : List Str} {v : Int} (h : Zn ps k m) (hn : N8 n k) (h0 : n ≠ []) (hv : 0 ≤ v ∧ v < 1000) : Zn (putZ ps n v) k (m + 1) := by
  refine ⟨fun p hp => ?_, ?_, ?_⟩
  · unfold putZ at hp
    split at hp
    · obtain ⟨q, hq, rfl⟩ := List.mem_map.mp hp
      have := h.ok q hq
      by_cases e : q.1 = n
      · rw [if_pos e]; exact ⟨this.1, this.2.1, hv⟩
      · rw [if_neg e]; exact this
    · rcases List.mem_append.mp hp with z | z
      · exact h.ok p z
      · rw [List.mem_singleton.mp z]; exact ⟨hn, h0, hv⟩
  · rw [keys_put]
    split
    · exact h.nd
    · rename_i q
      refine List.nodup_append.mpr ⟨h.nd, by simp, fun a ha b hb => ?_⟩
      rw [List.mem_singleton.mp hb]
      exact fun z => q (z ▸ ha)
  · have := h.len
    have e : (putZ ps n v).length = (keysZ (putZ ps n v)).length := by unfold keysZ; rw [List.length_map]
    have e2 : (keysZ ps).length = ps.length := by unfold keysZ; rw [List.length_map]
    rw [e, keys_put]
    split
    · omega
    · rw [List.length_append, e2]
      show ps.length + 1 ≤ m + 1
      omega
def sameZ (ps qs : Zp) : Bool := ps.length == qs.length && ps.all fun p => decide (getZ qs p.1 = some p.2)
end Lm

/-! LM5: lists or tuples. -/
namespace Lm
open PySem PySem.Spec PyProof.Rows L2 Me
/-- a list or a tuple -/
def Sq (μ : Mu) (d : D) (ds : List D) : Prop := vw μ d = .lst ds ∨ d = .tup ds
section
variable {S : Sc} {env : En} {μ : Mu} {e tg iter : Expr} {P : KD} {PI : KI} {d : D} {ds : List D}
end
/-- {name: v for name in ..} -/
def nmP (v : D) (d : D) : Option (DK × D) := (asDK true d).map fun k => (k, v)
end Lm

/-! LM6: the law's body: first the bag, then the rest. -/
namespace Lm
open PySem PySem.Spec PyProof.Rows L2 Me
def spBag (K : PySem.W.Frag) : Sp := fun vs H Q _ => ∃ (a : Addr) (ns : List Int), vs = [.ref a] ∧ SqL K H a (ns.map V.int) ∧ ns.length ≤ 1000 ∧
  ∀ (b c : Addr) (cs : List Int) (H' : Hp), b ≠ c → H' b = some (.lst [.int 0, .int 1234567891, .int 0, .ref c]) → H' c = some (.lst (cs.map V.int)) → Q (.ref b) H'
def spLaw (K : PySem.W.Frag) : Sp := fun vs H Q _ => ∃ (a : Addr) (ns : List Int), vs = [.ref a] ∧ SqL K H a (ns.map V.int) ∧ ns.length ≤ 63 ∧ ∀ H', Q (.bl true) H'
def RTrue : Out → Prop := fun o => ∃ m, o = .ret (.bl true) m
section
variable {S : Sc} {rest : List Stmt} {H : Hp} {Q : VK} {E : XK} {vs : List V} {fB : Addr} {fdB : FuncData} {k : Nat} {p0 p1 p2 p3 p4 : Pos}
theorem law_first (n : Nat) (h : spLaw S.X.K vs H Q E) (hZ : ∀ x env m, S.Z x env m → False) (GB : FnOk S.X.prog S.X.w S.X.K S.X.mg S.X.base CX0 k fB fdB ["_law_script"] (spBag S.X.K)) (hr : Room k S.X.A) (hm : S.X.mg "_law_bag" = some (.ref fB)) (hk : PySem.W.keepIn S.X.K (.ref fB) = true) (hb : Binds S.X.K fdB ["_law_script"] [])
    (hrest : ∀ s, Good s → B S rest (none :: some (.cell 0) :: List.replicate n none) [bagC s] RTrue)
    (hl : S.X.N.length = n + 2 := by rfl) (h0 : S.X.N[0]? = some (Str.ofString "_law_script") := by rfl) (h1 : S.X.N[1]? = some (Str.ofString "_law_bag_here") := by rfl) (hv : Vis S.X.env.scope "_law_script" := by first | exact Or.inl rfl | exact Or.inr (Or.inl rfl) | exact Or.inr (Or.inr rfl))
    (hx : Loc S.X.env.scope "_law_bag_here" := by first | exact .inl rfl | exact .inr rfl) (hg : Gl S.X "_law_bag" := by rfl) (hf : S.X.fn "_law_bag_here" = true ∨ S.X.env.scope.names.lookup (Str.ofString "_law_bag_here") = some .local := by first | exact .inl rfl | exact .inr rfl)
    (hs : swapsWith (.Call (.Name "_law_bag" p1) [.Name "_law_script" p2] [] p3) (some (.Name "_law_bag_here" p0)) p4.line S.X.env = pure false := by rfl)
    (he : starEach [.Name "_law_script" p2] S.X.env = (false, eval (.Name "_law_script" p2) S.X.env) :: starEach [] S.X.env := by rfl) :
    ∃ t, PSs S.X (.Assign [.Name "_law_bag_here" p0] (.Call (.Name "_law_bag" p1) [.Name "_law_script" p2] [] p3) p4 :: rest) t ∧ t { nx := fun _ H' => Q .non H', rt := Q } (L2.start S.X.N vs) H := by
  obtain ⟨a, ns, rfl, hS, hn, q⟩ := h
  have h2 : PSs S.X rest (fun Dx σ H => ∃ s, Good s ∧ rdS S (none :: some (.cell 0) :: List.replicate n none) [bagC s] RTrue Dx σ H) := ⟨fun pins s σ H Dx I ⟨b, gb, z⟩ => (hrest b gb).run pins s σ H Dx I z⟩
  refine ⟨_, pss_cons (ps_set S.hN h1 hx (pe_call GB hr hg hm hk hb .nil pass0 (pa_cons (pe_var h0 hv (by decide) (by decide)) pa_nil he) (by decide) he rfl) hs hf) h2, ?_⟩
  have e0 : L2.start S.X.N [V.ref a] = some (.ref a) :: List.replicate (n + 1) none := by
    unfold L2.start
    rw [hl]
    rfl
  rw [e0]
  refine ⟨.ref a, rfl, a, ns, rfl, hS, by omega, fun b c cs H' nbc hb' hc' => ?_⟩
  refine ⟨⟨0, 1234567891, 0, cs⟩, ⟨Int.le_refl 0, (by decide : (0 : Int) ≤ 1234567891), (by decide : (1234567891 : Int) < 2147483647), Int.le_refl 0⟩, fun x => if x = c then some (.lst (cs.map V.int)) else none, [⟨b, none⟩], ⟨⟨?_, ?_⟩, ⟨?_, by simp, rfl, ?_, ?_⟩, fun x env m σ cls dx F2 H2 as2 z => (hZ x env m z).elim⟩, ?_, ?_, ?_, ?_⟩
  · show (none :: some (D.cell 0) :: List.replicate n none).length = (some (V.ref a) :: List.replicate (n + 1) none).length
    simp
  · intro i sv e
    match i, e with
    | 0, e => exact nomatch e
    | 1, e =>
      obtain rfl : D.cell 0 = sv := Option.some.inj (Option.some.inj e)
      exact ⟨.ref b, rfl, .cell (ad := ⟨b, none⟩) rfl⟩
    | i + 2, e =>
      have e' : (List.replicate n (none : Option D))[i]? = some (some sv) := e
      rw [List.getElem?_replicate] at e'
      split at e' <;> exact nomatch e'
  · intro x o e
    have e : (if x = c then some (HO.lst (cs.map V.int)) else none) = some o := e
    by_cases hx : x = c
    · rw [if_pos hx] at e
      rw [hx, hc']
      exact e
    · rw [if_neg hx] at e
      exact nomatch e
  · intro i x cl hx hcl
    match i, hx, hcl with
    | 0, hx, hcl =>
      obtain rfl : (⟨b, none⟩ : Ad) = x := Option.some.inj hx
      obtain rfl := Option.some.inj hcl
      refine ⟨rfl, if_neg nbc, _, hb', .cons (.int 0) (.cons (.int _) (.cons (.int 0) (.cons (.lst (if_pos rfl) (DVs.ofInts cs)) .nil)))⟩
  · intro x hx
    rw [List.mem_singleton.mp hx]
    show H' b ≠ none
    rw [hb']
    exact fun z => nomatch z
  · rintro _ _ _ _ _ _ ⟨m, e⟩
    exact nomatch e
  · rintro sv m v F2 H2 as2 ⟨m', e⟩ _ _ r
    cases e
    cases r
    exact q H2
  · rintro _ _ _ _ _ _ ⟨m, e⟩
    exact nomatch e
  · rintro _ _ _ _ _ _ ⟨m, e⟩
    exact nomatch e
end
end Lm

/-! Me24: y = [.. for ..] of a plain local (the model's own statement). -/
namespace Me
open PySem PySem.Spec PyProof.Rows L2
section
variable {S : Sc} {env : En} {μ : Mu} {elt iter tg : Expr} {ifs : List Expr} {scope : Scope} {rest : List Stmt} {R : Out → Prop} {pos spos py p1 : Pos} {x y : Str}
end
end Me

/-! Me25: sets of text tuples (fewer than 64) in the model's own table: search, adding, laying anew. -/
namespace Me
open PySem PySem.Spec PyProof.Rows L2
abbrev hNm (P : Program) (w : World) (n : List Str) : Int := tupleKeyHash (strKind P w) n
abbrev NmAt (P : Program) (w : World) (h : Heap) (n : List Str) (b : Addr) : Prop := IsTupleKey (strKind P w) h n b
abbrev stp (m : Nat) (g : Int) (c : Nat) : SetTable.Probe := nth m (runAt m (SetTable.bits g % (m + 1)) (SetTable.bits g)) c
abbrev Nms := List (Addr × List Str)
def rwN (P : Program) (w : World) (L : Nms) : List (Int × Value) := L.map fun q => (hNm P w q.2, .ref q.1)
section
variable {P : Program} {w : World} {A : Around} {E : Value → Shared → Prop} {s : Shared}
end
/-- the set at a has the names L in its table -/
structure NSet (P : Program) (w : World) (h : Heap) (a : Addr) (L : Nms) (es : Array (Int × Value)) (ep : Nat) (t : SetTable) : Prop where
  obj : ∃ o, h.get? a = some o ∧ o.ExactSet ∧ o.data = .set es ep t
  rw_ : es.toList = rwN P w L
  tb : TabOk t (L.map fun q => hNm P w q.2)
  nd : (L.map fun q => q.2).Nodup
  nms : ∀ q ∈ L, NmAt P w h q.2 q.1
  ld : w.params.followText "set-order" = true ∨ t.led = true
  rm : L.length * 5 < t.mask * 3
  few : L.length < 64
section
variable {P : Program} {w : World} {A : Around} {E : Value → Shared → Prop} {s : Shared} {h : Heap} {a : Addr} {L : Nms} {es : Array (Int × Value)} {ep : Nat} {t : SetTable}
theorem rw_len (e : es.toList = rwN P w L) : es.size = L.length := by
  have z := congrArg List.length e
  unfold rwN at z
  rwa [Array.length_toList, List.length_map] at z
theorem fits_of (hs : t.place.size = es.size) (hd : t.dummies = #[]) (hm : es.size ≤ t.mask) : t.fits es.size = true := by
  unfold SetTable.fits SetTable.fill
  rw [hd, Bool.and_eq_true, beq_iff_eq, decide_eq_true_eq]
  exact ⟨hs, by show t.place.size + 0 ≤ t.mask; omega⟩
theorem NSet.psz (R : NSet P w h a L es ep t) : t.place.size = es.size := by
  have := R.tb.sz
  rw [List.length_map] at this
  rw [this, rw_len R.rw_]
theorem NSet.fits (R : NSet P w h a L es ep t) : t.fits es.size = true := fits_of R.psz R.tb.dm (by
  have := R.rm
  rw [rw_len R.rw_]
  omega)
theorem NmAt.off {h h' : Heap} {n : List Str} {b : Addr} {o : Obj} (hb : NmAt P w h n b) (ho : h.get? a = some o) (hd : o.data = .set es ep t) (sb : Heap.SameBut a h h') : NmAt P w h' n b := by
  obtain ⟨o', items, m, h1, c1, d1, i1⟩ := hb
  refine ⟨o', items, m, (sb.2 b fun z => ?_).trans h1, c1, d1, i1⟩
  rw [z, ho] at h1
  rw [← Option.some.inj h1, hd] at d1
  exact nomatch d1
end
end Me

/-! Me26: a name added to a set; set(list of names), set(tuple of names). -/
namespace Me
open PySem PySem.Spec PyProof.Rows L2
section
variable {P : Program} {w : World} {A : Around} {E : Value → Shared → Prop} {s : Shared} {h : Heap} {a : Addr} {L : Nms} {es : Array (Int × Value)} {ep : Nat} {t : SetTable}
end
/-- what the first i items have brought -/
structure Brought (ks : Nms) (i : Nat) (L : Nms) : Prop where
  sub : ∀ q ∈ L, q ∈ ks.take i
  all : ∀ q ∈ ks.take i, q.2 ∈ L.map fun q => q.2
  len : L.length ≤ i
theorem take_one {α : Type} {l : List α} {i : Nat} {x : α} (h : l[i]? = some x) : l.take (i + 1) = l.take i ++ [x] := by
  rw [List.take_succ, h]
  rfl
theorem Brought.same {ks L : Nms} {i : Nat} {x : Addr × List Str} (g : Brought ks i L) (h : ks[i]? = some x) (hm : x.2 ∈ L.map fun q => q.2) : Brought ks (i + 1) L := by
  refine ⟨fun p hp => ?_, fun p hp => ?_, Nat.le_succ_of_le g.len⟩
  · rw [take_one h]
    exact List.mem_append_left _ (g.sub p hp)
  · rw [take_one h] at hp
    exact (List.mem_append.mp hp).elim (g.all p) fun z => by rw [List.mem_singleton.mp z]; exact hm
theorem Brought.more {ks L L' : Nms} {i : Nat} {x : Addr × List Str} (g : Brought ks i L) (h : ks[i]? = some x) (pm : L'.Perm (x :: L)) : Brought ks (i + 1) L' := by
  refine ⟨fun p hp => ?_, fun p hp => ?_, by rw [pm.length_eq]; exact Nat.succ_le_succ g.len⟩
  · rw [take_one h]
    exact (List.mem_cons.mp (pm.mem_iff.mp hp)).elim (fun e => by rw [e]; exact List.mem_append_right _ (List.mem_singleton.mpr rfl)) fun z => List.mem_append_left _ (g.sub p z)
  · rw [(pm.map _).mem_iff, List.map_cons]
    rw [take_one h] at hp
    exact (List.mem_append.mp hp).elim (fun z => List.mem_cons_of_mem _ (g.all p z)) fun z => by rw [List.mem_singleton.mp z]; exact List.mem_cons_self
section
variable {P : Program} {w : World} {A : Around} {E : Value → Shared → Prop} {s : Shared}
theorem NmAt.keep {h h' : Heap} {n : List Str} {b : Addr} (x : NmAt P w h n b) (k : ∀ c o, h.get? c = some o → h'.get? c = some o) : NmAt P w h' n b := by
  obtain ⟨o, items, m, ho, r⟩ := x
  exact ⟨o, items, m, k b o ho, r⟩
theorem NSet.keep {h h' : Heap} {a : Addr} {L : Nms} {es : Array (Int × Value)} {ep : Nat} {t : SetTable} (R : NSet P w h a L es ep t) (ka : ∀ o, h.get? a = some o → h'.get? a = some o) (kt : ∀ q ∈ L, NmAt P w h' q.2 q.1) : NSet P w h' a L es ep t := by
  obtain ⟨o, ho, r⟩ := R.obj
  exact ⟨⟨o, ka o ho, r⟩, R.rw_, R.tb, R.nd, kt, R.ld, R.rm, R.few⟩
abbrev set0 (w : World) : Obj := { cls := .type "set", dict := none, data := .set #[] 0 (.fresh 0 0 (!w.params.followText "set-order")) }
end
end Me

/-! set(list of names), by gen27.py. -/
namespace Me
open PySem PySem.Spec PyProof.Rows L2
section
variable {P : Program} {w : World} {A : Around} {E : Value → Shared → Prop} {s : Shared}
end
end Me

/-! Me28: len(set(x)) of a list of names. -/
namespace Me
open PySem PySem.Spec PyProof.Rows L2
abbrev nmD (n : List Str) : D := .tup (n.map D.str)
/-- how many a set of them has -/
def Uniq (ns : List (List Str)) (m : Nat) : Prop := m ≤ ns.length ∧ (m = ns.length ↔ ns.Nodup)
section
variable {Γ : Gam} {F H : Hp} {as : List Ad} {X : Cx} {pins : List (Addr × Obj)} {σ : L2.St} {s : Shared} {μ : Mu}
end
section
variable {S : Sc} {env : En} {μ : Mu} {e : Expr} {P : KD} {p p2 q pos : Pos}
end
end Me

/-! Me29: C(e, .., k = v, ..); properties. -/
namespace Me
open PySem PySem.Spec PyProof.Rows L2
section
variable {S : Sc} {env : En} {μ : Mu} {a b e o : Expr} {es : List Expr} {kws : List Keyword} {pos p0 kpos : Pos} {x f : Str} {nm : Option Str} {c : String} {P : KD} {k n : Nat} {C : Ct} {ks : List Str} {PL : List D → Mu → Prop}
def KA (S : Sc) (kws : List Keyword) (env : En) (μ : Mu) (P : List D → Mu → Prop) : Prop := PK S.X kws (rdA S env μ P)
/-- a class whose __init__ takes n values by place and those named ks by keyword -/
structure MakK (P : Program) (w : World) (K : PySem.W.Frag) (mg : Str → Option Value) (base : Heap) (Γ : Gam) (k : Nat) (c : String) (x : Str) (n : Nat) (ks : List Str) (C : Ct) : Prop where
  ex : ∃ Ca f fd ps g gV, Γ.cls c = some Ca ∧ Mk K Ca f ∧ mg x = some (.ref Ca) ∧ Gd.FnG P w K mg base (L2.CX P w) k f fd ps (spM Γ C) ∧ KBn K fd ps (n + 1) ks g gV ∧ ∀ vs zs : List V, vs.length = n + 1 → zs.length = ks.length → gV vs zs = vs ++ zs
end
/-- a property that reads a field -/
structure Prp (P : Program) (w : World) (K : PySem.W.Frag) (mg : Str → Option Value) (base : Heap) (Γ : Gam) (c : String) (f g : Str) : Prop where
  ex : ∃ C p a fd, Γ.cls c = some C ∧ Cls K C ∧ PropOf K C f p a ∧ FnOk P w K mg base CX0 1 a fd ["self"] (getSp C g) ∧ Binds K fd ["self"] []
section
variable {S : Sc} {env : En} {μ : Mu} {e : Expr} {pos : Pos} {f g : Str} {c : String} {P : KD}
end
end Me

/-! Me30: list(range(n)). -/
namespace Me
open PySem PySem.Spec PyProof.Rows L2
section
variable {S : Sc} {env : En} {μ : Mu} {e : Expr} {P : KD} {p q p2 pos : Pos}
end
end Me

/-! Me31: tuple * int. -/
namespace Me
open PySem PySem.Spec PyProof.Rows L2
section
variable {S : Sc} {env : En} {μ : Mu} {ds : List D} {i : Int} {P : KD}
end
end Me

/-! Me32: an instance called. -/
namespace Me
open PySem PySem.Spec PyProof.Rows L2
section
variable {S : Sc} {env : En} {μ : Mu} {fe e : Expr} {es : List Expr} {pos : Pos} {c : String} {P : KD} {k : Nat} {C : Ct}
end
end Me

/-! Me33: d.get(k). -/
namespace Me
open PySem PySem.Spec PyProof.Rows L2
section
variable {S : Sc} {env : En} {μ : Mu} {o e : Expr} {apos cpos : Pos} {P : KD}
end
end Me

/-! Me34: x, y, z = a, b, c. -/
namespace Me
open PySem PySem.Spec PyProof.Rows L2
section
variable {S : Sc} {env : En} {μ : Mu} {x y z : Str} {a b c : Expr} {rest : List Stmt} {R : Out → Prop} {p0 p1 p2 pos : Pos}
theorem b_par3 (i j l : Nat) {pt pt2 : Pos} {kt k2 : Nat} (hc : S.X.calm = true) (h : A S [a, b, c] env μ fun ds μ1 => ∃ d1 d2 d3, ds = [d1, d2, d3] ∧ B S rest (((env.set i (some d1)).set j (some d2)).set l (some d3)) μ1 R)
    (hi : S.X.N[i]? = some x := by rfl) (hj : S.X.N[j]? = some y := by rfl) (hl : S.X.N[l]? = some z := by rfl) (hij : i ≠ j := by decide) (hil : i ≠ l := by decide) (hjl : j ≠ l := by decide) (hx : S.X.env.scope.names.lookup x = some .local := by rfl) (hy : S.X.env.scope.names.lookup y = some .local := by rfl) (hz : S.X.env.scope.names.lookup z = some .local := by rfl)
    (hw : swappedStores [.Tuple [.Name x p0, .Name y p1, .Name z p2] kt pt] (.Tuple [a, b, c] k2 pt2) S.X.env = pure (some [x, y, z]) := by rfl)
    (hs : swapsWithSole [.Tuple [.Name x p0, .Name y p1, .Name z p2] kt pt] (.Tuple [a, b, c] k2 pt2) pos.line S.X.env = pure false := by rfl) :
    B S (.Assign [.Tuple [.Name x p0, .Name y p1, .Name z p2] kt pt] (.Tuple [a, b, c] k2 pt2) pos :: rest) env μ R := by
  refine b_cons (PS.imp (ps_par3 hc S.hN hi hj hl hij hil hjl hx hy hz h hw hs) fun D σ H ⟨F, as, a, k⟩ => ?_)
  refine ⟨F, as, a, fun ds μ1 vs F1 H1 as1 ⟨d1, d2, d3, e1, p1⟩ g1 W1 r1 => ?_⟩
  subst e1
  cases r1 with
  | cons h1 t1 =>
    cases t1 with
    | cons h2 t2 =>
      cases t2 with
      | cons h3 t3 =>
        cases t3
        exact ⟨_, _, _, rfl, k.nx _ μ1 _ F1 H1 as1 p1 g1 ((((a.e.mono g1).set h1 i).set h2 j).set h3 l) W1⟩
end
end Me

/-! Me35: d.pop(k) of a dict by names, sorted(d.items()). -/
namespace Me
open PySem PySem.Spec PyProof.Rows L2
def dropD (kvs : List (DK × D)) (k : DK) : List (DK × D) := kvs.filter fun p => decide (p.1 ≠ k)
theorem DTs.drop {Γ : Gam} {F : Hp} {as : List Ad} (k : List Key) : ∀ {vs : List (List Key × V)} {kvs : List (DK × D)}, DTs Γ F as vs kvs → DTs Γ F as (dropK vs k) (dropD kvs (.t k))
  | _, _, .nil => .nil
  | _, _, .cons (k := k') (v := v) (vs := vs) (d := d) (ds := ds) h t => by
    have ih := DTs.drop k t
    by_cases e : k' = k
    · have z1 : dropK ((k', v) :: vs) k = dropK vs k := List.filter_cons_of_neg (by simp [e])
      have z2 : dropD ((.t k', d) :: ds) (.t k) = dropD ds (.t k) := List.filter_cons_of_neg (by simp [e])
      rw [z1, z2]
      exact ih
    · have z1 : dropK ((k', v) :: vs) k = (k', v) :: dropK vs k := List.filter_cons_of_pos (by simp [e])
      have z2 : dropD ((.t k', d) :: ds) (.t k) = (.t k', d) :: dropD ds (.t k) := List.filter_cons_of_pos (by simp [e])
      rw [z1, z2]
      exact .cons h ih
section
variable {X : Cx}
def rPopT1 : V → List V → Hp → VK → Prop := fun x xs H Q => ∃ (a : Addr) (kvs : List (List L2.Key × V)) (k : List L2.Key) (b : Addr) (v : V), x = .ref a ∧ xs = [.ref b] ∧ H a = some (.dT kvs) ∧ H b = some (.tup (k.map kV)) ∧ valV kvs k = some v ∧ Q v (upd H a (.dT (dropK kvs k)))
end
section
variable {S : Sc} {env : En} {μ : Mu} {o e : Expr} {apos cpos : Pos} {P : KD}
end
/-! ### sorted(d.items()) -/
section
variable {X : Cx} {pins : List (Addr × Obj)} {s : Shared} {σ : L2.St} {Γ : Gam}
/-- the items of a dict by names, gathered -/
abbrev itD (p : DK × D) : D := .tup [dkD p.1, p.2]
end
section
variable {S : Sc} {env : En} {μ : Mu} {o : Expr} {apos cpos p0 pos : Pos} {P : KD}
end
end Me

/-! Me36: sum(lists, []). -/
namespace Me
open PySem PySem.Spec PyProof.Rows L2
section
variable {prog : Program} {w : World} {A : Around} {R : Result → Shared → Prop} {I : Addr} {fp wr : List Addr} {n : Nat} {Pv : Nat → Value → Prop} {St : Nat → Heap → Prop}
/-- the lists put together up to i -/
def catL (it0 : List Value) (its : List (List Value)) (i : Nat) : List Value := it0 ++ (its.take i).flatten
end
section
variable {X : Cx} {pins : List (Addr × Obj)} {s : Shared} {σ : L2.St} {Γ : Gam} {F H : Hp} {as : List Ad} {μ : Mu}
end
section
variable {S : Sc} {env : En} {μ : Mu} {d d0 : D} {es0 : List D} {P : KD} {e : Expr} {es : List Expr} {p0 pos : Pos}
end
end Me

/-! Me37: l.index(x). -/
namespace Me
open PySem PySem.Spec PyProof.Rows L2
section
variable {S : Sc} {env : En} {μ : Mu} {o e : Expr} {apos cpos : Pos} {P : KD} {d x : D} {ds : List D}
end
end Me

/-! Me38: xs[::-1]; a list or else; C(e) with defaults. -/
namespace Me
open PySem PySem.Spec PyProof.Rows L2
section
variable {S : Sc} {env : En} {μ : Mu} {a b e : Expr} {es : List Expr} {pos p0 p1 p2 p3 : Pos} {P : KD} {kk : Nat}
end
/-- a class whose __init__ takes its last values by default -/
structure MakD (P : Program) (w : World) (K : PySem.W.Frag) (mg : Str → Option Value) (base : Heap) (Γ : Gam) (k : Nat) (c : String) (x : Str) (ds0 : List D) (C : Ct) : Prop where
  ex : ∃ Ca f fd ps, Γ.cls c = some Ca ∧ Mk K Ca f ∧ mg x = some (.ref Ca) ∧ Gd.FnG P w K mg base (L2.CX P w) k f fd ps (spM Γ C) ∧ ∃ us0 vs0, Binds K fd ps us0 ∧ Vals vs0 us0 ∧ ∀ F as, DVs Γ F as vs0 ds0
section
variable {S : Sc} {env : En} {μ : Mu} {e : Expr} {es : List Expr} {pos p0 : Pos} {P : KD} {k : Nat} {c : String} {x : Str} {C : Ct} {ds0 : List D}
end
end Me

/-! Me39: sorted(xs, key=f), f a def of the program. -/
namespace Me
open PySem PySem.Spec PyProof.Rows L2 PySem.W
section
variable {X : Cx} {pins : List (Addr × Obj)} {s : Shared} {σ : L2.St} {H : Hp}
end
/-- what can be sorted by a key -/
structure KeyOk (ds : List D) (key : D → D) : Prop where
  py : D.isPys (ds.map key) = true
  nd : PyData.hasDictAll (D.pys (ds.map key)) = false
  al : AllAlike (ds.map fun d => (key d).py)
  so : Sortable (ds.map fun d => (key d).py)
  sz : ds.length ≤ sizeLine
  dp : ∀ d ∈ ds, (key d).py.depth ≤ 60
abbrev srtK (key : D → D) (ds : List D) : List D := ds.mergeSort (dataLe false fun d => (key d).py)
section
variable {S : Sc} {env : En} {μ : Mu} {e : Expr} {pos p0 p1 kpos : Pos} {x : Str} {k : Nat} {C : Ct} {P : KD} {key : D → D}
end
end Me

set_option maxHeartbeats 2000000
/-! Me40: the own errors (class N(ListError): __init__(self, f): super().__init__(f); self.f = f), made. -/
namespace Me
namespace Er
open PySem PySem.W PySem.Calls PyProof.Rows PySem.HandSPX
def xA (fld : Str) (p1 p2 : Pos) : Arguments := { posonlyargs := [], args := [{ arg := "self", annotation := none, pos := p1 }, { arg := fld, annotation := none, pos := p2 }], vararg := none, kwonlyargs := [], kw_defaults := [], kwarg := none, defaults := [] }
def xB (fld : Str) (q1 q2 q3 q4 q5 q6 q7 q8 q9 q10 : Pos) : List Stmt :=
  [.Expr (.Call (.Attribute (.Call (.Name "super" q1) [] [] q2) "__init__" q3) [.Name fld q4] [] q5) q6, .Assign [.Attribute (.Name "self" q7) fld q8] (.Name fld q9) q10]
def xS (fld : Str) : Scope := { kind := .function, names := [(PySem.Str.ofString "self", .local), (fld, .local), (PySem.Str.ofString "__class__", .free), (PySem.Str.ofString "super", .globalImplicit)], isGenerator := false, isCoroutine := false, more := [] }
theorem sup_ev {env : Env} {q1 q2 q3 q4 q5 : Pos} {fld : Str} (h : (q3.endLine == q5.line) = true) : ∃ pl : Sem Bool,
    eval (.Call (.Attribute (.Call (.Name "super" q1) [] [] q2) "__init__" q3) [.Name fld q4] [] q5) env = (do
      let ov ← attributeBase (.Call (.Name "super" q1) [] [] q2) "__init__" env (eval (.Call (.Name "super" q1) [] [] q2) env)
      standAt q3.atName
      let (g, first) ← holding [ov] (getMethod ov "__init__" pl)
      callWith q5 g first (backTo q5 (starEach [.Name fld q4] env)) []) := by
  have hm : ∀ o : Expr, methodCallPos true o env q3 q5 = pure q5 := fun o => by
    unfold methodCallPos
    rw [h]
    rfl
  have hc : ∀ ov : Value, methodCall (.Call (.Name "super" q1) [] [] q2) "__init__" q3 q5 env ov 1 (backTo q5 (starEach [.Name fld q4] env)) [] = (do
      let (g, first) ← holding [ov] (getMethod ov "__init__" (do return (← importBound (.Call (.Name "super" q1) [] [] q2) env).getD true))
      callWith q5 g first (backTo q5 (starEach [.Name fld q4] env)) []) := fun ov => by
    show (do
      let (f, first) ← holding [ov] (getMethod ov "__init__" (do return (← importBound (.Call (.Name "super" q1) [] [] q2) env).getD true))
      let callPos ← methodCallPos true (.Call (.Name "super" q1) [] [] q2) env q3 q5
      callWith callPos f first (backTo q5 (starEach [.Name fld q4] env)) []) = _
    rw [hm]
    rfl
  refine ⟨(do return (← importBound (.Call (.Name "super" q1) [] [] q2) env).getD true), ?_⟩
  show (do
    let ov ← attributeBase (.Call (.Name "super" q1) [] [] q2) "__init__" env (eval (.Call (.Name "super" q1) [] [] q2) env)
    standAt q3.atName
    methodCall (.Call (.Name "super" q1) [] [] q2) "__init__" q3 q5 env ov 1 (backTo q5 (starEach [.Name fld q4] env)) []) = _
  simp only [hc]
/-- what is asked of the field's name -/
structure FldOk (fld : Str) : Prop where
  n1 : ¬ fld = "self"
  n2 : (fld == ("__debug__" : Str)) = false
  n3 : ¬ fld = "__class__"
  n4 : ¬ fld = "super"
  bd : ∀ (qual : Str) (p1 p2 : Pos) (bo : List Stmt) (doc pm : Value) (an : Option Addr) (cdv ct : Value) (cc : Addr) (x v : Value), bindArgs (ksFn "__init__" qual (xA fld p1 p2) bo (xS fld) .none .none doc pm an cdv ct cc) ⟨[x, v], []⟩ = pure [(("self" : Str), x), (fld, v)]
  sw : ∀ (qual : Str) (p1 p2 q1 q2 q3 q4 q5 q6 q7 q8 q9 q10 : Pos) (doc pm : Value) (an : Option Addr) (cdv ct : Value) (cc L f : Addr),
    swapsWith (.Name fld q9) (some (.Attribute (.Name "self" q7) fld q8)) q10.line (callEnv (ksFn "__init__" qual (xA fld p1 p2) (xB fld q1 q2 q3 q4 q5 q6 q7 q8 q9 q10) (xS fld) .none .none doc pm an cdv ct cc) L f) = pure false
  sx : ∀ (qual : Str) (p1 p2 q1 q2 q3 q4 q5 q6 q7 q8 q9 q10 : Pos) (doc pm : Value) (an : Option Addr) (cdv ct : Value) (cc L f : Addr),
    swapsWith (.Call (.Attribute (.Call (.Name "super" q1) [] [] q2) "__init__" q3) [.Name fld q4] [] q5) none q6.line (callEnv (ksFn "__init__" qual (xA fld p1 p2) (xB fld q1 q2 q3 q4 q5 q6 q7 q8 q9 q10) (xS fld) .none .none doc pm an cdv ct cc) L f) = pure false
theorem fo_place : FldOk "place" := ⟨by decide, by decide, by decide, by decide, fun _ _ _ _ _ _ _ _ _ _ _ _ => rfl, fun _ _ _ _ _ _ _ _ _ _ _ _ _ _ _ _ _ _ _ _ _ => rfl, fun _ _ _ _ _ _ _ _ _ _ _ _ _ _ _ _ _ _ _ _ _ => rfl⟩
theorem fo_name : FldOk "name" := ⟨by decide, by decide, by decide, by decide, fun _ _ _ _ _ _ _ _ _ _ _ _ => rfl, fun _ _ _ _ _ _ _ _ _ _ _ _ _ _ _ _ _ _ _ _ _ => rfl, fun _ _ _ _ _ _ _ _ _ _ _ _ _ _ _ _ _ _ _ _ _ => rfl⟩
theorem fo_limit : FldOk "limit" := ⟨by decide, by decide, by decide, by decide, fun _ _ _ _ _ _ _ _ _ _ _ _ => rfl, fun _ _ _ _ _ _ _ _ _ _ _ _ _ _ _ _ _ _ _ _ _ => rfl, fun _ _ _ _ _ _ _ _ _ _ _ _ _ _ _ _ _ _ _ _ _ => rfl⟩
theorem fo_entry : FldOk "entry" := ⟨by decide, by decide, by decide, by decide, fun _ _ _ _ _ _ _ _ _ _ _ _ => rfl, fun _ _ _ _ _ _ _ _ _ _ _ _ _ _ _ _ _ _ _ _ _ => rfl, fun _ _ _ _ _ _ _ _ _ _ _ _ _ _ _ _ _ _ _ _ _ => rfl⟩
theorem fo_answer : FldOk "answer" := ⟨by decide, by decide, by decide, by decide, fun _ _ _ _ _ _ _ _ _ _ _ _ => rfl, fun _ _ _ _ _ _ _ _ _ _ _ _ _ _ _ _ _ _ _ _ _ => rfl, fun _ _ _ _ _ _ _ _ _ _ _ _ _ _ _ _ _ _ _ _ _ => rfl⟩
theorem fo_house : FldOk "house" := ⟨by decide, by decide, by decide, by decide, fun _ _ _ _ _ _ _ _ _ _ _ _ => rfl, fun _ _ _ _ _ _ _ _ _ _ _ _ _ _ _ _ _ _ _ _ _ => rfl, fun _ _ _ _ _ _ _ _ _ _ _ _ _ _ _ _ _ _ _ _ _ => rfl⟩
theorem fo_at : FldOk "at" := ⟨by decide, by decide, by decide, by decide, fun _ _ _ _ _ _ _ _ _ _ _ _ => rfl, fun _ _ _ _ _ _ _ _ _ _ _ _ _ _ _ _ _ _ _ _ _ => rfl, fun _ _ _ _ _ _ _ _ _ _ _ _ _ _ _ _ _ _ _ _ _ => rfl⟩
/-- what the written part says of an own error's class, at C, and of its __init__, at fI -/
structure ErrTxt (P : Program) (K : Frag) (mg : Str → Option Value) (nm fld : Str) (C fI : Addr) : Prop where
  gC : mg nm = some (.ref C)
  cls : ∃ nmq q N bs bm sn sub ab col dd k0 k1 k2 k3 k5, K.lookup C = some (excClassObj nmq q C N bs bm true sn sub ab col dd k0 k1 k2 k3 k5 "ValueError.__new__") ∧ refsVE bm = true
  sa : findIn K (.ref C) "__setattr__" = some (some (.builtin "object.__setattr__"))
  ga : findIn K (.ref C) "__getattribute__" = some (some (.builtin "BaseException.__getattribute__"))
  gg : findIn K (.ref C) "__getattr__" = some none
  noN : findIn K (.ref C) fld = some none
  iC : findIn K (.ref C) "__init__" = some (some (.ref fI))
  tC : typeIn K (.ref fI) = some (.type "function")
  kC : keepIn K (.ref C) = true
  exC : subIn K (.ref C) (.type "BaseException") = some true
  tyC : typeIn K (.ref C) = some (.type "type")
  hdC : hasDictIn K C = true
  fn : ∃ (oc : Value) (od : Option Addr) (qual : Str) (doc pm : Value) (an : Option Addr) (cda : Addr) (ct : Value) (cc : Addr) (osl : Array (Option Value)) (p1 p2 q1 q2 q3 q4 q5 q6 q7 q8 q9 q10 : Pos),
    (q3.endLine == q5.line) = true ∧ K.lookup fI = some ⟨oc, od, .func (ksFn "__init__" qual (xA fld p1 p2) (xB fld q1 q2 q3 q4 q5 q6 q7 q8 q9 q10) (xS fld) .none .none doc pm an (.ref cda) ct cc), osl⟩ ∧ codeIn K (.ref cda) qual = true ∧
    (∃ (ccl : Value) (cdd : Option Addr) (vs : Array Value) (ccs : Array (Option Value)) (file : Str) (tf : Tok), K.lookup cda = some ⟨ccl, cdd, .fields vs, ccs⟩ ∧ vs[2]? = some (.str file tf) ∧ ((P.main.file : Str) == file) = true) ∧
    ∃ (cl : Value) (cld : Option Addr) (csl : Array (Option Value)), K.lookup cc = some ⟨cl, cld, .cell (some (.ref C)), csl⟩
  mr : mroIn K C (.ref C) = some true
  su : mg "super" = none
  tp : (P.main.scope.names.lookup ("super" : Str)).isSome = false
  op : nsIn K cStatics "thirdparty.any" = some none
  si : ks_superIn K C C "__init__" = some (some (.builtin "ValueError.__init__"))
  ve : subIn K (.ref C) (.type "ValueError") = some true
  fo : FldOk fld
theorem one_size (v : Value) : [v].length ≤ sizeLine := by
  rw [sizeLine_eq]
  exact (by decide : 1 ≤ 16777216)
/-- what __init__ leaves of a fresh exception at x -/
structure InitEnd (fld : Str) (h h' : Heap) (x C dx : Addr) (v : Value) : Prop where
  keep : ∀ b o, b ≠ x → h.get? b = some o → h'.get? b = some o
  obj : ∃ t1 : Addr, h'.get? x = some { cls := .ref C, dict := some dx, data := .fields #[.ref t1, .none, .none, .none, .bool false, .none] }
  dbig : h.objs.size ≤ dx
  dne : dx ≠ x
  ns : h'.Ns1 dx (fun y => if y = fld then some v else none)
/-- a made error -/
structure OwnMade (fld : Str) (h h' : Heap) (e C d : Addr) (v : Value) : Prop where
  keep : ∀ b o, h.get? b = some o → h'.get? b = some o
  new : h.objs.size ≤ e
  obj : ∃ oe vs, h'.get? e = some oe ∧ oe.cls = .ref C ∧ oe.dict = some d ∧ oe.data = .fields vs ∧ vs[1]? = some .none
  dbig : h.objs.size ≤ d
  dne : d ≠ e
  ns : h'.Ns1 d (fun y => if y = fld then some v else none)
section
variable {prog : Program} {w : World} {M : Model} {A : Around} {E : Value → Shared → Prop} {R : Result → Shared → Prop} {s : Shared} {K : Frag} {mg : Str → Option Value} {nm fld : Str} {C fI : Addr}
theorem callWith_mw {i : String} {u x : Addr} {pos : Pos} {env : Env} {e : Expr} {rest : List Expr} {Q : Value → Shared → Prop}
    (h : wpAny M A (spliced (backTo pos (starEach (e :: rest) env))) (fun vs s₁ => KxsAt i u x s₁.heap ∧ wpAny M A (call (.ref u) vs) Q E s₁) E s)
    (he : starEach (e :: rest) env = (false, eval e env) :: starEach rest env := by rfl) (hplain : (backTo pos (starEach rest env)).any (·.1) = false := by rfl) :
    wpAny M A (callWith pos (.ref u) [] (backTo pos (starEach (e :: rest) env)) []) Q E s := by
  rw [he] at h ⊢
  refine kxs_callWith (i := i) (x := x) (by show (false || (backTo pos (starEach rest env)).any (·.1)) = false; rw [hplain]; rfl) ?_
  exact evalArgs_plain h
theorem call_mw {h : Heap} {g : Array GenState} {d : Drawn} {t : Nat} {os : OsState} {nmq q : Str} {N : Addr} {bs bm : List Value} {hdct : Bool} {sn : List Str} {sub : List Value} {ab : Bool} {col : Option Bool} {dd : Option Addr} {k0 k1 k2 k3 k5 : Option Value} {u e t0 : Addr} {rest : List Value} {Q : Value → Shared → Prop}
    (hC : h.get? C = some (excClassObj nmq q C N bs bm hdct sn sub ab col dd k0 k1 k2 k3 k5 "ValueError.__new__")) (he : h.get? e = some (excO C t0)) (hu : h.get? u = some (kxs_mw "ValueError.__init__" e)) (hrest : rest.length ≤ sizeLine)
    (hq : ∀ h' t1, (∀ b o, b ≠ e → h.get? b = some o → h'.get? b = some o) → h'.get? e = some (excO C t1) → Q .none ⟨h', g, d, t, os⟩) :
    wpAny (model prog w) A (call (.ref u) rest) Q E ⟨h, g, d, t, os⟩ := by
  refine wpAny_call (codeAny_of_tree ?_)
  show wpAny _ A.in1 (callAny (.ref u) ⟨rest, []⟩) _ _ _
  simp only [callAny]
  refine wpAny_bind (wpAny_load hu ?_)
  simp only [kxs_mw, show (Value.type "method-wrapper" == Value.type "method" || Value.type "method-wrapper" == Value.type "builtin_function_or_method" || Value.type "method-wrapper" == Value.type "method-wrapper") = true by decide, if_true]
  refine W.KFB.if_so (by decide) ?_
  refine wpAny_bind (check_bound_init PySem.F.excBase_ValueError.toExcCallFacts hC he rfl ?_)
  refine wpAny_bind (wpAny_pure (wpAny_pure ?_))
  refine ⟨plainId_quiet PySem.F.excBase_ValueError.init.plain _, codeAny_builtin PySem.F.excBase_ValueError.initEntry ?_⟩
  exact exc_init_tree (cls := .ref C) (t0 := t0) (dv := none) (c2 := .none) (c3 := .none) (b4 := .bool false) he hrest fun h' k e' _ => hq h' _ k e'
theorem look_self {fld : Str} : (xS fld).names.lookup ("self" : Str) = some .local := by
  simp [xS, List.lookup]
theorem look_fld {fld : Str} (h : ¬ fld = "self") : (xS fld).names.lookup fld = some .local := by
  have h1 : (fld == PySem.Str.ofString "self") = false := by
    simpa using h
  simp [xS, List.lookup, h1]
theorem look_sup {fld : Str} (h : ¬ fld = "super") : (xS fld).names.lookup ("super" : Str) = some .globalImplicit := by
  have h1 : (PySem.Str.ofString "super" == fld) = false := by
    simp
    exact fun z => h z.symm
  have h2 : (PySem.Str.ofString "super" == PySem.Str.ofString "self") = false := by decide
  have h3 : (PySem.Str.ofString "super" == PySem.Str.ofString "__class__") = false := by decide
  simp [xS, List.lookup, h1, h2, h3]
theorem look_cls {fld : Str} (h : ¬ fld = "__class__") : (xS fld).names.lookup ("__class__" : Str) = some .free := by
  have h1 : (PySem.Str.ofString "__class__" == fld) = false := by
    simp
    exact fun z => h z.symm
  have h2 : (PySem.Str.ofString "__class__" == PySem.Str.ofString "self") = false := by decide
  simp [xS, List.lookup, h1, h2]
theorem err_init (T : ErrTxt prog K mg nm fld C fI) {x t0 : Addr} {v : Value} (X : K.In s.heap) (hg : s.heap.Ns mainGlobals mg) (hb : ∃ mb, s.heap.Ns builtinsNs mb ∧ ∀ y : Str, y ≠ "__name__" → mb y = bootBuiltins y) (hlim : s.heap.NoLimit)
    (hx : s.heap.get? x = some (excO C t0)) (hnx : K.lookup x = none) (hroom : A.depth < recursionLimit)
    (hq : ∀ h' tk dx, InitEnd fld s.heap h' x C dx v → R (.ok (.ret .none)) { s with heap := h', toks := tk }) :
    codeAny (model prog w) A (.call (.ref fI) ⟨[.ref x, v], []⟩) R s := by
  obtain ⟨oc, od, qual, doc, pm, an, cda, ct, cc, osl, p1, p2, q1, q2, q3, q4, q5, q6, q7, q8, q9, q10, hpos, ho, hcd, ⟨ccl, cdd, vs, ccs, file, tf, hcode, hvs, hfile⟩, ⟨cl, cld, csl, hcell⟩⟩ := T.fn
  obtain ⟨nmq, q, N, bs, bm, sn, sub, ab, col, dd, k0, k1, k2, k3, k5, hC, hbm⟩ := T.cls
  have hcl : clsIn K C = some { name := nmq, bases := bs, mro := .ref C :: bm, ns := N, qualname := q, hasDict := true, slotNames := sn, subclasses := sub, abstract := ab, collection := col, hasDel := false } := by unfold clsIn; rw [hC] <;> rfl
  obtain ⟨mb, hb1, hb2⟩ := hb
  have ls := look_self (fld := fld)
  have lf := look_fld T.fo.n1
  refine ks_codeAny_call_defAt (fd := ksFn "__init__" qual (xA fld p1 p2) (xB fld q1 q2 q3 q4 q5 q6 q7 q8 q9 q10) (xS fld) .none .none doc pm an (.ref cda) ct cc) (body := xB fld q1 q2 q3 q4 q5 q6 q7 q8 q9 q10) (binds := [("self", .ref x), (fld, v)])
    hroom (X _ _ ho) rfl hlim (codeRec_of X hcd) rfl (BindsTo.of_eq (T.fo.bd _ _ _ _ _ _ _ _ _ _ _ _)) ?cell ?loc (fun h₁ hns hk₁ => ?_) rfl rfl rfl
  case cell =>
    intro y hy
    simp [xS] at hy
    rcases hy with rfl | rfl | rfl | rfl <;> simp
  case loc =>
    intro y hy
    simp at hy
    rcases hy with rfl | rfl
    · exact ls
    · exact lf
  have X₁ : K.In h₁ := X.keeps hk₁
  have hx₁ := hk₁ _ _ hx
  have hC₁ := X₁ _ _ hC
  have m1 : (fun y => List.lookup y [(("self" : Str), Value.ref x), (fld, v)].reverse) "self" = some (.ref x) := by
    have h1 : (("self" : Str) == fld) = false := by
      have := T.fo.n1
      simp
      exact fun z => this z.symm
    simp [List.lookup, h1]
  have m2 : (fun y => List.lookup y [(("self" : Str), Value.ref x), (fld, v)].reverse) fld = some v := by
    simp [List.lookup]
  obtain ⟨pl, hev⟩ := sup_ev (env := callEnv (ksFn "__init__" qual (xA fld p1 p2) (xB fld q1 q2 q3 q4 q5 q6 q7 q8 q9 q10) (xS fld) .none .none doc pm an (.ref cda) ct cc) s.heap.objs.size fI) (q1 := q1) (q2 := q2) (q4 := q4) (fld := fld) hpos
  refine ks_wpAt_execs_cons (ks_wpAt_Expr_any (ks_wpAt_MethodCall (pl := pl) ?_ hev) rfl (T.fo.sx _ _ _ _ _ _ _ _ _ _ _ _ _ _ _ _ _ _ _ _ _))
  have hCo : ∃ oD, h₁.get? C = some oD ∧ oD.data = .cls { name := nmq, bases := bs, mro := .ref C :: bm, ns := N, qualname := q, hasDict := true, slotNames := sn, subclasses := sub, abstract := ab, collection := col, hasDel := false } := ⟨_, hC₁, rfl⟩
  obtain ⟨oD, hD1, hD2⟩ := hCo
  have hxC : x ≠ C := fun z => by
    rw [z, hC₁] at hx₁
    exact nomatch hx₁
  refine ks_wpAt_super_base (env := callEnv (ksFn "__init__" qual (xA fld p1 p2) (xB fld q1 q2 q3 q4 q5 q6 q7 q8 q9 q10) (xS fld) .none .none doc pm an (.ref cda) ct cc) s.heap.objs.size fI) (look_sup T.fo.n4) (look_cls T.fo.n3) (by decide) rfl (X₁ _ _ ho) rfl rfl rfl (X₁ _ _ hcode) rfl hvs hfile T.tp ?_
  refine ks_loadName_global rfl (look_sup T.fo.n4) (Calls.loadGlobal_builtin (hg.keeps hk₁) T.su (hb1.keeps hk₁) ((hb2 "super" (by decide)).trans (by kernel_rfl)) ⟨rfl, ?_⟩)
  refine wpAny_loadName_free rfl (look_cls T.fo.n3) rfl ⟨_, X₁ _ _ hcell, rfl⟩ ?_
  refine wpAny_loadName_local rfl ls hns m1 ?_
  refine ks_wpAny_isType_cls hD1 hD2 ⟨rfl, ?_⟩
  refine ks_wpAny_call_super hD1 hD2 hx₁ rfl (fun c e => nomatch e) (looks_mroIn X₁ T.mr) (fun h2 e2 k2 => ?_)
  have X2 : K.In h2 := X₁.keeps k2
  have hx2 := k2 _ _ hx₁
  have hI : Looks (model prog w) h2 (isInstance (.ref x) (.type "ValueError")) true := (InstAt.type (od := none) ⟨hx2, rfl, rfl, trivial⟩).andThen (looks_subIn X2 T.ve)
  have si := T.si
  unfold ks_superIn at si
  rw [hcl] at si
  refine kxs_getMethod kxs_ValueError e2 (looks_opaque X2 T.op) (l₀ := .ref C :: bm) (fun A Q E s k q => wpAny_bind ((looks_clsIn X2 hcl) A _ E s k (wpAny_pure q))) rfl X2 si hI hxC (by decide) ?_
  have k3 : ∀ b o, h2.get? b = some o → (h2.push (kxs_mw "ValueError.__init__" x)).get? b = some o := fun b o e => Heap.get?_push_of_some _ e
  have hu : (h2.push (kxs_mw "ValueError.__init__" x)).get? h2.objs.size = some (kxs_mw "ValueError.__init__" x) := Heap.get?_push_at rfl rfl
  have hns3 := (hns.keeps k2).keeps k3
  refine callWith_mw (i := "ValueError.__init__") (x := x) (spliced_more (wpAny_Name (wpAny_loadName_local rfl lf hns3 m2 (spliced_none ?_)) T.fo.n2))
  refine ⟨hu, ?_⟩
  refine call_mw ((X2.keeps k3) _ _ hC) (k3 _ _ hx2) hu (one_size v) (fun h4 t1 k4 hx4 => ?_)
  -- self.fld = fld
  have kall : ∀ b o, b ≠ x → h₁.get? b = some o → h4.get? b = some o := fun b o hb e => k4 b o hb (k3 b o (k2 b o e))
  have X4 : K.In h4 := fun b o e => kall b o (fun z => by rw [z, hnx] at e; cases e) (X₁ b o e)
  have xL : s.heap.objs.size ≠ x := Nat.ne_of_gt (Heap.lt_size hx)
  have hns4 : h4.Ns s.heap.objs.size (fun y => List.lookup y [(("self" : Str), Value.ref x), (fld, v)].reverse) := let ⟨o, es, ep, e, r⟩ := hns3; ⟨o, es, ep, k4 _ o xL e, r⟩
  refine ks_wpAt_execs_cons (ks_wpAt_Assign_Attr (wpAt_of_wpAny (wpAny_Name (wpAny_loadName_local rfl lf hns4 m2 (wpAny_Name (wpAny_loadName_local rfl ls hns4 m1 ?_) (by decide))) T.fo.n2)) (T.fo.sw _ _ _ _ _ _ _ _ _ _ _ _ _ _ _ _ _ _ _ _ _))
  refine set_plain X4 (ox := excO C t1) (od := none) ⟨hx4, rfl, rfl, trivial⟩ T.sa ?_
  refine exc_osa X4 hx4 hcl (show refsVE (.ref C :: bm) = true from hbm) rfl T.noN (fun h₃ tk₃ dx k₃ dn dne hx₃ hn₃ => ?_)
  refine wpAt_of_wpAny (wpAny_execs_nil ?_)
  exact hq h₃ tk₃ dx ⟨fun b o hb e => k₃ b o hb (kall b o hb (hk₁ b o e)), ⟨t1, hx₃⟩, Nat.le_of_lt (Nat.lt_of_lt_of_le hns4.lt dn), dne, hn₃⟩
theorem err_made (T : ErrTxt prog K mg nm fld C fI) {v : Value} (X : K.In s.heap) (hg : s.heap.Ns mainGlobals mg) (hb : ∃ mb, s.heap.Ns builtinsNs mb ∧ ∀ y : Str, y ≠ "__name__" → mb y = bootBuiltins y) (hlim : s.heap.NoLimit) (hroom : A.depth + 1 < recursionLimit)
    (hq : ∀ h' tk e d, OwnMade fld s.heap h' e C d v → R (.ok (.ret (.ref e))) { s with heap := h', toks := tk }) :
    codeAny (model prog w) A (.call (.ref C) ⟨[v], []⟩) R s := by
  obtain ⟨nmq, q, N, bs, bm, sn, sub, ab, col, dd, k0, k1, k2, k3, k5, hC, hbm⟩ := T.cls
  obtain ⟨hp, g, dr, tk, os⟩ := s
  have k : ∀ b o, hp.get? b = some o → ((hp.push (kdv_tup [v])).push (excO C hp.objs.size)).get? b = some o := fun b o e => Heap.get?_push_of_some _ (Heap.get?_push_of_some _ e)
  have hget : ((hp.push (kdv_tup [v])).push (excO C hp.objs.size)).get? (hp.objs.size + 1) = some (excO C hp.objs.size) := by heap_get
  have hnx : K.lookup (hp.objs.size + 1) = none := by
    cases e : K.lookup (hp.objs.size + 1) with
    | none => rfl
    | some o =>
      have z : hp.get? (hp.objs.size + 1) = some o := X _ _ e
      exact absurd (Nat.lt_of_succ_lt (Heap.lt_size z)) (Nat.lt_irrefl _)
  obtain ⟨mb, hb1, hb2⟩ := hb
  refine call_own PySem.F.excBase_ValueError (fun X => refsVE_contains X bm hbm) (X _ _ hC) (looks_findIn X T.iC) (fun self => bind_fn X self T.tC) (one_size v) ?_
  refine err_init (s := ⟨(hp.push (kdv_tup [v])).push (excO C hp.objs.size), g, dr, tk, os⟩) T (X.keeps k) (hg.keeps k) ⟨mb, hb1.keeps k, hb2⟩ (hlim.keeps k) hget hnx ?_ fun h' tk' dx ⟨k', hx, dn, dne, hns⟩ => ?_
  · show A.depth + 1 < recursionLimit
    exact hroom
  · have old : ∀ b o, hp.get? b = some o → h'.get? b = some o := fun b o e => k' b o (Nat.ne_of_lt (Nat.lt_succ_of_lt (Heap.lt_size e))) (k b o e)
    have z : hp.objs.size + 1 + 1 ≤ dx := by
      first
        | (simpa only [Heap.size_push] using dn)
        | exact dn
        | (have q := dn; rw [Heap.size_push, Heap.size_push] at q; exact q)
    obtain ⟨t1, hx⟩ := hx
    exact ⟨rfl, hq h' tk' (hp.objs.size + 1) dx ⟨old, Nat.le_succ _, ⟨_, _, hx, rfl, rfl, rfl, rfl⟩, Nat.le_trans (Nat.le_trans (Nat.le_succ _) (Nat.le_succ _)) z, dne, hns⟩⟩
end
end Er
end Me

set_option maxHeartbeats 2000000
/-! Me41: raise, try. -/
namespace Me
open PySem PySem.Spec PyProof.Rows L2
mutual
def D.ne : D → Bool
  | .lst ds => D.neL ds
  | .tup ds => D.neL ds
  | .dct _ kvs => D.neP kvs
  | .ins _ fs => D.neF fs
  | .err _ _ => false
  | .tpx _ => true | .cell _ => true | .ty _ => true | .cls _ => true | .non => true | .bl _ => true | .int _ => true | .str _ => true
def D.neL : List D → Bool
  | [] => true
  | d :: ds => d.ne && D.neL ds
def D.neP : List (DK × D) → Bool
  | [] => true
  | (_, d) :: ds => d.ne && D.neP ds
def D.neF : List (Str × D) → Bool
  | [] => true
  | (_, d) :: ds => d.ne && D.neF ds
end
def Cell.ne : Cell → Bool
  | .lst ds => D.neL ds
  | .dct _ _ kvs => D.neP kvs
  | .ins _ fs => D.neF fs
  | .dead => true
  | .gd _ _ => true
  | .ts _ _ _ => true
  | .gl _ _ _ => true
def NE (μ : Mu) : Prop := ∀ (j : Nat) (c : Cell), μ[j]? = some c → c.ne = true
def NEe (env : En) : Prop := ∀ (j : Nat) (d : D), env[j]? = some (some d) → d.ne = true
section
variable {Γ Γ' : Gam} {F H : Hp} {as : List Ad}
theorem and_tt {a b : Bool} (h1 : a = true) (h2 : b = true) : (a && b) = true := by rw [h1, h2]; rfl
mutual
theorem DV.noErr (h0 : Γ.err = none) {v : V} {d : D} (h : DV Γ F as v d) : d.ne = true := by
  cases h with
  | non => rfl
  | bl b => rfl
  | int i => rfl
  | str x => rfl
  | lst h1 h2 => rw [D.ne]; exact DVs.noErr h0 h2
  | tup h1 h2 => rw [D.ne]; exact DVs.noErr h0 h2
  | dctK h1 h2 => rw [D.ne]; exact DKs.noErr h0 h2
  | dctT h1 h2 => rw [D.ne]; exact DTs.noErr h0 h2
  | ins h1 hc h2 => rw [D.ne]; exact DFs.noErr h0 h2
  | err0 h1 hc => rw [h0] at h1; exact nomatch h1
  | err1 h1 hc h2 h3 => rw [h0] at h1; exact nomatch h1
  | err2 h1 hc h2 => rw [h0] at h1; exact nomatch h1
  | err3 h1 hc h2 h3 h4 => rw [h0] at h1; exact nomatch h1
  | ty n => rfl
  | tpx _ _ => rfl
  | cls hc => rfl
  | cell h => rfl
theorem DVs.noErr (h0 : Γ.err = none) {vs : List V} {ds : List D} (h : DVs Γ F as vs ds) : D.neL ds = true := by
  cases h with
  | nil => rfl
  | cons h1 h2 => rw [D.neL]; exact and_tt (DV.noErr h0 h1) (DVs.noErr h0 h2)
theorem DKs.noErr (h0 : Γ.err = none) {vs : List (Key × V)} {ds : List (DK × D)} (h : DKs Γ F as vs ds) : D.neP ds = true := by
  cases h with
  | nil => rfl
  | cons h1 h2 => rw [D.neP]; exact and_tt (DV.noErr h0 h1) (DKs.noErr h0 h2)
theorem DTs.noErr (h0 : Γ.err = none) {vs : List (List Key × V)} {ds : List (DK × D)} (h : DTs Γ F as vs ds) : D.neP ds = true := by
  cases h with
  | nil => rfl
  | cons h1 h2 => rw [D.neP]; exact and_tt (DV.noErr h0 h1) (DTs.noErr h0 h2)
theorem DFs.noErr (h0 : Γ.err = none) {vs : List (Str × V)} {ds : List (Str × D)} (h : DFs Γ F as vs ds) : D.neF ds = true := by
  cases h with
  | nil => rfl
  | cons h1 h2 => rw [D.neF]; exact and_tt (DV.noErr h0 h1) (DFs.noErr h0 h2)
end
mutual
theorem DV.chg (hc : Γ'.cls = Γ.cls) {v : V} {d : D} (h : DV Γ F as v d) (n : d.ne = true) : DV Γ' F as v d := by
  cases h with
  | non => exact .non
  | bl b => exact .bl b
  | int i => exact .int i
  | str x => exact .str x
  | lst h1 h2 => rw [D.ne] at n; exact .lst h1 (DVs.chg hc h2 n)
  | tup h1 h2 => rw [D.ne] at n; exact .tup h1 (DVs.chg hc h2 n)
  | dctK h1 h2 => rw [D.ne] at n; exact .dctK h1 (DKs.chg hc h2 n)
  | dctT h1 h2 => rw [D.ne] at n; exact .dctT h1 (DTs.chg hc h2 n)
  | ins h1 hcl h2 => rw [D.ne] at n; exact .ins h1 (by rw [hc]; exact hcl) (DFs.chg hc h2 n)
  | err0 h1 hcl => exact nomatch n
  | err1 h1 hcl h2 h3 => exact nomatch n
  | err2 h1 hcl h2 => exact nomatch n
  | err3 h1 hcl h2 h3 h4 => exact nomatch n
  | ty m => exact .ty m
  | tpx h1 h2 => exact .tpx h1 h2
  | cls hcl => exact .cls (by rw [hc]; exact hcl)
  | cell h => exact .cell h
theorem DVs.chg (hc : Γ'.cls = Γ.cls) {vs : List V} {ds : List D} (h : DVs Γ F as vs ds) (n : D.neL ds = true) : DVs Γ' F as vs ds := by
  cases h with
  | nil => exact .nil
  | cons h1 h2 => rw [D.neL] at n; obtain ⟨n1, n2⟩ := Bool.and_eq_true_iff.mp n; exact .cons (DV.chg hc h1 n1) (DVs.chg hc h2 n2)
theorem DKs.chg (hc : Γ'.cls = Γ.cls) {vs : List (Key × V)} {ds : List (DK × D)} (h : DKs Γ F as vs ds) (n : D.neP ds = true) : DKs Γ' F as vs ds := by
  cases h with
  | nil => exact .nil
  | cons h1 h2 => rw [D.neP] at n; obtain ⟨n1, n2⟩ := Bool.and_eq_true_iff.mp n; exact .cons (DV.chg hc h1 n1) (DKs.chg hc h2 n2)
theorem DTs.chg (hc : Γ'.cls = Γ.cls) {vs : List (List Key × V)} {ds : List (DK × D)} (h : DTs Γ F as vs ds) (n : D.neP ds = true) : DTs Γ' F as vs ds := by
  cases h with
  | nil => exact .nil
  | cons h1 h2 => rw [D.neP] at n; obtain ⟨n1, n2⟩ := Bool.and_eq_true_iff.mp n; exact .cons (DV.chg hc h1 n1) (DTs.chg hc h2 n2)
theorem DFs.chg (hc : Γ'.cls = Γ.cls) {vs : List (Str × V)} {ds : List (Str × D)} (h : DFs Γ F as vs ds) (n : D.neF ds = true) : DFs Γ' F as vs ds := by
  cases h with
  | nil => exact .nil
  | cons h1 h2 => rw [D.neF] at n; obtain ⟨n1, n2⟩ := Bool.and_eq_true_iff.mp n; exact .cons (DV.chg hc h1 n1) (DFs.chg hc h2 n2)
end
theorem CellOk.noErr (h0 : Γ.err = none) {ad : Ad} {c : Cell} (k : CellOk Γ F H as ad c) : c.ne = true := by
  match c, k with
  | .dead, _ => rfl
  | .gd _ _, _ => rfl
  | .ts _ _ _, _ => rfl
  | .gl _ _ _, _ => rfl
  | .lst ds, ⟨k0, k1, vs, k2, k3⟩ => exact k3.noErr h0
  | .dct false lk kvs, ⟨k1, vs, k2, k3⟩ => exact k3.noErr h0
  | .dct true lk kvs, ⟨k1, vs, k2, k3⟩ => exact k3.noErr h0
  | .ins c fs, ⟨k0, k1, C, dx, vs, kc, k2, k3⟩ => exact k3.noErr h0
theorem CellOk.chg (hc : Γ'.cls = Γ.cls) {ad : Ad} {c : Cell} (k : CellOk Γ F H as ad c) (n : c.ne = true) : CellOk Γ' F H as ad c := by
  match c, k with
  | .dead, _ => trivial
  | .gd _ _, k => exact k
  | .ts _ _ _, k => exact k
  | .gl _ _ _, k => exact k
  | .lst ds, ⟨k0, k1, vs, k2, k3⟩ => exact ⟨k0, k1, vs, k2, k3.chg hc n⟩
  | .dct false lk kvs, ⟨k1, vs, k2, k3⟩ => exact ⟨k1, vs, k2, k3.chg hc n⟩
  | .dct true lk kvs, ⟨k1, vs, k2, k3⟩ => exact ⟨k1, vs, k2, k3.chg hc n⟩
  | .ins c fs, ⟨k0, k1, C, dx, vs, kc, k2, k3⟩ => exact ⟨k0, k1, C, dx, vs, by rw [hc]; exact kc, k2, k3.chg hc n⟩
theorem Wd.noErr (h0 : Γ.err = none) {μ : Mu} (W : Wd Γ F H as μ) : NE μ := fun j c h => by
  have hl : j < as.length := by rw [W.len]; exact (List.getElem?_eq_some_iff.mp h).1
  exact (W.ok j as[j] c (List.getElem?_eq_getElem hl) h).noErr h0
theorem Wd.chg (hc : Γ'.cls = Γ.cls) {μ : Mu} (W : Wd Γ F H as μ) (n : NE μ) : Wd Γ' F H as μ :=
  ⟨W.sub, W.nd, W.len, fun j ad c ha h => (W.ok j ad c ha h).chg hc (n j c h), W.seen⟩
theorem EnvOk.noErr (h0 : Γ.err = none) {env : En} {σ : L2.St} (h : EnvOk Γ F as env σ) : NEe env := fun j d e => by
  obtain ⟨v, _, r⟩ := h.2 j d e
  exact r.noErr h0
theorem EnvOk.chg (hc : Γ'.cls = Γ.cls) {env : En} {σ : L2.St} (h : EnvOk Γ F as env σ) (n : NEe env) : EnvOk Γ' F as env σ :=
  ⟨h.1, fun i d e => let ⟨v, h1, h2⟩ := h.2 i d e; ⟨v, h1, h2.chg hc (n i d e)⟩⟩
end

/-! ### raise -/
section
open PySem.W (Frag)
variable {X : Cx} {C fI : Addr} {nm fld : Str}
theorem relO_fld {v : V} {v' : Value} (r : RelV v v') (f : Str) : RelO (List.lookup f [(fld, v)]) (if f = fld then some v' else none) := by
  by_cases hw : f = fld
  · subst hw
    rw [if_pos rfl]
    have q : List.lookup f [(f, v)] = some v := by simp [List.lookup]
    rw [q]
    exact r
  · rw [if_neg hw]
    have qw : (f == fld) = false := by simpa using hw
    have q2 : List.lookup f [(fld, v)] = none := by simp [List.lookup, qw]
    rw [q2]
    trivial
def tMkErr (C : Addr) (fld : Str) (ta : TA) : L2.St → Hp → XK → Prop := fun σ H Q => ta σ H fun vs H1 => ∃ v, vs = [v] ∧ ∀ d, H1 d = none → Q (.ref C) (some d) (upd H1 d (.xd [(fld, v)]))
theorem pmk_err {a : Expr} {ta : TA} {p pos : Pos} {k : Nat} (T : Er.ErrTxt X.prog X.K X.mg nm fld C fI) (hr : L2H.RoomH k X.A) (ha : PA X [a] ta) (hg : Gl X nm)
    (hdb : (nm == ("__debug__" : Str)) = false) (he : starEach (a :: []) X.env = (false, eval a X.env) :: starEach [] X.env) (hpl : (backTo pos (starEach [] X.env)).any (·.1) = false) :
    PMk X (.Call (.Name nm p) [a] [] pos) (tMkErr C fld ta) := by
  intro pins s σ H Q I h
  refine wpAny_Call_Name_kw (ld_glob I hg T.gC ?_ hdb)
  refine PySem.W.callWith_K (h₀ := X.base) I.ok.mod.kin T.kC (thn (ha.run pos pins s σ H _ I h) fun us s1 hh => ?_) he hpl
  obtain ⟨vs, H1, I1, r1, v, ev, q1⟩ := hh
  subst ev
  refine ⟨I1.kIn, ?_⟩
  cases r1 with
  | cons rv rn =>
    rename_i v' us'
    cases rn
    show wpAny _ _ (call (.ref C) [v']) _ _ _
    have hlim := I1.nolimit
    have hgl := I1.mod.glob.keeps I1.bk
    have hbl : ∃ mb, s1.heap.Ns builtinsNs mb ∧ ∀ y : Str, y ≠ "__name__" → mb y = bootBuiltins y := let ⟨mb, h1, h2⟩ := I1.mod.blt; ⟨mb, h1.keeps I1.bk, h2⟩
    obtain ⟨hp, g, dr, tk, os⟩ := s1
    refine wpAny_call (Er.err_made T I1.kIn hgl hbl hlim (by have := hr.dp; omega) fun h' tk' e d M => ?_)
    show MkP X pins σ Q (.ref e) ⟨h', g, dr, tk', os⟩
    obtain ⟨oe, fv, hoe, hc, hd, hdat, h1⟩ := M.obj
    have hns := M.ns
    obtain ⟨G', g1, g2⟩ := restrict h' fun b => decide (b ≠ e)
    have gk : ∀ b, b ≠ e → G'.get? b = h'.get? b := fun b hb => g1 b (decide_eq_true hb)
    have ge : G'.get? e = none := g2 e (by simp)
    have old : ∀ b o, hp.get? b = some o → G'.get? b = some o := fun b o q => (gk b (Nat.ne_of_lt (Nat.lt_of_lt_of_le (Heap.lt_size q) M.new))).trans (M.keep b o q)
    have ob : ObjOk X.prog X.w (upd H1 d (.xd [(fld, v)])) G' d (.xd [(fld, v)]) :=
      ⟨_, hns.at (fun o q => (gk d M.dne).trans q), fun f => relO_fld rv f⟩
    have J : Inv X pins σ (upd H1 d (.xd [(fld, v)])) ⟨G', g, dr, tk', os⟩ := I1.laid (t' := tk') old M.dbig ob
    refine ⟨e, oe, fv, ⟨G', g, dr, tk', os⟩, _, .ref C, some d, rfl, J, fun b o q => ?_, ge, hoe, ⟨hc, hd⟩, hdat, h1, ?_, rfl, I1.bare, raises_own T.exC T.tyC, q1 d (I1.hok.fresh M.dbig)⟩
    · by_cases hb : b = e
      · have q' : G'.get? b = some o := q
        rw [hb, ge] at q'; cases q'
      · exact (gk b hb).symm.trans q
    · rw [upd_ne (Ne.symm M.dne)]
      exact I1.hok.fresh M.new
end
section
variable {S : Sc} {env : En} {μ : Mu} {a : Expr} {rest : List Stmt} {R : Out → Prop} {pos p0 p1 p2 : Pos} {nm fld : Str} {cn : String} {C fI : Addr}
end
end Me

set_option maxHeartbeats 2000000
/-! Me42: try .. except N as e; what the suite may ask of e. -/
namespace Me
open PySem PySem.Spec PyProof.Rows L2
/-- with an exception held -/
def Gam.er (Γ : Gam) (e : Addr × Addr × Option Addr) : Gam := ⟨Γ.K, Γ.cls, some (some e)⟩
/-- the body of a try -/
def trS (S : Sc) (pn : List (Addr × Obj)) (xe : Value → Shared → Prop) (hp : PassesOwn (model S.X.prog S.X.w) S.X.A S.X.env xe) (Z : Ex → En → Mu → Prop) : Sc :=
  { Γ := S.Γ, X := S.X.tr pn xe, Z := Z, hK := S.hK, hg := S.hg, hN := S.hN, hp := hp, hb := S.hb, k := S.k, rm := S.rm }
/-- a suite: the exception lies at a, its class is at C, its dict at d -/
def suS (S : Sc) (a : Addr) (oe : Obj) (C : Addr) (d : Option Addr) (pn : List (Addr × Obj)) : Sc :=
  { Γ := S.Γ.er (a, C, d), X := S.X.suite a ((a, oe) :: pn), Z := fun _ _ _ => False, hK := S.hK, hg := S.hg, hN := S.hN, hp := PassesOwn.never, hb := S.hb, k := S.k, rm := ⟨S.rm.dp, S.rm.un⟩ }
/-- what a suite's end must be -/
def SuR (i : Nat) (R : Out → Prop) : Out → Prop
  | .next env μ => NEe (env.set i none) ∧ NE μ ∧ R (.next (env.set i none) μ)
  | .ret d μ => d.ne = true ∧ NE μ ∧ R (.ret d μ)
  | .brk env μ => NEe (env.set i none) ∧ NE μ ∧ R (.brk (env.set i none) μ)
  | .cont env μ => NEe (env.set i none) ∧ NE μ ∧ R (.cont (env.set i none) μ)
/-- an exception that the clause takes, and the suite run with it -/
def Cat (S : Sc) (CE : Addr) (i : Nat) (suite : List Stmt) (R : Out → Prop) : Ex → En → Mu → Prop := fun ex env μ =>
  (∀ C, S.Γ.cls ex.c = some C → PySem.W.exmOne S.X.K (.ref C) (.ref CE) = some true) ∧
  ∀ (a : Addr) (oe : Obj) (C : Addr) (d : Option Addr) (pn : List (Addr × Obj)), S.Γ.cls ex.c = some C → Zc (.ref C) d oe → (∃ vs, oe.data = .fields vs) → NE μ → NEe env → D.neF ex.fs = true →
    B (suS S a oe C d pn) suite (env.set i (some (.err ex.c ex.fs))) μ (SuR i R)
/-- the promise for exceptions, by a wish -/
def KoW (S : Sc) (Z : Ex → En → Mu → Prop) (W : WX) (F H : Hp) (as : List Ad) : Prop := ∀ x env μ σ cls dx F' H' as', Z x env μ → Go F H as F' H' as' → EnvOk S.Γ F' as' env σ → Wd S.Γ F' H' as' μ → XOk S.Γ F' H' as' cls dx x → W cls dx σ H'
def rdW (S : Sc) (Z : Ex → En → Mu → Prop) (env : En) (μ : Mu) (R : Out → Prop) (W : WX) : TS := fun D σ H => ∃ F as, EnvOk S.Γ F as env σ ∧ Wd S.Γ F H as μ ∧ KoW S Z W F H as ∧ Ed S F H as R D
def rdSu (S : Sc) (suite : List Stmt) (R : Out → Prop) (a : Addr) (cls : Value) (d : Option Addr) : TS := fun D σ H => ∃ C env μ F as, cls = .ref C ∧
  (∀ oe pn, Zc cls d oe → (∃ vs, oe.data = .fields vs) → B (suS S a oe C d pn) suite env μ R) ∧ EnvOk (S.Γ.er (a, C, d)) F as env σ ∧ Wd (S.Γ.er (a, C, d)) F H as μ ∧
  Ed (suS S a ⟨.none, none, .fields #[], #[]⟩ C d []) F H as R D
section
variable {S : Sc} {env : En} {μ : Mu} {body rest suite : List Stmt} {st0 : Stmt} {R : Out → Prop} {pos p0 p1 : Pos} {x n : Str} {CE : Addr}
end
/-! ### e.f in the suite -/
section
variable {S : Sc} {env : En} {μ : Mu} {e : Expr} {pos : Pos} {P : KD} {ax : Addr} {oe : Obj} {C : Addr} {d : Option Addr} {pn : List (Addr × Obj)} {f : Str}
end
end Me
/-! ### isinstance(e, ..) -/
namespace PySem.W
open PySem PySem.Spec PySem.Calls PyProof.Rows
section
variable {prog : Program} {w : World} {A : Around} {E : Value → Shared → Prop} {s : Shared} {K : Frag} {x D : Addr} {ox : Obj} {od : Option Obj}
theorem me_findObj {C : Addr} {name : Str} {a g : Value} (hc : (clsIn K C).isSome = true) (ha : findIn K (.ref C) name = some (some a)) (hg : specialIn K a "__get__" = some (some g)) (ht : takesIn K a = some true) : findObj K C od name = some (.bind g a) := by
  obtain ⟨cd, hc⟩ := Option.isSome_iff_exists.mp hc
  unfold findObj
  rw [hc, Option.bind_some, ha, Option.bind_some]
  simp [hg, ht]
theorem me_classE {Q : Option Value → Shared → Prop} (hga : findIn K (.ref D) "__getattribute__" = some (some (.builtin "BaseException.__getattribute__"))) (hgt : findIn K (.ref D) "__getattr__" = some none) (hsub : subIn K (.ref D) (.type "BaseException") = some true)
    (hdct : hasDictIn K D = true) (ha : findIn K (.ref D) "__class__" = some (some (.builtin "object.__class__")))
    (hn : specialIn K (.builtin "object.__class__") "__get__" = some (some (.builtin "getset_descriptor.__get__"))) (htk : takesIn K (.builtin "object.__class__") = some true) (hm : mroIn K D (.type "object") = some true)
    (X : K.In s.heap) (I : InstAt s.heap x ox D od) (h : Q (some (.ref D)) { s with toks := s.toks + 1 }) : wpAny (model prog w) A (getAttr? (.ref x) "__class__") Q E s := by
  have hf : findObj K D od "__class__" = some (.bind (.builtin "getset_descriptor.__get__") (.builtin "object.__class__")) := me_findObj (by obtain ⟨cd, hc, _⟩ := any_some hdct; rw [hc]; rfl) ha hn htk
  obtain ⟨hp, g, d, t, os⟩ := s
  have L0 := I.type (M := model prog w)
  have L1 := looks_findIn (M := model prog w) X hga
  have L2 := looks_findIn (M := model prog w) X hgt
  have L3 := looks_find (M := model prog w) X I hf
  have sub : Looks (model prog w) hp (isInstance (.ref x) (.type "BaseException")) true := L0.andThen (looks_subIn X hsub)
  have hx0 : (false && onTheHeap (Value.builtin "BaseException.__getattribute__")) = false := rfl
  have hx2 : (Value.builtin "BaseException.__getattribute__" == Value.builtin "object.__getattribute__") = false := by decide +kernel
  have hx1 : (onTheHeap (Value.ref D) && Value.builtin "BaseException.__getattribute__" == Value.builtin "object.__getattribute__") = false := by rw [hx2]; rfl
  unfold getAttr? getAttrBy? getAttrBy
  refine wpAny_bind (wpAny_mkText (wpAny_bind (wpAny_attempt (wpAny_holding (wpAny_bind (L0.at (wpAny_bind (L1.at ?_))))))))
  show wpAny _ _ (if (onTheHeap (Value.ref D) && Value.builtin "BaseException.__getattribute__" == Value.builtin "object.__getattribute__") = true then _ else _) _ _ _
  rw [hx1, if_neg Bool.false_ne_true]
  unfold getAttrByItsOwn hookBefore
  refine wpAny_bind ?_
  rw [if_pos (show onTheHeap (Value.ref D) = true from rfl)]
  refine L2.at ?_
  refine wpAny_bind (wpAny_attempt (wpAny_holding ?_))
  unfold callGetattribute
  rw [hx0, if_neg Bool.false_ne_true]
  unfold boundAndCalled
  rw [PySem.F.excAttr_ValueError.ga.bind (.ref x)]
  refine wpAny_bind (wpAny_pure ?_)
  show wpAny _ _ (call (.builtin "BaseException.__getattribute__") [.ref x, .str "__class__" t]) _ _ _
  refine wpAny_call (codeAny_call_builtin PySem.F.excAttr_ValueError.ga.plain PySem.F.entry_bexc_ga ?_)
  refine @check_slot (model prog w) _ _ ⟨hp, g, d, t + 1, os⟩ "BaseException.__getattribute__" "BaseException" "__getattribute__" (.ref x) [.str "__class__" t] [] _ (by decide +kernel) (by decide +kernel) sub (PySem.F.args_bexc_ga (.ref x) (.str "__class__" t)) ?_
  unfold Builtin.«object.__getattribute__»
  refine wpAny_bind (wpAny_of_eq (a := ((Value.ref x : Value), [Value.str "__class__" t])) (by first | rfl | (simp only [slotArgs]; rfl)) ?_)
  refine wpAny_bind (wpAny_pure (wpAny_bind (L0.at (wpAny_bind (L3.at ?_)))))
  show wpAny _ _ (holding [Value.builtin "object.__class__"] (call (.builtin "getset_descriptor.__get__") [.builtin "object.__class__", .ref x, .ref D]) >>= ret) _ _ _
  refine wpAny_bind (wpAny_holding (wpAny_call (class_get (s := ⟨hp, g, d, t + 1, os⟩) (ox := ox) (od := od) X I hm ?_)))
  refine wpAny_pure ?_
  show wpAny _ _ (handedOut (.ref D)) _ _ _
  rw [handedOut_of (v := .ref D) rfl]
  first
    | exact wpAny_pure (wpAny_pure h)
    | exact wpAny_pure h
    | exact wpAny_pure (wpAny_bind (wpAny_pure (wpAny_pure h)))
theorem me_kitx (hga : findIn K (.ref D) "__getattribute__" = some (some (.builtin "BaseException.__getattribute__"))) (hgt : findIn K (.ref D) "__getattr__" = some none) (hsub : subIn K (.ref D) (.type "BaseException") = some true) (hdct : hasDictIn K D = true) (ha : findIn K (.ref D) "__class__" = some (some (.builtin "object.__class__")))
    (hn : specialIn K (.builtin "object.__class__") "__get__" = some (some (.builtin "getset_descriptor.__get__"))) (htk : takesIn K (.builtin "object.__class__") = some true) (hm : mroIn K D (.type "object") = some true) :
    KitX K (.ref x) (.ref D) (fun h => InstAt h x ox D od) where
  ty := fun _ _ _ I => I.type
  it := fun _ _ X _ => by
    obtain ⟨cdD, hcD, _⟩ := any_some hdct
    unfold clsIn at hcD
    split at hcD
    · rename_i c' d' cd' sl' ho
      intro A' Q' E' s' k q
      unfold isType loadHead
      exact wpAny_bind (wpAny_loadPart (k _ _ (X _ _ ho)) (wpAny_pure q))
    · cases hcD
  ne := fun h tp dd its n sl X htp => by
    obtain ⟨cdD, hcD, _⟩ := any_some hdct
    refine Bool.eq_false_iff.mpr fun q => ?_
    have e : D = tp := Value.ref.inj (beq_iff_eq.mp q)
    subst e
    unfold clsIn at hcD
    split at hcD
    · rename_i c' d' cd' sl' ho
      have z := (X _ _ ho).symm.trans htp
      cases z
    · cases hcD
  ca := fun X I k => me_classE hga hgt hsub hdct ha hn htk hm X I k
end
end PySem.W
namespace Me
open PySem PySem.Spec PyProof.Rows L2
section
variable {S : Sc} {env : En} {μ : Mu} {e : Expr} {pos : Pos} {P : KD} {ax : Addr} {oe : Obj} {C : Addr} {d : Option Addr} {pn : List (Addr × Obj)} {c : String} {fs : List (Str × D)}
end
end Me

set_option maxHeartbeats 2000000
/-! Me89: errors kept as values: made, asked for their class, their fields read. -/
namespace Me
open PySem PySem.Spec PyProof.Rows L2
theorem erO_ok {P : Program} {w : World} {H : Hp} {h : Heap} {a C : Addr} {d : Option Addr} {oe : Obj} {vs : Array Value} (e : h.get? a = some oe) (z : Zc (.ref C) d oe) (hd : oe.data = .fields vs) : ObjOk P w H h a (ErO a C d) :=
  ⟨⟨oe, vs, e, z.1, z.2, hd⟩, ⟨oe, e⟩, fun _ _ ⟨o, v, q, r⟩ k => ⟨o, v, k o q, r⟩⟩
section
variable {X : Cx} {e : Expr} {t : L2.St → Hp → XK → Prop}
/-- what may be raised may be kept -/
theorem pe_of_pmk (h : PMk X e t) : PE X e (fun σ H Q => t σ H fun cls d H' => ∃ C, cls = .ref C ∧ ∀ a, H' a = none → Q (.ref a) (upd H' a (ErO a C d))) := by
  refine ⟨fun pins s σ H Q I hh => ?_⟩
  refine wpAny_mono (h pins s σ H _ I hh) (fun u s1 hu => ?_) fun _ _ x => x
  obtain ⟨a, oe, vs, sI, H', cls, d, rfl, J, k, hne, ha, hz, hd, h1, na, os, ag, r, C, rfl, q⟩ := hu
  have J2 := J.laidN (t' := s1.toks) k hne na (erO_ok (C := C) (d := d) ha hz hd)
  obtain ⟨hp, g, dr, tk, oss⟩ := s1
  exact ⟨.ref a, _, ⟨J2.ok, os.trans J.os, ag, J2.base, J2.loc, J2.cell, J2.free, J2.freeC, J2.pin, J2.hok, J2.len⟩, rfl, q a na⟩
end
section
variable {X : Cx}
/-- X(), an own exception class without own __init__ -/
theorem pe_exc0 {C : Addr} {bmB : List Value} {B newId initId : String} {x : Str} {p pos : Pos} (F : ExcBaseFacts B newId initId bmB) (q : PySem.W.excIn X.K C bmB newId = true) (gC : X.mg x = some (.ref C)) (kC : PySem.W.keepIn X.K (.ref C) = true) (hg : Gl X x)
    (hdb : (x == ("__debug__" : Str)) = false := by decide) :
    PE X (.Call (.Name x p) [] [] pos) (fun σ H Q => ∀ a, H a = none → Q (.ref a) (upd H a (ErO a C none))) := by
  refine ⟨fun pins s σ H Q I h => ?_⟩
  refine wpAny_Call_Name_kw (ld_glob I hg gC ?_ hdb)
  refine PySem.W.callWith_K0 I.kIn kC ?_
  show wpAny _ _ (call (.ref C) []) _ _ _
  obtain ⟨bm, N, nm, qn, bs, hdct, sn, sub, ab, col, dd, k0, k1, k2, k3, k5, mN, hC, hN, hni, T⟩ := exc_obj I.kIn q
  refine wpAny_call_exc_subT F T hC hN hni (fun h' a hm => ?_) (Nat.zero_le _)
  have hn : H a = none := I.hok.gone hm.new
  obtain ⟨t, ht, _, _⟩ := hm.there
  exact ⟨.ref a, upd H a (ErO a C none), I.laidN hm.keeps hm.new hn (erO_ok ht ⟨rfl, rfl⟩ rfl), rfl, h a hn⟩
end
section
variable {S : Sc} {env : En} {μ : Mu} {a e : Expr} {P : KD} {pos p0 p1 : Pos} {nm fld : Str} {cn : String} {C fI : Addr}
/-- N(a) as a value -/
theorem e_err1 (hv : S.Γ.err = some none) (T : Er.ErrTxt S.X.prog S.X.K S.X.mg nm fld C fI) (hC : S.Γ.cls cn = some C) (h : A S [a] env μ fun ds μ1 => ∃ d, ds = [d] ∧ P (.err cn [(fld, d)]) μ1) (hg : Gl S.X nm := by rfl)
    (hdb : (nm == ("__debug__" : Str)) = false := by decide) (he : starEach (a :: []) S.X.env = (false, eval a S.X.env) :: starEach [] S.X.env := by rfl) (hpl : (backTo p1 (starEach [] S.X.env)).any (·.1) = false := by rfl) :
    E S (.Call (.Name nm p0) [a] [] p1) env μ P := by
  refine PE.imp (pe_of_pmk (pmk_err T S.rm pa_y hg hdb he hpl)) fun σ H Q ⟨F, as, a1, k⟩ => ?_
  refine h.go a1 fun ds μ1 vs F1 H1 as1 ⟨d, ed, p⟩ g1 W1 r1 => ?_
  subst ed
  cases r1 with
  | cons rv rn =>
    rename_i v' us'
    cases rn
    refine ⟨_, rfl, fun dx hdx => ⟨C, rfl, fun ax hax => ?_⟩⟩
    obtain ⟨W2, g2⟩ := W1.addF (o := .xd [(fld, v')]) hdx
    obtain ⟨W3, g3⟩ := W2.addF (o := ErO ax C (some dx)) hax
    have hne : dx ≠ ax := fun z => by rw [← z, upd_same] at hax; exact nomatch hax
    exact k _ μ1 _ _ _ _ p ((g1.trans g2).trans g3) W3 (.err3 hv hC upd_same (by rw [upd_ne hne]; exact upd_same) (.cons (DV.mono g3 (DV.mono g2 rv)) .nil))
theorem e_err0 {bmB : List Value} {B newId initId : String} (hv : S.Γ.err = some none) (F : ExcBaseFacts B newId initId bmB) (q : PySem.W.excIn S.X.K C bmB newId = true) (gC : S.X.mg nm = some (.ref C)) (kC : PySem.W.keepIn S.X.K (.ref C) = true) (hC : S.Γ.cls cn = some C) (h : P (.err cn []) μ) (hg : Gl S.X nm := by rfl)
    (hdb : (nm == ("__debug__" : Str)) = false := by decide) : E S (.Call (.Name nm p0) [] [] p1) env μ P := by
  refine PE.imp (pe_exc0 F q gC kC hg hdb) fun σ H Q ⟨F1, as, a1, k⟩ ax hax => ?_
  obtain ⟨W2, g2⟩ := a1.w.addF (o := ErO ax C none) hax
  exact k _ μ _ _ _ _ h g2 W2 (.err2 hv hC upd_same)
end
end Me

set_option maxHeartbeats 2000000
/-! Me90: an own error with three fields (many, demand, answer), made. -/
namespace Me
namespace Er
open PySem PySem.W PySem.Calls PyProof.Rows PySem.HandSPX
def yA (p1 p2 p3 p4 : Pos) : Arguments := { posonlyargs := [], args := [{ arg := "self", annotation := none, pos := p1 }, { arg := "many", annotation := none, pos := p2 }, { arg := "demand", annotation := none, pos := p3 }, { arg := "answer", annotation := none, pos := p4 }], vararg := none, kwonlyargs := [], kw_defaults := [], kwarg := none, defaults := [] }
structure YP where
  q1 : Pos
  q2 : Pos
  q3 : Pos
  a1 : Pos
  a2 : Pos
  a3 : Pos
  q5 : Pos
  q6 : Pos
  s1 : Pos
  f1 : Pos
  v1 : Pos
  e1 : Pos
  s2 : Pos
  f2 : Pos
  v2 : Pos
  e2 : Pos
  s3 : Pos
  f3 : Pos
  v3 : Pos
  e3 : Pos
abbrev ySup (y : YP) : Expr := .Call (.Attribute (.Call (.Name "super" y.q1) [] [] y.q2) "__init__" y.q3) [.Name "many" y.a1, .Name "demand" y.a2, .Name "answer" y.a3] [] y.q5
def yB (y : YP) : List Stmt :=
  [.Expr (ySup y) y.q6, .Assign [.Attribute (.Name "self" y.s1) "many" y.f1] (.Name "many" y.v1) y.e1, .Assign [.Attribute (.Name "self" y.s2) "demand" y.f2] (.Name "demand" y.v2) y.e2, .Assign [.Attribute (.Name "self" y.s3) "answer" y.f3] (.Name "answer" y.v3) y.e3]
def yS : Scope := { kind := .function, names := [(PySem.Str.ofString "self", .local), (PySem.Str.ofString "many", .local), (PySem.Str.ofString "demand", .local), (PySem.Str.ofString "answer", .local), (PySem.Str.ofString "__class__", .free), (PySem.Str.ofString "super", .globalImplicit)], isGenerator := false, isCoroutine := false, more := [] }
theorem sup_ev3 {env : Env} {y : YP} (h : (y.q3.endLine == y.q5.line) = true) : ∃ pl : Sem Bool,
    eval (ySup y) env = (do
      let ov ← attributeBase (.Call (.Name "super" y.q1) [] [] y.q2) "__init__" env (eval (.Call (.Name "super" y.q1) [] [] y.q2) env)
      standAt y.q3.atName
      let (g, first) ← holding [ov] (getMethod ov "__init__" pl)
      callWith y.q5 g first (backTo y.q5 (starEach [.Name "many" y.a1, .Name "demand" y.a2, .Name "answer" y.a3] env)) []) := by
  have hm : ∀ o : Expr, methodCallPos true o env y.q3 y.q5 = pure y.q5 := fun o => by
    unfold methodCallPos
    rw [h]
    rfl
  have hc : ∀ ov : Value, methodCall (.Call (.Name "super" y.q1) [] [] y.q2) "__init__" y.q3 y.q5 env ov 3 (backTo y.q5 (starEach [.Name "many" y.a1, .Name "demand" y.a2, .Name "answer" y.a3] env)) [] = (do
      let (g, first) ← holding [ov] (getMethod ov "__init__" (do return (← importBound (.Call (.Name "super" y.q1) [] [] y.q2) env).getD true))
      callWith y.q5 g first (backTo y.q5 (starEach [.Name "many" y.a1, .Name "demand" y.a2, .Name "answer" y.a3] env)) []) := fun ov => by
    show (do
      let (f, first) ← holding [ov] (getMethod ov "__init__" (do return (← importBound (.Call (.Name "super" y.q1) [] [] y.q2) env).getD true))
      let callPos ← methodCallPos true (.Call (.Name "super" y.q1) [] [] y.q2) env y.q3 y.q5
      callWith callPos f first (backTo y.q5 (starEach [.Name "many" y.a1, .Name "demand" y.a2, .Name "answer" y.a3] env)) []) = _
    rw [hm]
    rfl
  refine ⟨(do return (← importBound (.Call (.Name "super" y.q1) [] [] y.q2) env).getD true), ?_⟩
  show (do
    let ov ← attributeBase (.Call (.Name "super" y.q1) [] [] y.q2) "__init__" env (eval (.Call (.Name "super" y.q1) [] [] y.q2) env)
    standAt y.q3.atName
    methodCall (.Call (.Name "super" y.q1) [] [] y.q2) "__init__" y.q3 y.q5 env ov 3 (backTo y.q5 (starEach [.Name "many" y.a1, .Name "demand" y.a2, .Name "answer" y.a3] env)) []) = _
  simp only [hc]
/-- what the written part says of the class, at C, and of its __init__, at fI -/
structure ErrTxt3 (P : Program) (K : Frag) (mg : Str → Option Value) (nm : Str) (C fI : Addr) : Prop where
  gC : mg nm = some (.ref C)
  cls : ∃ nmq q N bs bm sn sub ab col dd k0 k1 k2 k3 k5, K.lookup C = some (excClassObj nmq q C N bs bm true sn sub ab col dd k0 k1 k2 k3 k5 "ValueError.__new__") ∧ refsVE bm = true
  sa : findIn K (.ref C) "__setattr__" = some (some (.builtin "object.__setattr__"))
  ga : findIn K (.ref C) "__getattribute__" = some (some (.builtin "BaseException.__getattribute__"))
  gg : findIn K (.ref C) "__getattr__" = some none
  n1 : findIn K (.ref C) "many" = some none
  n2 : findIn K (.ref C) "demand" = some none
  n3 : findIn K (.ref C) "answer" = some none
  iC : findIn K (.ref C) "__init__" = some (some (.ref fI))
  tC : typeIn K (.ref fI) = some (.type "function")
  kC : keepIn K (.ref C) = true
  exC : subIn K (.ref C) (.type "BaseException") = some true
  tyC : typeIn K (.ref C) = some (.type "type")
  hdC : hasDictIn K C = true
  fn : ∃ (oc : Value) (od : Option Addr) (qual : Str) (doc pm : Value) (an : Option Addr) (cda : Addr) (ct : Value) (cc : Addr) (osl : Array (Option Value)) (p1 p2 p3 p4 : Pos) (y : YP),
    (y.q3.endLine == y.q5.line) = true ∧ K.lookup fI = some ⟨oc, od, .func (ksFn "__init__" qual (yA p1 p2 p3 p4) (yB y) yS .none .none doc pm an (.ref cda) ct cc), osl⟩ ∧ codeIn K (.ref cda) qual = true ∧
    (∃ (ccl : Value) (cdd : Option Addr) (vs : Array Value) (ccs : Array (Option Value)) (file : Str) (tf : Tok), K.lookup cda = some ⟨ccl, cdd, .fields vs, ccs⟩ ∧ vs[2]? = some (.str file tf) ∧ ((P.main.file : Str) == file) = true) ∧
    ∃ (cl : Value) (cld : Option Addr) (csl : Array (Option Value)), K.lookup cc = some ⟨cl, cld, .cell (some (.ref C)), csl⟩
  mr : mroIn K C (.ref C) = some true
  su : mg "super" = none
  tp : (P.main.scope.names.lookup ("super" : Str)).isSome = false
  op : nsIn K cStatics "thirdparty.any" = some none
  si : ks_superIn K C C "__init__" = some (some (.builtin "ValueError.__init__"))
  ve : subIn K (.ref C) (.type "ValueError") = some true
theorem three_size (u v w : Value) : [u, v, w].length ≤ sizeLine := by
  rw [sizeLine_eq]
  exact (by decide : 3 ≤ 16777216)
def m3 (v1 v2 v3 : Value) : Str → Option Value := fun y => if y = "answer" then some v3 else if y = "demand" then some v2 else if y = "many" then some v1 else none
structure InitEnd3 (h h' : Heap) (x C dx : Addr) (v1 v2 v3 : Value) : Prop where
  keep : ∀ b o, b ≠ x → h.get? b = some o → h'.get? b = some o
  obj : ∃ t1 : Addr, h'.get? x = some { cls := .ref C, dict := some dx, data := .fields #[.ref t1, .none, .none, .none, .bool false, .none] }
  dbig : h.objs.size ≤ dx
  dne : dx ≠ x
  ns : h'.Ns1 dx (m3 v1 v2 v3)
structure OwnMade3 (h h' : Heap) (e C d : Addr) (v1 v2 v3 : Value) : Prop where
  keep : ∀ b o, h.get? b = some o → h'.get? b = some o
  new : h.objs.size ≤ e
  obj : ∃ oe vs, h'.get? e = some oe ∧ oe.cls = .ref C ∧ oe.dict = some d ∧ oe.data = .fields vs ∧ vs[1]? = some .none
  dbig : h.objs.size ≤ d
  dne : d ≠ e
  ns : h'.Ns1 d (m3 v1 v2 v3)
section
variable {prog : Program} {w : World} {M : Model} {A : Around} {E : Value → Shared → Prop} {R : Result → Shared → Prop} {s : Shared} {K : Frag} {mg : Str → Option Value} {nm : Str} {C fI : Addr}
theorem err_init3 (T : ErrTxt3 prog K mg nm C fI) {x t0 : Addr} {v1 v2 v3 : Value} (X : K.In s.heap) (hg : s.heap.Ns mainGlobals mg) (hb : ∃ mb, s.heap.Ns builtinsNs mb ∧ ∀ y : Str, y ≠ "__name__" → mb y = bootBuiltins y) (hlim : s.heap.NoLimit)
    (hx : s.heap.get? x = some (excO C t0)) (hnx : K.lookup x = none) (hroom : A.depth < recursionLimit)
    (hq : ∀ h' tk dx, InitEnd3 s.heap h' x C dx v1 v2 v3 → R (.ok (.ret .none)) { s with heap := h', toks := tk }) :
    codeAny (model prog w) A (.call (.ref fI) ⟨[.ref x, v1, v2, v3], []⟩) R s := by
  obtain ⟨oc, od, qual, doc, pm, an, cda, ct, cc, osl, p1, p2, p3, p4, y, hpos, ho, hcd, ⟨ccl, cdd, vs, ccs, file, tf, hcode, hvs, hfile⟩, ⟨cl, cld, csl, hcell⟩⟩ := T.fn
  obtain ⟨nmq, q, N, bs, bm, sn, sub, ab, col, dd, k0, k1, k2, k3, k5, hC, hbm⟩ := T.cls
  have hcl : clsIn K C = some { name := nmq, bases := bs, mro := .ref C :: bm, ns := N, qualname := q, hasDict := true, slotNames := sn, subclasses := sub, abstract := ab, collection := col, hasDel := false } := by unfold clsIn; rw [hC] <;> rfl
  obtain ⟨mb, hb1, hb2⟩ := hb
  have ls : yS.names.lookup ("self" : Str) = some .local := rfl
  have l1 : yS.names.lookup ("many" : Str) = some .local := rfl
  have l2 : yS.names.lookup ("demand" : Str) = some .local := rfl
  have l3 : yS.names.lookup ("answer" : Str) = some .local := rfl
  refine ks_codeAny_call_defAt (fd := ksFn "__init__" qual (yA p1 p2 p3 p4) (yB y) yS .none .none doc pm an (.ref cda) ct cc) (body := yB y) (binds := [("self", .ref x), ("many", v1), ("demand", v2), ("answer", v3)])
    hroom (X _ _ ho) rfl hlim (codeRec_of X hcd) rfl (BindsTo.of_eq rfl) ?cell ?loc (fun h₁ hns hk₁ => ?_) rfl rfl rfl
  case cell =>
    intro z hz
    simp [yS] at hz
    rcases hz with rfl | rfl | rfl | rfl | rfl | rfl <;> simp
  case loc =>
    intro z hz
    simp at hz
    rcases hz with rfl | rfl | rfl | rfl
    · exact ls
    · exact l1
    · exact l2
    · exact l3
  have X₁ : K.In h₁ := X.keeps hk₁
  have hx₁ := hk₁ _ _ hx
  have hC₁ := X₁ _ _ hC
  have m0 : (fun z => List.lookup z [(("self" : Str), Value.ref x), ("many", v1), ("demand", v2), ("answer", v3)].reverse) "self" = some (.ref x) := rfl
  have m1 : (fun z => List.lookup z [(("self" : Str), Value.ref x), ("many", v1), ("demand", v2), ("answer", v3)].reverse) "many" = some v1 := rfl
  have m2 : (fun z => List.lookup z [(("self" : Str), Value.ref x), ("many", v1), ("demand", v2), ("answer", v3)].reverse) "demand" = some v2 := rfl
  have m3' : (fun z => List.lookup z [(("self" : Str), Value.ref x), ("many", v1), ("demand", v2), ("answer", v3)].reverse) "answer" = some v3 := rfl
  obtain ⟨pl, hev⟩ := sup_ev3 (env := callEnv (ksFn "__init__" qual (yA p1 p2 p3 p4) (yB y) yS .none .none doc pm an (.ref cda) ct cc) s.heap.objs.size fI) (y := y) hpos
  refine ks_wpAt_execs_cons (ks_wpAt_Expr_any (ks_wpAt_MethodCall (pl := pl) ?_ hev) rfl rfl)
  have hCo : ∃ oD, h₁.get? C = some oD ∧ oD.data = .cls { name := nmq, bases := bs, mro := .ref C :: bm, ns := N, qualname := q, hasDict := true, slotNames := sn, subclasses := sub, abstract := ab, collection := col, hasDel := false } := ⟨_, hC₁, rfl⟩
  obtain ⟨oD, hD1, hD2⟩ := hCo
  have hxC : x ≠ C := fun z => by
    rw [z, hC₁] at hx₁
    exact nomatch hx₁
  refine ks_wpAt_super_base (env := callEnv (ksFn "__init__" qual (yA p1 p2 p3 p4) (yB y) yS .none .none doc pm an (.ref cda) ct cc) s.heap.objs.size fI) rfl rfl (by decide) rfl (X₁ _ _ ho) rfl rfl rfl (X₁ _ _ hcode) rfl hvs hfile T.tp ?_
  refine ks_loadName_global rfl rfl (Calls.loadGlobal_builtin (hg.keeps hk₁) T.su (hb1.keeps hk₁) ((hb2 "super" (by decide)).trans (by kernel_rfl)) ⟨rfl, ?_⟩)
  refine wpAny_loadName_free rfl rfl rfl ⟨_, X₁ _ _ hcell, rfl⟩ ?_
  refine wpAny_loadName_local rfl ls hns m0 ?_
  refine ks_wpAny_isType_cls hD1 hD2 ⟨rfl, ?_⟩
  refine ks_wpAny_call_super hD1 hD2 hx₁ rfl (fun c e => nomatch e) (looks_mroIn X₁ T.mr) (fun h2 e2 k2 => ?_)
  have X2 : K.In h2 := X₁.keeps k2
  have hx2 := k2 _ _ hx₁
  have hI : Looks (model prog w) h2 (isInstance (.ref x) (.type "ValueError")) true := (InstAt.type (od := none) ⟨hx2, rfl, rfl, trivial⟩).andThen (looks_subIn X2 T.ve)
  have si := T.si
  unfold ks_superIn at si
  rw [hcl] at si
  refine kxs_getMethod kxs_ValueError e2 (looks_opaque X2 T.op) (l₀ := .ref C :: bm) (fun A Q E s k q => wpAny_bind ((looks_clsIn X2 hcl) A _ E s k (wpAny_pure q))) rfl X2 si hI hxC (by decide) ?_
  have k3 : ∀ b o, h2.get? b = some o → (h2.push (kxs_mw "ValueError.__init__" x)).get? b = some o := fun b o e => Heap.get?_push_of_some _ e
  have hu : (h2.push (kxs_mw "ValueError.__init__" x)).get? h2.objs.size = some (kxs_mw "ValueError.__init__" x) := Heap.get?_push_at rfl rfl
  have hns3 := (hns.keeps k2).keeps k3
  refine callWith_mw (i := "ValueError.__init__") (x := x) (spliced_more (wpAny_Name (wpAny_loadName_local rfl l1 hns3 m1 (spliced_more (wpAny_Name (wpAny_loadName_local rfl l2 hns3 m2 (spliced_more (wpAny_Name (wpAny_loadName_local rfl l3 hns3 m3' (spliced_none ?_)) (by decide)))) (by decide)))) (by decide)))
  refine ⟨hu, ?_⟩
  refine call_mw ((X2.keeps k3) _ _ hC) (k3 _ _ hx2) hu (three_size v1 v2 v3) (fun h4 t1 k4 hx4 => ?_)
  have kall : ∀ b o, b ≠ x → h₁.get? b = some o → h4.get? b = some o := fun b o hb e => k4 b o hb (k3 b o (k2 b o e))
  have X4 : K.In h4 := fun b o e => kall b o (fun z => by rw [z, hnx] at e; cases e) (X₁ b o e)
  have xL : s.heap.objs.size ≠ x := Nat.ne_of_gt (Heap.lt_size hx)
  have hns4 : h4.Ns s.heap.objs.size (fun z => List.lookup z [(("self" : Str), Value.ref x), ("many", v1), ("demand", v2), ("answer", v3)].reverse) := let ⟨o, es, ep, e, r⟩ := hns3; ⟨o, es, ep, k4 _ o xL e, r⟩
  refine ks_wpAt_execs_cons (ks_wpAt_Assign_Attr (wpAt_of_wpAny (wpAny_Name (wpAny_loadName_local rfl l1 hns4 m1 (wpAny_Name (wpAny_loadName_local rfl ls hns4 m0 ?_) (by decide))) (by decide))) rfl)
  refine set_plain X4 (ox := excO C t1) (od := none) ⟨hx4, rfl, rfl, trivial⟩ T.sa ?_
  refine exc_osa X4 hx4 hcl (show refsVE (.ref C :: bm) = true from hbm) rfl T.n1 (fun h5 tk5 dx k5' dn dne hx5 hn5 => ?_)
  have xD : s.heap.objs.size ≠ dx := Nat.ne_of_lt (Nat.lt_of_lt_of_le hns4.lt dn)
  have hns5 : h5.Ns s.heap.objs.size (fun z => List.lookup z [(("self" : Str), Value.ref x), ("many", v1), ("demand", v2), ("answer", v3)].reverse) := let ⟨o, es, ep, e, r⟩ := hns4; ⟨o, es, ep, k5' _ o xL e, r⟩
  have X5 : K.In h5 := fun b o e => k5' b o (fun z => by rw [z, hnx] at e; cases e) (X4 b o e)
  have w1 : Within (fun z : Str => if z = "many" then some v1 else none) ["many"] := Within.cons (m := fun _ => none) "many" v1 (fun z hz => absurd rfl hz)
  obtain ⟨oD5, esD5, epD5, hoD5, hdD5, _⟩ := hn5.count w1
  refine ks_wpAt_execs_cons (ks_wpAt_Assign_Attr (wpAt_of_wpAny (wpAny_Name (wpAny_loadName_local rfl l2 hns5 m2 (wpAny_Name (wpAny_loadName_local rfl ls hns5 m0 ?_) (by decide))) (by decide))) rfl)
  refine set_plain X5 (ox := { cls := .ref C, dict := some dx, data := .fields #[.ref t1, .none, .none, .none, .bool false, .none] }) (od := some oD5) ⟨hx5, rfl, rfl, hoD5⟩ T.sa ?_
  refine PySem.OEX.osa_old X5 hx5 hn5 w1 (by decide) hcl (show refsVE (.ref C :: bm) = true from hbm) rfl T.n2 (fun h6 tk6 k6 hn6 => ?_)
  have hns6 : h6.Ns s.heap.objs.size (fun z => List.lookup z [(("self" : Str), Value.ref x), ("many", v1), ("demand", v2), ("answer", v3)].reverse) := let ⟨o, es, ep, e, r⟩ := hns5; ⟨o, es, ep, k6 _ o xD e, r⟩
  have hnD : K.lookup dx = none := by
    cases e : K.lookup dx with
    | none => rfl
    | some o =>
      have z : h4.get? dx = some o := X4 _ _ e
      exact absurd (Nat.lt_of_lt_of_le (Heap.lt_size z) dn) (Nat.lt_irrefl _)
  have X6 : K.In h6 := fun b o e => k6 b o (fun z => by rw [z, hnD] at e; cases e) (X5 b o e)
  have hx6 := k6 x _ (Ne.symm dne) hx5
  have w2 : Within (fun z : Str => if z = "demand" then some v2 else if z = "many" then some v1 else none) ["demand", "many"] := Within.cons (m := fun z => if z = "many" then some v1 else none) "demand" v2 w1
  obtain ⟨oD6, esD6, epD6, hoD6, hdD6, _⟩ := hn6.count w2
  refine ks_wpAt_execs_cons (ks_wpAt_Assign_Attr (wpAt_of_wpAny (wpAny_Name (wpAny_loadName_local rfl l3 hns6 m3' (wpAny_Name (wpAny_loadName_local rfl ls hns6 m0 ?_) (by decide))) (by decide))) rfl)
  refine set_plain X6 (ox := { cls := .ref C, dict := some dx, data := .fields #[.ref t1, .none, .none, .none, .bool false, .none] }) (od := some oD6) ⟨hx6, rfl, rfl, hoD6⟩ T.sa ?_
  refine PySem.OEX.osa_old X6 hx6 hn6 w2 (by decide) hcl (show refsVE (.ref C :: bm) = true from hbm) rfl T.n3 (fun h7 tk7 k7 hn7 => ?_)
  have hx7 := k7 x _ (Ne.symm dne) hx6
  refine wpAt_of_wpAny (wpAny_execs_nil ?_)
  have big : s.heap.objs.size ≤ dx := Nat.le_of_lt (Nat.lt_of_lt_of_le hns4.lt dn)
  refine hq h7 tk7 dx ⟨fun b o hb e => ?_, ⟨t1, hx7⟩, big, dne, hn7⟩
  have hbd : b ≠ dx := Nat.ne_of_lt (Nat.lt_of_lt_of_le (Heap.lt_size e) big)
  exact k7 b o hbd (k6 b o hbd (k5' b o hb (kall b o hb (hk₁ b o e))))
theorem err_made3 (T : ErrTxt3 prog K mg nm C fI) {v1 v2 v3 : Value} (X : K.In s.heap) (hg : s.heap.Ns mainGlobals mg) (hb : ∃ mb, s.heap.Ns builtinsNs mb ∧ ∀ y : Str, y ≠ "__name__" → mb y = bootBuiltins y) (hlim : s.heap.NoLimit) (hroom : A.depth + 1 < recursionLimit)
    (hq : ∀ h' tk e d, OwnMade3 s.heap h' e C d v1 v2 v3 → R (.ok (.ret (.ref e))) { s with heap := h', toks := tk }) :
    codeAny (model prog w) A (.call (.ref C) ⟨[v1, v2, v3], []⟩) R s := by
  obtain ⟨nmq, q, N, bs, bm, sn, sub, ab, col, dd, k0, k1, k2, k3, k5, hC, hbm⟩ := T.cls
  obtain ⟨hp, g, dr, tk, os⟩ := s
  have k : ∀ b o, hp.get? b = some o → ((hp.push (kdv_tup [v1, v2, v3])).push (excO C hp.objs.size)).get? b = some o := fun b o e => Heap.get?_push_of_some _ (Heap.get?_push_of_some _ e)
  have hget : ((hp.push (kdv_tup [v1, v2, v3])).push (excO C hp.objs.size)).get? (hp.objs.size + 1) = some (excO C hp.objs.size) := by heap_get
  have hnx : K.lookup (hp.objs.size + 1) = none := by
    cases e : K.lookup (hp.objs.size + 1) with
    | none => rfl
    | some o =>
      have z : hp.get? (hp.objs.size + 1) = some o := X _ _ e
      exact absurd (Nat.lt_of_succ_lt (Heap.lt_size z)) (Nat.lt_irrefl _)
  obtain ⟨mb, hb1, hb2⟩ := hb
  refine call_own PySem.F.excBase_ValueError (fun X => refsVE_contains X bm hbm) (X _ _ hC) (looks_findIn X T.iC) (fun self => bind_fn X self T.tC) (three_size v1 v2 v3) ?_
  refine err_init3 (s := ⟨(hp.push (kdv_tup [v1, v2, v3])).push (excO C hp.objs.size), g, dr, tk, os⟩) T (X.keeps k) (hg.keeps k) ⟨mb, hb1.keeps k, hb2⟩ (hlim.keeps k) hget hnx ?_ fun h' tk' dx ⟨k', hx, dn, dne, hns⟩ => ?_
  · show A.depth + 1 < recursionLimit
    exact hroom
  · have old : ∀ b o, hp.get? b = some o → h'.get? b = some o := fun b o e => k' b o (Nat.ne_of_lt (Nat.lt_succ_of_lt (Heap.lt_size e))) (k b o e)
    have z : hp.objs.size + 1 + 1 ≤ dx := by
      first
        | (simpa only [Heap.size_push] using dn)
        | exact dn
        | (have q := dn; rw [Heap.size_push, Heap.size_push] at q; exact q)
    obtain ⟨t1, hx⟩ := hx
    exact ⟨rfl, hq h' tk' (hp.objs.size + 1) dx ⟨old, Nat.le_succ _, ⟨_, _, hx, rfl, rfl, rfl, rfl⟩, Nat.le_trans (Nat.le_trans (Nat.le_succ _) (Nat.le_succ _)) z, dne, hns⟩⟩
end
end Er
end Me

set_option maxHeartbeats 2000000
/-! Me91: the error with three fields as a value; isinstance of kept errors, their fields. -/
namespace Me
open PySem PySem.Spec PyProof.Rows L2
section
open PySem.W (Frag)
variable {X : Cx} {C fI : Addr} {nm : Str}
theorem relO_3 {w1 w2 w3 : V} {v1 v2 v3 : Value} (r1 : RelV w1 v1) (r2 : RelV w2 v2) (r3 : RelV w3 v3) (f : Str) : RelO (List.lookup f [(("many" : Str), w1), ("demand", w2), ("answer", w3)]) (Er.m3 v1 v2 v3 f) := by
  unfold Er.m3
  by_cases h1 : f = "many"
  · subst h1
    exact r1
  by_cases h2 : f = "demand"
  · subst h2
    exact r2
  by_cases h3 : f = "answer"
  · subst h3
    exact r3
  rw [if_neg h3, if_neg h2, if_neg h1]
  have q : List.lookup f [(("many" : Str), w1), ("demand", w2), ("answer", w3)] = none := by
    simp [List.lookup, show (f == ("many" : Str)) = false by simpa using h1, show (f == ("demand" : Str)) = false by simpa using h2, show (f == ("answer" : Str)) = false by simpa using h3]
  rw [q]
  trivial
def tMkErr3 (C : Addr) (ta : TA) : L2.St → Hp → XK → Prop := fun σ H Q => ta σ H fun vs H1 => ∃ v1 v2 v3, vs = [v1, v2, v3] ∧ ∀ d, H1 d = none → Q (.ref C) (some d) (upd H1 d (.xd [("many", v1), ("demand", v2), ("answer", v3)]))
theorem pmk_err3 {a b c : Expr} {ta : TA} {p pos : Pos} {k : Nat} (T : Er.ErrTxt3 X.prog X.K X.mg nm C fI) (hr : L2H.RoomH k X.A) (ha : PA X [a, b, c] ta) (hg : Gl X nm)
    (hdb : (nm == ("__debug__" : Str)) = false) (he : starEach (a :: [b, c]) X.env = (false, eval a X.env) :: starEach [b, c] X.env) (hpl : (backTo pos (starEach [b, c] X.env)).any (·.1) = false) :
    PMk X (.Call (.Name nm p) [a, b, c] [] pos) (tMkErr3 C ta) := by
  intro pins s σ H Q I h
  refine wpAny_Call_Name_kw (ld_glob I hg T.gC ?_ hdb)
  refine PySem.W.callWith_K (h₀ := X.base) I.ok.mod.kin T.kC (thn (ha.run pos pins s σ H _ I h) fun us s1 hh => ?_) he hpl
  obtain ⟨vs, H1, I1, r1, w1, w2, w3, ev, q1⟩ := hh
  subst ev
  refine ⟨I1.kIn, ?_⟩
  match us, r1 with
  | [v1, v2, v3], .cons rv1 (.cons rv2 (.cons rv3 .nil)) =>
    show wpAny _ _ (call (.ref C) [v1, v2, v3]) _ _ _
    have hlim := I1.nolimit
    have hgl := I1.mod.glob.keeps I1.bk
    have hbl : ∃ mb, s1.heap.Ns builtinsNs mb ∧ ∀ y : Str, y ≠ "__name__" → mb y = bootBuiltins y := let ⟨mb, h1, h2⟩ := I1.mod.blt; ⟨mb, h1.keeps I1.bk, h2⟩
    obtain ⟨hp, g, dr, tk, os⟩ := s1
    refine wpAny_call (Er.err_made3 T I1.kIn hgl hbl hlim (by have := hr.dp; omega) fun h' tk' e d M => ?_)
    show MkP X pins σ Q (.ref e) ⟨h', g, dr, tk', os⟩
    obtain ⟨oe, fv, hoe, hc, hd, hdat, h1⟩ := M.obj
    have hns := M.ns
    obtain ⟨G', g1, g2⟩ := restrict h' fun b => decide (b ≠ e)
    have gk : ∀ b, b ≠ e → G'.get? b = h'.get? b := fun b hb => g1 b (decide_eq_true hb)
    have ge : G'.get? e = none := g2 e (by simp)
    have old : ∀ b o, hp.get? b = some o → G'.get? b = some o := fun b o q => (gk b (Nat.ne_of_lt (Nat.lt_of_lt_of_le (Heap.lt_size q) M.new))).trans (M.keep b o q)
    have ob : ObjOk X.prog X.w (upd H1 d (.xd [("many", w1), ("demand", w2), ("answer", w3)])) G' d (.xd [("many", w1), ("demand", w2), ("answer", w3)]) :=
      ⟨_, hns.at (fun o q => (gk d M.dne).trans q), fun f => relO_3 rv1 rv2 rv3 f⟩
    have J : Inv X pins σ (upd H1 d (.xd [("many", w1), ("demand", w2), ("answer", w3)])) ⟨G', g, dr, tk', os⟩ := I1.laid (t' := tk') old M.dbig ob
    refine ⟨e, oe, fv, ⟨G', g, dr, tk', os⟩, _, .ref C, some d, rfl, J, fun b o q => ?_, ge, hoe, ⟨hc, hd⟩, hdat, h1, ?_, rfl, I1.bare, raises_own T.exC T.tyC, q1 d (I1.hok.fresh M.dbig)⟩
    · by_cases hb : b = e
      · have q' : G'.get? b = some o := q
        rw [hb, ge] at q'; cases q'
      · exact (gk b hb).symm.trans q
    · rw [upd_ne (Ne.symm M.dne)]
      exact I1.hok.fresh M.new
end
section
variable {S : Sc} {env : En} {μ : Mu} {a b c e : Expr} {P : KD} {pos p0 p1 : Pos} {nm f : Str} {cn : String} {C fI : Addr}
theorem e_err3 (hv : S.Γ.err = some none) (T : Er.ErrTxt3 S.X.prog S.X.K S.X.mg nm C fI) (hC : S.Γ.cls cn = some C) (h : A S [a, b, c] env μ fun ds μ1 => ∃ d1 d2 d3, ds = [d1, d2, d3] ∧ P (.err cn [("many", d1), ("demand", d2), ("answer", d3)]) μ1) (hg : Gl S.X nm := by rfl)
    (hdb : (nm == ("__debug__" : Str)) = false := by decide) (he : starEach (a :: [b, c]) S.X.env = (false, eval a S.X.env) :: starEach [b, c] S.X.env := by rfl) (hpl : (backTo p1 (starEach [b, c] S.X.env)).any (·.1) = false := by rfl) :
    E S (.Call (.Name nm p0) [a, b, c] [] p1) env μ P := by
  refine PE.imp (pe_of_pmk (pmk_err3 T S.rm pa_y hg hdb he hpl)) fun σ H Q ⟨F, as, a1, k⟩ => ?_
  refine h.go a1 fun ds μ1 vs F1 H1 as1 ⟨d1, d2, d3, ed, p⟩ g1 W1 r1 => ?_
  subst ed
  match vs, r1 with
  | [w1, w2, w3], .cons rv1 (.cons rv2 (.cons rv3 .nil)) =>
    refine ⟨_, _, _, rfl, fun dx hdx => ⟨C, rfl, fun ax hax => ?_⟩⟩
    obtain ⟨W2, g2⟩ := W1.addF (o := .xd [("many", w1), ("demand", w2), ("answer", w3)]) hdx
    obtain ⟨W3, g3⟩ := W2.addF (o := ErO ax C (some dx)) hax
    have hne : dx ≠ ax := fun z => by rw [← z, upd_same] at hax; exact nomatch hax
    exact k _ μ1 _ _ _ _ p ((g1.trans g2).trans g3) W3 (.err3 hv hC upd_same (by rw [upd_ne hne]; exact upd_same) (.cons (DV.mono g3 (DV.mono g2 rv1)) (.cons (DV.mono g3 (DV.mono g2 rv2)) (.cons (DV.mono g3 (DV.mono g2 rv3)) .nil))))
/-- a kept error as an object -/
theorem errv_at {X : Cx} {Γ : Gam} {F H : Hp} {as : List Ad} {v : V} {pins : List (Addr × Obj)} {σ : L2.St} {s : Shared} {fs : List (Str × D)} (hv : Γ.err = some none) (hC : Γ.cls cn = some C) (I : Inv X pins σ H s) (sub : Same F H) (r : DV Γ F as v (.err cn fs)) :
    ∃ ax oe od, v = .ref ax ∧ PySem.W.InstAt s.heap ax oe C od := by
  cases r with
  | err0 h1 hc => rw [hv] at h1; exact nomatch h1
  | err1 h1 hc h2 h3 => rw [hv] at h1; exact nomatch h1
  | err2 h1 hc h2 =>
    rw [hC] at hc
    obtain rfl := Option.some.inj hc
    obtain ⟨⟨o, vs, ho, hcl, hd, hdat⟩, _⟩ := I.hok _ _ (sub _ _ h2)
    exact ⟨_, o, none, rfl, ho, hcl, by unfold PySem.W.notCls; rw [hdat] <;> rfl, by rw [hd]; trivial⟩
  | err3 h1 hc h2 h3 h4 =>
    rw [hC] at hc
    obtain rfl := Option.some.inj hc
    obtain ⟨⟨o, vs, ho, hcl, hd, hdat⟩, _⟩ := I.hok _ _ (sub _ _ h2)
    obtain ⟨mA, hns, hr⟩ := (show ObjOk X.prog X.w H s.heap _ (.xd _) from I.hok _ _ (sub _ _ h3))
    obtain ⟨od, hod, hl⟩ := lookIn_ns hns
    exact ⟨_, o, some od, rfl, ho, hcl, by unfold PySem.W.notCls; rw [hdat] <;> rfl, by rw [hd]; exact hod⟩
theorem c_isiV {u : Value} {q : Bool} {dc : D} {fs : List (Str × D)} (hv : S.Γ.err = some none) (hC : S.Γ.cls cn = some C) (Ec : ExcC S.X.K C) (hu : clsV S.Γ dc = some u) (hk : PySem.W.kitOne S.X.K (.ref C) u = some q) (k : P (.bl q) μ) :
    Cl S (.builtin "isinstance") [.err cn fs, dc] env μ P := by
  intro pins s σ H xs us Q F as I rx a1 h1 kk
  obtain ⟨x, y, rfl, r1, r2⟩ := dvs2 h1
  obtain ⟨u1, u2, rfl, s1, s2⟩ := vals2 rx
  obtain ⟨ax, oe, od, rfl, J⟩ := errv_at hv hC I a1.w.sub r1
  cases (show u1 = Value.ref ax from s1)
  have e2 := (clsV_of r2 hu).eq s2
  subst e2
  exact PySem.W.kia_one (PySem.W.me_kitx Ec.hg Ec.hk Ec.hs Ec.hd Ec.ha Ec.hn Ec.ht Ec.hm) I.kIn J hk (fun z => nomatch z) fun tk => ⟨.bl q, H, I.tok tk, rfl, kk _ μ _ F H as k (Go.refl F H as) a1.w (.bl q)⟩
end
end Me

set_option maxHeartbeats 2000000
/-! Me92: the fields of a kept error. -/
namespace Me
open PySem PySem.Spec PyProof.Rows L2
def tXfV (K : PySem.W.Frag) (f : Str) (te : TE) : TE := fun σ H Q => te σ H fun x H1 => ∃ (a C dd : Addr) (fs : List (Str × V)) (v : V), x = .ref a ∧ XfC K C ∧ PySem.W.findIn K (.ref C) f = some none ∧ H1 a = some (ErO a C (some dd)) ∧ H1 dd = some (.xd fs) ∧ fs.lookup f = some v ∧ Q v H1
theorem pe_xfV {X : Cx} {e : Expr} {te : TE} {pos : Pos} {n : Str} (he : PE X e te) (hb : attributeBase e n X.env (eval e X.env) = eval e X.env) : PE X (.Attribute e n pos) (tXfV X.K n te) := by
  refine ⟨fun pins s σ H Q I h => ?_⟩
  refine attr_of hb (thn (he.run pins s σ H _ I h) fun u s1 hh => ?_)
  obtain ⟨x, H1, I1, rx, a, C, dd, fs, v, ex, T, hno, ha, ea, l, q⟩ := hh
  subst ex
  obtain rfl : u = Value.ref a := rx
  obtain ⟨⟨o, vs, ho, hcl, hd, hdat⟩, _⟩ := I1.hok a _ ha
  have hx : ObjOk X.prog X.w H1 s1.heap dd (.xd fs) := I1.hok dd _ ea
  obtain ⟨mA, hns, hr⟩ := hx
  obtain ⟨od, hod, hl⟩ := lookIn_ns hns
  obtain ⟨u, hu, ru⟩ := RelO.some_of (v := v) (o := mA n) (by rw [← l]; exact hr n)
  have J : PySem.W.InstAt s1.heap a o C (some od) := ⟨ho, hcl, by unfold PySem.W.notCls; rw [hdat] <;> rfl, by rw [hd]; exact hod⟩
  exact HandSPX.exc_get I1.kIn J T.ga T.gg T.exC (PySem.W.findObj_own T.hdC hno rfl (by rw [hl, hu])) (handed_of ru) ⟨v, H1, I1.tok _, ru, q⟩
section
variable {S : Sc} {env : En} {μ : Mu} {e : Expr} {P : KD} {pos : Pos} {f : Str} {cn : String} {C : Addr}
theorem e_xfV (hv : S.Γ.err = some none) (hC : S.Γ.cls cn = some C) (Tx : XfC S.X.K C) (hno : PySem.W.findIn S.X.K (.ref C) f = some none)
    (h : E S e env μ fun dv μ1 => ∃ fs v, dv = .err cn fs ∧ fs.lookup f = some v ∧ P v μ1) (hb : attributeBase e f S.X.env (eval e S.X.env) = eval e S.X.env := by rfl) : E S (.Attribute e f pos) env μ P := by
  refine PE.imp (pe_xfV pe_y hb) fun σ H Q ⟨F, as, a1, kk⟩ => ?_
  refine E.go h a1 fun dv μ1 v F1 H1 as1 p1 g1 W1 r1 => ?_
  obtain ⟨fs, w, rfl, hl, p⟩ := p1
  cases r1 with
  | err0 h1 hc => exact nomatch hl
  | err1 h1 hc h2 h3 => rw [hv] at h1; exact nomatch h1
  | err2 h1 hc h2 => exact nomatch hl
  | err3 h1 hc h2 h3 h4 =>
    rw [hC] at hc
    obtain rfl := Option.some.inj hc
    obtain ⟨u, hu, ru⟩ := h4.look hl
    exact ⟨_, _, _, _, u, rfl, Tx, hno, W1.sub _ _ h2, W1.sub _ _ h3, hu, kk w μ1 u F1 H1 as1 p g1 W1 ru⟩
end
end Me

namespace Lm
open PySem PySem.Spec PyProof.Rows L2 Me
def topS (i : Nat) : Stmt := PySem.Challenge.pw_listnames_k12_errors_apart.main.body.getD i (.Pass ⟨0, 0, 0, 0⟩)
abbrev sBag : Stmt := topS 22
abbrev nBag : List Str := ["_law_script", "_law_cell"]
abbrev pBag : List Str := ["_law_script"]
theorem scBag : FnScope nBag pBag (defScope sBag) := ⟨rfl, rfl, rfl, by decide +kernel, rfl, by decide +kernel, by decide +kernel⟩
abbrev sTake : Stmt := topS 23
abbrev nTake : List Str := ["_law_bag_here", "_law_many", "_law_cell", "_law_more", "_law_drawn"]
abbrev pTake : List Str := ["_law_bag_here", "_law_many"]
theorem scTake : FnScope nTake pTake (defScope sTake) := ⟨rfl, rfl, rfl, by decide +kernel, rfl, by decide +kernel, by decide +kernel⟩
abbrev sAlike : Stmt := topS 24
abbrev nAlike : List Str := ["_law_found", "_law_right"]
abbrev pAlike : List Str := ["_law_found", "_law_right"]
theorem scAlike : FnScope nAlike pAlike (defScope sAlike) := ⟨rfl, rfl, rfl, by decide +kernel, rfl, by decide +kernel, by decide +kernel⟩
abbrev sLErrors : Stmt := topS 25
abbrev nLErrors : List Str := ["_law_x", "_law_y", "_law_z", "_law_found"]
abbrev pLErrors : List Str := ["_law_x", "_law_y", "_law_z"]
theorem scLErrors : FnScope nLErrors pLErrors (defScope sLErrors) := ⟨rfl, rfl, rfl, by decide +kernel, rfl, by decide +kernel, by decide +kernel⟩
abbrev sLFlags : Stmt := topS 26
abbrev nLFlags : List Str := ["_law_e", "_law_found"]
abbrev pLFlags : List Str := ["_law_e"]
theorem scLFlags : FnScope nLFlags pLFlags (defScope sLFlags) := ⟨rfl, rfl, rfl, by decide +kernel, rfl, by decide +kernel, by decide +kernel⟩
abbrev sLFields : Stmt := topS 27
abbrev nLFields : List Str := ["_law_some", "_law_found"]
abbrev pLFields : List Str := ["_law_some"]
theorem scLFields : FnScope nLFields pLFields (defScope sLFields) := ⟨rfl, rfl, rfl, by decide +kernel, rfl, by decide +kernel, by decide +kernel⟩
abbrev sLValue : Stmt := topS 28
abbrev nLValue : List Str := ["_law_bag_here", "_law_some"]
abbrev pLValue : List Str := ["_law_bag_here"]
theorem scLValue : FnScope nLValue pLValue (defScope sLValue) := ⟨rfl, rfl, rfl, by decide +kernel, rfl, by decide +kernel, by decide +kernel⟩
abbrev sLaw : Stmt := topS 29
abbrev nLaw : List Str := ["_law_script", "_law_bag_here", "_law_turn", "_law_x", "_law_y", "_law_z", "_law_some", "_law_due", "_law_at", "_law_k", "_law_thing"]
abbrev pLaw : List Str := ["_law_script"]
theorem scLaw : FnScope nLaw pLaw (defScope sLaw) := ⟨rfl, rfl, rfl, by decide +kernel, rfl, by decide +kernel, by decide +kernel⟩
end Lm


namespace Lm
open PySem PySem.Spec PyProof.Rows L2 Me
section
local macro_rules | `(tactic| walk_at "ev") => `(tactic| first
  | refine e_var 0 rfl ?_ | refine e_var 1 rfl ?_ | refine e_var 2 rfl ?_ | refine e_var 3 rfl ?_ | refine e_var 4 rfl ?_ | refine e_var 5 rfl ?_ | refine e_var 6 rfl ?_ | refine e_var 7 rfl ?_ | refine e_var 8 rfl ?_ | refine e_var 9 rfl ?_
  | refine e_var 10 rfl ?_ | refine e_var 11 rfl ?_ | refine e_var 12 rfl ?_ | refine e_var 13 rfl ?_ | refine e_var 14 rfl ?_ | refine e_var 15 rfl ?_ | refine e_var 16 rfl ?_ | refine e_var 17 rfl ?_ | refine e_var 18 rfl ?_ | refine e_var 19 rfl ?_ | refine e_var 20 rfl ?_)
local macro_rules | `(tactic| walk_at "ec") => `(tactic| first
  | refine k_len ?_ | refine k_int ?_ | refine k_tuple ?_ | refine k_list ?_ | refine k_repr ?_ | refine k_sorted ?_ | refine k_dict ?_ | refine k_all ?_ | refine k_min ?_ | refine k_abs ?_ | refine k_isinstance ?_)
local macro_rules | `(tactic| walk_at "ee") => `(tactic| first
  | ((with_reducible show Me.E _ (Expr.Name _ _) _ _ _); walk_at "ev")
  | ((with_reducible show Me.E _ (Expr.Constant _ _ _) _ _ _); first | refine e_int ?_ | refine e_str ?_ | refine e_bl ?_ | refine e_non ?_)
  | ((with_reducible show Me.E _ (Expr.BinOp _ _ _ _) _ _ _); refine e_bin ?_)
  | ((with_reducible show Me.E _ (Expr.Compare _ _ _ _) _ _ _); refine e_cmp ?_)
  | ((with_reducible show Me.E _ (Expr.Subscript _ (Expr.Slice _ _ _ _) _) _ _ _); refine e_sl ?_)
  | ((with_reducible show Me.E _ (Expr.Subscript _ _ _) _ _ _); refine e_ix ?_)
  | ((with_reducible show Me.E _ (Expr.Tuple _ _ _) _ _ _); refine e_tup ?_)
  | ((with_reducible show Me.E _ (Expr.UnaryOp UnaryOp.Not _ _) _ _ _); refine e_not ?_)
  | ((with_reducible show Me.E _ (Expr.UnaryOp _ _ _) _ _ _); refine e_un ?_)
  | ((with_reducible show Me.E _ (Expr.IfExp _ _ _ _) _ _ _); refine e_ite ?_)
  | ((with_reducible show Me.E _ (Expr.BoolOp _ _ _) _ _ _); first | refine e_one ?_ | refine e_and ?_ | refine e_or ?_)
  | ((with_reducible show Me.E _ (Expr.Call (Expr.Name _ _) _ _ _) _ _ _); walk_at "ec"))
local macro_rules | `(tactic| walk_at "bb") => `(tactic| first
  | refine b_nil ?_ | refine b_ret ?_ | refine b_setIx ?_ | refine b_expr ?_
  | refine b_set 0 ?_ | refine b_set 1 ?_ | refine b_set 2 ?_ | refine b_set 3 ?_ | refine b_set 4 ?_ | refine b_set 5 ?_ | refine b_set 6 ?_ | refine b_set 7 ?_ | refine b_set 8 ?_ | refine b_set 9 ?_ | refine b_set 10 ?_ | refine b_set 11 ?_ | refine b_set 12 ?_ | refine b_set 13 ?_ | refine b_set 14 ?_ | refine b_set 15 ?_ | refine b_set 16 ?_ | refine b_set 17 ?_ | refine b_set 18 ?_)
local macro_rules | `(tactic| walk_at "oo") => `(tactic| first
  | ((with_reducible show Op2 _ (binaryOp _) _ _ _ _ _); first
    | (with_reducible refine o_add ?_) | (with_reducible refine o_sub ?_)
    | ((with_reducible show Op2 _ (binaryOp Operator.Mod) (D.int _) (D.int _) _ _ _); refine o_mod (by first | decide | assumption | omega) ?_)
    | ((with_reducible show Op2 _ (binaryOp Operator.FloorDiv) (D.int _) (D.int _) _ _ _); refine o_fdiv (by first | decide | assumption | omega) ?_)
    | ((with_reducible show Op2 _ (binaryOp Operator.Mult) (D.int _) (D.int _) _ _ _); first | refine o_mul (Or.inr ⟨by decide, by decide⟩) ?_ | refine o_mul (Or.inl ⟨by decide, by decide⟩) ?_))
  | ((with_reducible show Op2 _ (compareOp _) _ _ _ _ _); first
    | (with_reducible refine o_lt ?_) | (with_reducible refine o_le ?_) | (with_reducible refine o_gt ?_) | (with_reducible refine o_ge ?_) | (with_reducible refine o_eqI ?_) | (with_reducible refine o_neI ?_) | (with_reducible refine o_eqS ?_) | (with_reducible refine o_neS ?_) | (with_reducible refine o_isN ?_) | (with_reducible refine o_isntN ?_))
  | (with_reducible refine o_neg ?_)
  | ((with_reducible show Cl _ (Value.type "int") _ _ _ _); refine c_int ?_)
  | ((with_reducible show Cl _ (Value.builtin "len") _ _ _ _); first | (with_reducible refine c_lenN ?_) | (with_reducible refine c_lenT ?_) | refine c_lenL rfl ?_)
  | ((with_reducible show Ix2 _ (D.tup _) _ _ _ _); refine x_tup rfl ?_)
  | ((with_reducible show Ix2 _ _ _ _ _ _); refine x_lst rfl rfl ?_))
local macro_rules | `(tactic| walk_at "me") => `(tactic| first
  | ((with_reducible show Me.E _ _ _ _ _); walk_at "ee")
  | ((with_reducible show Me.A _ _ _ _ _); first | refine a_cons ?_ | refine a_nil ?_)
  | ((with_reducible show Me.Thn _ _ _ (Out.next _ _)); refine thn_n ?_)
  | ((with_reducible show Me.B _ _ _ _ _); walk_at "bb")
  | ((with_reducible show Me.T _ _ _ _ _); first | refine t_cmp ?_ | refine t_bop ?_ | refine t_not ?_)
  | ((with_reducible show Me.W _ _ _ _ _); first | refine w_and1 ?_ | refine w_or1 ?_ | refine w_and ?_ | refine w_or ?_)
  | ((with_reducible show Me.OI _ _ _ _ _); first | refine o_none ?_ | refine o_some ?_)
  | walk_at "oo"
  | (with_reducible refine asT_i ?_)
  | (with_reducible refine ⟨_, rfl, ?_⟩))
local macro_rules | `(tactic| walk_at "go") => `(tactic| repeat (walk_at "me"))
variable {w : World} {P : Program} {base : Heap} {mg : Str → Option Value} {K : PySem.W.Frag} {Γ : Gam}
set_option maxHeartbeats 4000000 in
theorem ok_take (hK : Γ.K = K) {f : Addr} {fd : FuncData} {k : Nat} (F : Fun K "_law_take" "_law_take" sTake f fd) (hb : Bi mg) : Gd.FnG P w K mg base (L2.CX P w) (k + 1) f fd pTake (spM Γ CTake) := by
  refine okM hK hb F scTake (by rintro _ _ _ _ ⟨b, n, m, rfl, _⟩; rfl) ?_
  rintro cdv A outer s H E hg rm _ _ Q Z ⟨b, n, m, rfl, rfl, gb, hn, hn2, q⟩
  have last : ∀ (x2 x3 : Option D) (z : Bag), z = fill b → B (bodyS P w K mg base Γ hK nTake "_law_take" sTake f cdv A outer s H E (ZR (bagC b :: m) Z) hg scTake.nd hb k rm) ((defBody sTake).drop 1) [some (.cell 0), some (.int n), x2, x3, none] (bagC z :: m)
      (RetR Γ (bagC b :: m) Q) := by
    intro x2 x3 z hz
    refine b_if ?_
    walk_at "go"
    refine ⟨fun h => ?_, fun h => ?_⟩
    · have hz0 : 0 < z.a := of_decide_eq_true h
      walk_at "go"
      refine t_setL (n := 0) rfl (by show 0 < 4; decide) ?_
      walk_at "go"
      refine rt ?_
      have e1 : takeV b n = z.a % n := by unfold takeV; rw [← hz, if_pos hz0]
      have e2 : bagC (takeS b n) = .lst ((bagD z).set 0 (.int (z.a / n))) := by unfold takeS; rw [← hz, if_pos hz0]; rfl
      rw [e1, e2] at q
      exact q
    · have hz0 : ¬ 0 < z.a := of_decide_eq_false h
      refine b_nil ?_
      walk_at "go"
      refine t_setL (n := 1) rfl (by show 1 < 4; decide) ?_
      walk_at "go"
      refine rt ?_
      have e1 : takeV b n = (z.seed * 48271 + 11) % 2147483647 / 64 % n := by unfold takeV; rw [← hz, if_neg hz0]
      have e2 : bagC (takeS b n) = .lst ((bagD z).set 1 (.int ((z.seed * 48271 + 11) % 2147483647))) := by unfold takeS; rw [← hz, if_neg hz0]; rfl
      rw [e1, e2] at q
      exact q
  refine b_if ?_
  walk_at "go"
  refine ⟨fun h => ?_, fun h => ?_⟩
  · have h0 : b.a = 0 := of_decide_eq_true h
    have fin : ∀ c : Int, c = cellOf b → B (bodyS P w K mg base Γ hK nTake "_law_take" sTake f cdv A outer s H E (ZR (bagC b :: m) Z) hg scTake.nd hb k rm) (((match (defBody sTake).head? with | some (.If _ t _ _) => t | _ => [])).drop 2) [some (.cell 0), some (.int n), some (.int c), none, none] (bagC b :: m)
        (Thn (bodyS P w K mg base Γ hK nTake "_law_take" sTake f cdv A outer s H E (ZR (bagC b :: m) Z) hg scTake.nd hb k rm) ((defBody sTake).drop 1) (RetR Γ (bagC b :: m) Q)) := by
      intro c hc
      refine b_augIx ?_
      walk_at "go"
      refine ⟨0, 2, b.i, bagD b, rfl, rfl, rfl, rfl, ?_⟩
      walk_at "go"
      refine ⟨1, bagD b, rfl, rfl, by show 2 < 4; decide, ?_⟩
      refine b_if ?_
      walk_at "go"
      refine ⟨fun h => ?_, fun h => ?_⟩
      · have h1 : 1000000000000000000 ≤ c := of_decide_eq_true h
        walk_at "go"
        refine t_setL (n := 0) rfl (by show 0 < 4; decide) ?_
        walk_at "go"
        refine t_setL (n := 1) rfl (by show 1 < 4; decide) ?_
        walk_at "go"
        refine last _ _ ⟨c, (b.seed * 48271 + (c % 2147483647 + 7919 * (b.i + 1))) % 2147483647, b.i + 1, b.cells⟩ ?_
        unfold fill
        rw [if_pos h0, ← hc, if_pos h1]
      · have h1 : ¬ 1000000000000000000 ≤ c := of_decide_eq_false h
        walk_at "go"
        refine t_setL (n := 1) rfl (by show 1 < 4; decide) ?_
        walk_at "go"
        refine last _ _ ⟨b.a, (b.seed * 48271 + (c % 2147483647 + 7919 * (b.i + 1))) % 2147483647, b.i + 1, b.cells⟩ ?_
        unfold fill
        rw [if_pos h0, ← hc, if_neg h1, h0]
    refine b_set 2 ?_
    refine e_int ?_
    refine b_if ?_
    walk_at "go"
    refine ⟨fun h => ?_, fun h => ?_⟩
    · have h1 : b.i < ((b.cells.map D.int).length : Int) := of_decide_eq_true h
      rw [List.length_map] at h1
      have i0 := gb.i0
      walk_at "go"
      refine x_lst rfl (at_ints i0 h1) ?_
      refine b_nil ?_
      exact fin _ (by unfold cellOf; rw [if_pos h1])
    · have h1 : ¬ b.i < ((b.cells.map D.int).length : Int) := of_decide_eq_false h
      rw [List.length_map] at h1
      refine b_nil ?_
      exact fin 0 (by unfold cellOf; rw [if_neg h1])
  · have h0 : ¬ b.a = 0 := of_decide_eq_false h
    refine b_nil ?_
    exact last none none b (by unfold fill; rw [if_neg h0])
end
end Lm

namespace Lm
open PySem PySem.Spec PyProof.Rows L2 Me
section
local macro_rules | `(tactic| walk_at "ev") => `(tactic| first
  | refine e_var 0 rfl ?_ | refine e_var 1 rfl ?_ | refine e_var 2 rfl ?_ | refine e_var 3 rfl ?_ | refine e_var 4 rfl ?_ | refine e_var 5 rfl ?_ | refine e_var 6 rfl ?_ | refine e_var 7 rfl ?_ | refine e_var 8 rfl ?_ | refine e_var 9 rfl ?_
  | refine e_var 10 rfl ?_ | refine e_var 11 rfl ?_ | refine e_var 12 rfl ?_ | refine e_var 13 rfl ?_ | refine e_var 14 rfl ?_ | refine e_var 15 rfl ?_ | refine e_var 16 rfl ?_ | refine e_var 17 rfl ?_ | refine e_var 18 rfl ?_ | refine e_var 19 rfl ?_ | refine e_var 20 rfl ?_)
local macro_rules | `(tactic| walk_at "ec") => `(tactic| first
  | refine k_len ?_ | refine k_int ?_ | refine k_tuple ?_ | refine k_list ?_ | refine k_repr ?_ | refine k_sorted ?_ | refine k_dict ?_ | refine k_all ?_ | refine k_min ?_ | refine k_abs ?_ | refine k_isinstance ?_)
local macro_rules | `(tactic| walk_at "ee") => `(tactic| first
  | ((with_reducible show Me.E _ (Expr.Name _ _) _ _ _); walk_at "ev")
  | ((with_reducible show Me.E _ (Expr.Constant _ _ _) _ _ _); first | refine e_int ?_ | refine e_str ?_ | refine e_bl ?_ | refine e_non ?_)
  | ((with_reducible show Me.E _ (Expr.BinOp _ _ _ _) _ _ _); refine e_bin ?_)
  | ((with_reducible show Me.E _ (Expr.Compare _ _ _ _) _ _ _); refine e_cmp ?_)
  | ((with_reducible show Me.E _ (Expr.Subscript _ (Expr.Slice _ _ _ _) _) _ _ _); refine e_sl ?_)
  | ((with_reducible show Me.E _ (Expr.Subscript _ _ _) _ _ _); refine e_ix ?_)
  | ((with_reducible show Me.E _ (Expr.Tuple _ _ _) _ _ _); refine e_tup ?_)
  | ((with_reducible show Me.E _ (Expr.UnaryOp UnaryOp.Not _ _) _ _ _); refine e_not ?_)
  | ((with_reducible show Me.E _ (Expr.UnaryOp _ _ _) _ _ _); refine e_un ?_)
  | ((with_reducible show Me.E _ (Expr.IfExp _ _ _ _) _ _ _); refine e_ite ?_)
  | ((with_reducible show Me.E _ (Expr.BoolOp _ _ _) _ _ _); first | refine e_one ?_ | refine e_and ?_ | refine e_or ?_)
  | ((with_reducible show Me.E _ (Expr.Call (Expr.Name _ _) _ _ _) _ _ _); walk_at "ec"))
local macro_rules | `(tactic| walk_at "bb") => `(tactic| first
  | refine b_nil ?_ | refine b_ret ?_ | refine b_setIx ?_ | refine b_expr ?_
  | refine b_set 0 ?_ | refine b_set 1 ?_ | refine b_set 2 ?_ | refine b_set 3 ?_ | refine b_set 4 ?_ | refine b_set 5 ?_ | refine b_set 6 ?_ | refine b_set 7 ?_ | refine b_set 8 ?_ | refine b_set 9 ?_ | refine b_set 10 ?_ | refine b_set 11 ?_ | refine b_set 12 ?_ | refine b_set 13 ?_ | refine b_set 14 ?_ | refine b_set 15 ?_ | refine b_set 16 ?_ | refine b_set 17 ?_ | refine b_set 18 ?_)
local macro_rules | `(tactic| walk_at "oo") => `(tactic| first
  | ((with_reducible show Op2 _ (binaryOp _) _ _ _ _ _); first
    | (with_reducible refine o_add ?_) | (with_reducible refine o_sub ?_)
    | ((with_reducible show Op2 _ (binaryOp Operator.Mod) (D.int _) (D.int _) _ _ _); refine o_mod (by first | decide | assumption | omega) ?_)
    | ((with_reducible show Op2 _ (binaryOp Operator.FloorDiv) (D.int _) (D.int _) _ _ _); refine o_fdiv (by first | decide | assumption | omega) ?_)
    | ((with_reducible show Op2 _ (binaryOp Operator.Mult) (D.int _) (D.int _) _ _ _); first | refine o_mul (Or.inr ⟨by decide, by decide⟩) ?_ | refine o_mul (Or.inl ⟨by decide, by decide⟩) ?_))
  | ((with_reducible show Op2 _ (compareOp _) _ _ _ _ _); first
    | (with_reducible refine o_lt ?_) | (with_reducible refine o_le ?_) | (with_reducible refine o_gt ?_) | (with_reducible refine o_ge ?_) | (with_reducible refine o_eqI ?_) | (with_reducible refine o_neI ?_) | (with_reducible refine o_eqS ?_) | (with_reducible refine o_neS ?_) | (with_reducible refine o_isN ?_) | (with_reducible refine o_isntN ?_))
  | (with_reducible refine o_neg ?_)
  | ((with_reducible show Cl _ (Value.type "int") _ _ _ _); refine c_int ?_)
  | ((with_reducible show Cl _ (Value.builtin "len") _ _ _ _); first | (with_reducible refine c_lenN ?_) | (with_reducible refine c_lenT ?_) | refine c_lenL rfl ?_)
  | ((with_reducible show Ix2 _ (D.tup _) _ _ _ _); refine x_tup rfl ?_)
  | ((with_reducible show Ix2 _ _ _ _ _ _); refine x_lst rfl rfl ?_))
local macro_rules | `(tactic| walk_at "me") => `(tactic| first
  | ((with_reducible show Me.E _ _ _ _ _); walk_at "ee")
  | ((with_reducible show Me.A _ _ _ _ _); first | refine a_cons ?_ | refine a_nil ?_)
  | ((with_reducible show Me.Thn _ _ _ (Out.next _ _)); refine thn_n ?_)
  | ((with_reducible show Me.B _ _ _ _ _); walk_at "bb")
  | ((with_reducible show Me.T _ _ _ _ _); first | refine t_cmp ?_ | refine t_bop ?_ | refine t_not ?_)
  | ((with_reducible show Me.W _ _ _ _ _); first | refine w_and1 ?_ | refine w_or1 ?_ | refine w_and ?_ | refine w_or ?_)
  | ((with_reducible show Me.OI _ _ _ _ _); first | refine o_none ?_ | refine o_some ?_)
  | walk_at "oo"
  | (with_reducible refine asT_i ?_)
  | (with_reducible refine ⟨_, rfl, ?_⟩))
local macro_rules | `(tactic| walk_at "go") => `(tactic| repeat (walk_at "me"))
variable {w : World} {P : Program} {base : Heap} {mg : Str → Option Value} {K : PySem.W.Frag} {Γ : Gam}
end
end Lm

/-! Me43: the comprehension of a dict with two clauses. -/
namespace Me
open PySem PySem.Spec PyProof.Rows L2
section
variable {prog : Program} {w : World} {A : Around} {R : Result → Shared → Prop} {s : Shared} {kx vx t0 i0 t1 i1 : Expr} {ifs0 ifs1 : List Expr} {scope : Scope} {pos : Pos} {it acc : Value} {D0 : Addr} {env : Env}
end
section
variable {X : Cx}
def tDc2 (o0 : HO) (wi : TI) (g : TG) (tt : TT) (wi1 : TI) (g1 : TG) (tt1 : TT) (tk tv : TE) (vs vs1 : List Nat) : TE := fun σ H Q => wi σ H fun J H1 => ∀ D0, H1 D0 = none → ∃ Y : Nat → Nat → Hp → Prop, (∃ m, Y 0 m (upd H1 D0 o0)) ∧ ∀ i m H, Y i m H →
  (J.stop i H ∧ Q (.ref D0) H) ∨ (J.go i H ∧ ∃ Nx : Hp → Prop, (∀ H', Nx H' → ∃ m', m' < m ∧ Y (i + 1) m' H') ∧ ∀ x H', J.yld i H x H' → g x (wipe σ vs) H' fun σ2 H2 => wipe σ2 vs = wipe σ vs ∧ tt σ2 H2 fun b H3 =>
    if b = true then wi1 σ2 H3 fun J1 H4 => ∃ Y1 : Nat → Nat → Hp → Prop, (∃ m, Y1 0 m H4) ∧ ∀ j k H, Y1 j k H →
      (J1.stop j H ∧ Nx H) ∨ (J1.go j H ∧ ∃ Nx1 : Hp → Prop, (∀ H', Nx1 H' → ∃ k', k' < k ∧ Y1 (j + 1) k' H') ∧ ∀ x H', J1.yld j H x H' → g1 x (wipe σ2 vs1) H' fun σ3 H5 => wipe σ3 vs1 = wipe σ2 vs1 ∧ tt1 σ3 H5 fun b H6 =>
        if b = true then tk σ3 H6 fun y H7 => tv σ3 H7 fun z H8 => ∃ H9, DPut H8 D0 y z H9 ∧ Nx1 H9 else Nx1 H6)
    else Nx H3)
end
end Me

/-! Me44: {k: v for x in xs for y in ys}, by values. -/
namespace Me
open PySem PySem.Spec PyProof.Rows L2
section
variable {S : Sc} {env : En} {μ : Mu} {kx vx tg iter tg1 iter1 : Expr} {ifs ifs1 : List Expr} {pos p1 p2 : Pos} {x y : Str} {scope : Scope} {P : KD}
/-- the inner walk; the new dict is the cell n0 -/
structure CompI (S : Sc) (scope : Scope) (rel1 : D → En → En → Prop) (vs1 : List Nat) (kx vx : Expr) (ifs1 : List Expr) (env2 : En) (t : Bool) (n0 : Nat) (J : Nat → Mu → Prop) (ds1 : List D) (Sx1 : Mu → Prop) (m0 : Mu) (Dn : Mu → Prop) : Prop where
  start : J 0 m0
  stay : ∀ j m, J j m → Sx1 m
  turn : ∀ j d m, ds1[j]? = some d → J j m → ∃ env3 PB, rel1 d (wipeE env2 vs1) env3 ∧ AllB S scope (fun S' => Ts S' ifs1 env3 m PB) ∧
    ∀ q m1, PB q m1 → (q = true → ∃ PK, AllB S scope (fun S' => E S' kx env3 m1 PK) ∧ ∀ dk m2, PK dk m2 → ∃ key, asDK t dk = some key ∧ AllB S scope fun S' => E S' vx env3 m2 fun d' m3 => ∃ acc, m3[n0]? = some (.dct t none acc) ∧ acc.length < sizeLine ∧ J (j + 1) (m3.set n0 (.dct t none (putD acc key d')))) ∧ (q = false → J (j + 1) m1)
  done : ∀ m, J ds1.length m → Dn m
structure CompO (S : Sc) (scope : Scope) (rel rel1 : D → En → En → Prop) (vs vs1 : List Nat) (kx vx tg1 iter1 : Expr) (ifs ifs1 : List Expr) (env : En) (t : Bool) (n0 : Nat) (I : Nat → Mu → Prop) (ds : List D) (Sx : Mu → Prop) (m0 : Mu) (fin : Mu → Prop) : Prop where
  start : I 0 m0
  stay : ∀ k m, I k m → Sx m
  turn : ∀ k d m, ds[k]? = some d → I k m → ∃ env2 PB, rel d (wipeE env vs) env2 ∧ AllB S scope (fun S' => Ts S' ifs env2 m PB) ∧
    ∀ q m1, PB q m1 → (q = true → ∃ PI, AllB S scope (fun S' => Iter S' tg1 iter1 env2 m1 PI) ∧ ∀ ds1 Sx1 m2, PI ds1 Sx1 m2 → ∃ J, CompI S scope rel1 vs1 kx vx ifs1 env2 t n0 J ds1 Sx1 m2 (I (k + 1))) ∧ (q = false → I (k + 1) m1)
  done : ∀ m, I ds.length m → fin m
def rdII (S : Sc) (scope : Scope) (tg1 iter1 : Expr) : TI := fun σ H R => ∃ env m PI F as, AllB S scope (fun S' => Iter S' tg1 iter1 env m PI) ∧ EnvOk S.Γ F as env σ ∧ Wd S.Γ F H as m ∧
  ∀ ds Sx μ1 J F1 H1 as1, PI ds Sx μ1 → Go F H as F1 H1 as1 → Wd S.Γ F1 H1 as1 μ1 → IsWalk S ds Sx F1 H1 as1 J → R J H1
/-! ### nothing else changes -/
def foldD (ps : List (DK × D)) : List (DK × D) := ps.foldl (fun acc p => putD acc p.1 p.2) []
abbrev dcW (μ : Mu) (t : Bool) (ps : List (DK × D)) : Mu := μ ++ [.dct t none (foldD ps)]
end
end Me

/-! Me45: sum([], []), range with a step, rstrip, index of a text. -/
namespace Me
open PySem PySem.Spec PyProof.Rows L2
section
variable {prog : Program} {w : World} {A : Around}
end
section
variable {S : Sc} {env : En} {μ : Mu} {d d0 : D} {es0 : List D} {P : KD} {PI : KI} {e a b c o tg : Expr} {es : List Expr} {p0 pos apos cpos : Pos} {x y : Str}
/-- lo, lo + c, .. -/
def rangeC (lo c : Int) (n : Nat) : List D := (List.range n).map fun (i : Nat) => D.int (lo + i * c)
end
end Me

/-! Me46: y = {..}, a dict comprehension that goes to a plain local. -/
namespace Me
open PySem PySem.Spec PyProof.Rows L2
section
variable {X : Cx}
end
section
variable {S : Sc} {env : En} {μ : Mu} {kx vx tg iter tg1 iter1 : Expr} {ifs ifs1 : List Expr} {pos spos p0 p1 p2 : Pos} {x y z : Str} {scope : Scope} {P : KD} {rest : List Stmt} {R : Out → Prop}
end
end Me

/-! Me47: a local list becomes stable. -/
namespace Me
open PySem PySem.Spec PyProof.Rows L2
section
variable {S : Sc} {env : En} {μ : Mu} {rest : List Stmt} {R : Out → Prop}
end
end Me

/-! Me48: dicts beside tuples and lists: ==, in, repr of {}. -/
namespace PySem.SeqAt
open PySem PySem.Spec PyProof.Rows

open MeetsSeq
section
variable {prog : Program} {w : World} {A : Around} {E : Value → Shared → Prop} {s : Shared}
end
end PySem.SeqAt

namespace Me
open PySem PySem.Spec PyProof.Rows L2
section
variable {S : Sc} {env : En} {μ : Mu} {P : KD} {d d1 d2 : D} {ds : List D} {kvs : List (DK × D)}
/-! ### repr of {} -/
end
end Me

/-! Me49: a statement that walks over a dict. -/
namespace Me
open PySem PySem.Spec PyProof.Rows L2
def LkR (l : Nat) (t : Bool) (q : HO) (kvs : List (DK × D)) (R : Out → Prop) : Out → Prop
  | .next env m => m[l]? = some (.dct t (some q) kvs) ∧ R (.next env (m.set l (.dct t none kvs)))
  | .ret d m => m[l]? = some (.dct t (some q) kvs) ∧ R (.ret d (m.set l (.dct t none kvs)))
  | .brk env m => m[l]? = some (.dct t (some q) kvs) ∧ R (.brk env (m.set l (.dct t none kvs)))
  | .cont env m => m[l]? = some (.dct t (some q) kvs) ∧ R (.cont env (m.set l (.dct t none kvs)))
section
variable {S : Sc} {env : En} {μ : Mu} {elt tg iter : Expr} {ifs : List Expr} {st : Stmt} {rest : List Stmt} {R : Out → Prop} {pos spos p0 p1 : Pos} {x y : Str} {scope : Scope} {P : KD} {t : Bool} {kvs : List (DK × D)}
end
end Me

/-! Me50: == of lists of instances by an own __eq__ (alike ones). -/
namespace PySem.SeqAt
open PySem PySem.Spec PyProof.Rows
open MeetsSeq MeetsSeq2 MeetsSeq3 SeqRoads2
end PySem.SeqAt
namespace Me
open PySem PySem.Spec PyProof.Rows L2
section
variable {S : Sc} {env : En} {μ : Mu} {P : KD} {ds es : List D} {c : String} {C : Ct} {k : Nat}
end
end Me

/-! Me51: instances beside tuples, == with [], pairs that hold {}. -/
namespace Me
open PySem PySem.Spec PyProof.Rows L2
section
variable {S : Sc} {env : En} {μ : Mu} {c : String} {P : KD} {d d1 d2 : D} {k : Nat} {C : Ct} {ds : List D} {x : Str} {j : Nat}
/-! ### repr of (x, {}) -/
/-! ### x in (..) -/
end
end Me

set_option maxHeartbeats 2000000
/-! Me93: a list == the same things in a list: cells by identity, data by value. -/
namespace Me
open PySem PySem.Spec PyProof.Rows L2
/-- a thing that is equal to itself -/
def SlfOk (d : D) : Prop := (∃ j, d = .cell j) ∨ (d.isPy = true ∧ SeqAt.shaped d.py = true ∧ d.py.depth ≤ 60)
theorem slf_all {S : Sc} {F H : Hp} {as : List Ad} {s : Shared} {pins : List (Addr × Obj)} {σ : L2.St} (I : Inv S.X pins σ H s) (sub : Same F H) (hu : S.X.A.in1.units + 60 < cLine) : ∀ {ds : List D} {vs ws : List V} {us ts : List Value}, (∀ d ∈ ds, SlfOk d) → DVs S.Γ F as vs ds → DVs S.Γ F as ws ds → Vals vs us → Vals ws ts →
    us.length = ts.length ∧ ∀ (j : Nat) (a b : Value), us[j]? = some a → ts[j]? = some b → SeqAt.EqAt S.X.A.in1 s a b true
  | [], _, _, _, _, _, .nil, .nil, .nil, .nil => ⟨rfl, fun j a b h => by simp at h⟩
  | d :: ds, _, _, _, _, ok, .cons h1 t1, .cons h2 t2, .cons r1 k1, .cons r2 k2 => by
    obtain ⟨l, hh⟩ := slf_all I sub hu (fun x hx => ok x (List.mem_cons_of_mem _ hx)) t1 t2 k1 k2
    refine ⟨by rw [List.length_cons, List.length_cons, l], fun j a b ea eb => ?_⟩
    cases j with
    | succ j => exact hh j a b (by simpa using ea) (by simpa using eb)
    | zero =>
      obtain rfl := Option.some.inj (by simpa using ea)
      obtain rfl := Option.some.inj (by simpa using eb)
      rcases ok d List.mem_cons_self with ⟨j, rfl⟩ | ⟨p1, p2, p3⟩
      · cases h1 with
        | cell ha => cases h2 with
          | cell hb =>
            rw [ha] at hb
            obtain rfl := Option.some.inj hb
            cases r1
            cases r2
            exact SeqAt.EqAt.same _
      · have cl : d.py.canLay0 = true := lay_of p2
        obtain ⟨as1, q1⟩ := Dp.reads I _ _ _ (DV.dp S.X.K sub h1 p1 cl) r1
        obtain ⟨as2, q2⟩ := Dp.reads I _ _ _ (DV.dp S.X.K sub h2 p1 cl) r2
        have e := SeqAt.eqAt_reads d.py d.py S.X.A.in1 s _ _ _ _ q1 q2 cl cl (by rw [Nat.min_self]; omega)
        rwa [SeqAt.eqv_refl _ cl] at e
section
variable {S : Sc} {env : En} {μ : Mu} {P : KD} {d1 d2 : D} {ds : List D}
theorem o_eqSame (h1 : vw μ d1 = .lst ds) (h2 : vw μ d2 = .lst ds) (hd : ∀ d ∈ ds, SlfOk d) (k : P (.bl true) μ) : Op2 S (compareOp .Eq) d1 d2 env μ P := by
  intro pins s σ H x y v u Q F as I rx ry a r1 r2 kk
  obtain ⟨p, vs, rfl, hp, dv⟩ := a.w.lst r1 h1
  obtain ⟨q, ws, rfl, hq, dv2⟩ := a.w.lst r2 h2
  cases rx
  cases ry
  have hu := S.hu
  obtain ⟨its, rv, pl, hz⟩ := I.list (show SqL S.X.K H p vs from .inl (.inl hp))
  obtain ⟨its2, rv2, pl2, _⟩ := I.list (show SqL S.X.K H q ws from .inl (.inl hq))
  obtain ⟨hl, he⟩ := slf_all (S := S) I a.w.sub (by show S.X.A.units + 1 + 60 < cLine; omega) hd dv dv2 rv rv2
  refine SeqAt.eq_listAt (e := fun _ => true) pl.isList pl2.isList (by simpa using hl) (by omega) (fun j g1 g2 => ?_) ⟨.bl true, H, I, congrArg Value.bool (List.all_eq_true.mpr fun _ _ => rfl), kk.now a.w k (.bl _)⟩
  refine he j _ _ ?_ ?_
  · simp
  · simp
end
end Me

set_option maxHeartbeats 4000000
namespace Lm
open PySem PySem.Spec PyProof.Rows L2 Me
/-! ### the errors as values -/
def ones : List (String × String) := [("Wrong", "place"), ("NoName", "name"), ("Full", "limit"), ("NoEntry", "entry"), ("There", "name"), ("TooMany", "limit"), ("BadFacts", "name"), ("NoAnswer", "answer"), ("NoHouse", "house"), ("BadChange", "at"), ("NoAsk", "at"), ("Broken", "at")]
def nones : List String := ["NoStep", "Late", "Nothing", "NoDeed", "NoText", "NoCommand"]
def errNs : List String := ["Wrong", "NoName", "Full", "NoEntry", "There", "TooMany", "BadFacts", "NoAnswer", "NoHouse", "BadChange", "NoAsk", "Broken", "Hopeless", "NoStep", "Late", "Nothing", "NoDeed", "NoText", "NoCommand"]
def errsD (x y z : D) : List D :=
  [.err "Wrong" [("place", x)], .err "NoName" [("name", x)], .err "Full" [("limit", x)], .err "NoEntry" [("entry", x)], .err "There" [("name", x)], .err "TooMany" [("limit", x)], .err "BadFacts" [("name", x)], .err "NoAnswer" [("answer", x)], .err "NoHouse" [("house", x)],
   .err "BadChange" [("at", x)], .err "NoAsk" [("at", x)], .err "Broken" [("at", x)], .err "Hopeless" [("many", x), ("demand", y), ("answer", z)], .err "NoStep" [], .err "Late" [], .err "Nothing" [], .err "NoDeed" [], .err "NoText" [], .err "NoCommand" []]
/-- the errors' classes -/
structure Ecs (P : Program) (K : PySem.W.Frag) (mg : Str → Option Value) (Γ : Gam) (cA fA : String → Addr) : Prop where
  hv : Γ.err = some none
  one : ∀ p ∈ ones, Er.ErrTxt P K mg (Str.ofString p.1) (Str.ofString p.2) (cA p.1) (fA p.1)
  hop : Er.ErrTxt3 P K mg "Hopeless" (cA "Hopeless") (fA "Hopeless")
  non : ∀ n ∈ "ListError" :: nones, PySem.W.excIn K (cA n) [.type "ValueError", .type "Exception", .type "BaseException", .type "object"] "ValueError.__new__" = true ∧ mg (Str.ofString n) = some (.ref (cA n)) ∧ PySem.W.keepIn K (.ref (cA n)) = true
  cls : ∀ n ∈ "ListError" :: errNs, Γ.cls n = some (cA n) ∧ mg (Str.ofString n) = some (.ref (cA n)) ∧ ExcC K (cA n)
  kit : ∀ n ∈ "ListError" :: errNs, ∀ m ∈ errNs, PySem.W.kitOne K (.ref (cA n)) (.ref (cA m)) = some (decide (n = m))
  up : ∀ n ∈ errNs, PySem.W.kitOne K (.ref (cA n)) (.ref (cA "ListError")) = some true ∧ PySem.W.kitOne K (.ref (cA n)) (.type "ValueError") = some true
def CErrs : Ct := fun args μ P _ => ∃ x y z : D, args = [x, y, z] ∧ P (.lst (errsD x y z)) μ
section
local macro_rules | `(tactic| walk_at "ev") => `(tactic| first
  | refine e_var 0 rfl ?_ | refine e_var 1 rfl ?_ | refine e_var 2 rfl ?_ | refine e_var 3 rfl ?_ | refine e_var 4 rfl ?_ | refine e_var 5 rfl ?_ | refine e_var 6 rfl ?_ | refine e_var 7 rfl ?_ | refine e_var 8 rfl ?_ | refine e_var 9 rfl ?_
  | refine e_var 10 rfl ?_ | refine e_var 11 rfl ?_ | refine e_var 12 rfl ?_ | refine e_var 13 rfl ?_ | refine e_var 14 rfl ?_ | refine e_var 15 rfl ?_ | refine e_var 16 rfl ?_ | refine e_var 17 rfl ?_ | refine e_var 18 rfl ?_ | refine e_var 19 rfl ?_ | refine e_var 20 rfl ?_)
local macro_rules | `(tactic| walk_at "ec") => `(tactic| first
  | refine k_len ?_ | refine k_int ?_ | refine k_tuple ?_ | refine k_list ?_ | refine k_repr ?_ | refine k_sorted ?_ | refine k_dict ?_ | refine k_all ?_ | refine k_min ?_ | refine k_abs ?_ | refine k_isinstance ?_)
local macro_rules | `(tactic| walk_at "ee") => `(tactic| first
  | ((with_reducible show Me.E _ (Expr.Name _ _) _ _ _); walk_at "ev")
  | ((with_reducible show Me.E _ (Expr.Constant _ _ _) _ _ _); first | refine e_int ?_ | refine e_str ?_ | refine e_bl ?_ | refine e_non ?_)
  | ((with_reducible show Me.E _ (Expr.BinOp _ _ _ _) _ _ _); refine e_bin ?_)
  | ((with_reducible show Me.E _ (Expr.Compare _ _ _ _) _ _ _); refine e_cmp ?_)
  | ((with_reducible show Me.E _ (Expr.Subscript _ (Expr.Slice _ _ _ _) _) _ _ _); refine e_sl ?_)
  | ((with_reducible show Me.E _ (Expr.Subscript _ _ _) _ _ _); refine e_ix ?_)
  | ((with_reducible show Me.E _ (Expr.Tuple _ _ _) _ _ _); refine e_tup ?_)
  | ((with_reducible show Me.E _ (Expr.UnaryOp UnaryOp.Not _ _) _ _ _); refine e_not ?_)
  | ((with_reducible show Me.E _ (Expr.UnaryOp _ _ _) _ _ _); refine e_un ?_)
  | ((with_reducible show Me.E _ (Expr.IfExp _ _ _ _) _ _ _); refine e_ite ?_)
  | ((with_reducible show Me.E _ (Expr.BoolOp _ _ _) _ _ _); first | refine e_one ?_ | refine e_and ?_ | refine e_or ?_)
  | ((with_reducible show Me.E _ (Expr.Call (Expr.Name _ _) _ _ _) _ _ _); walk_at "ec"))
local macro_rules | `(tactic| walk_at "bb") => `(tactic| first
  | refine b_nil ?_ | refine b_ret ?_ | refine b_setIx ?_ | refine b_expr ?_
  | refine b_set 0 ?_ | refine b_set 1 ?_ | refine b_set 2 ?_ | refine b_set 3 ?_ | refine b_set 4 ?_ | refine b_set 5 ?_ | refine b_set 6 ?_ | refine b_set 7 ?_ | refine b_set 8 ?_ | refine b_set 9 ?_ | refine b_set 10 ?_ | refine b_set 11 ?_ | refine b_set 12 ?_ | refine b_set 13 ?_ | refine b_set 14 ?_ | refine b_set 15 ?_ | refine b_set 16 ?_ | refine b_set 17 ?_ | refine b_set 18 ?_)
local macro_rules | `(tactic| walk_at "oo") => `(tactic| first
  | ((with_reducible show Op2 _ (binaryOp _) _ _ _ _ _); first
    | (with_reducible refine o_add ?_) | (with_reducible refine o_sub ?_)
    | ((with_reducible show Op2 _ (binaryOp Operator.Mod) (D.int _) (D.int _) _ _ _); refine o_mod (by first | decide | assumption | omega) ?_)
    | ((with_reducible show Op2 _ (binaryOp Operator.FloorDiv) (D.int _) (D.int _) _ _ _); refine o_fdiv (by first | decide | assumption | omega) ?_)
    | ((with_reducible show Op2 _ (binaryOp Operator.Mult) (D.int _) (D.int _) _ _ _); first | refine o_mul (Or.inr ⟨by decide, by decide⟩) ?_ | refine o_mul (Or.inl ⟨by decide, by decide⟩) ?_))
  | ((with_reducible show Op2 _ (compareOp _) _ _ _ _ _); first
    | (with_reducible refine o_lt ?_) | (with_reducible refine o_le ?_) | (with_reducible refine o_gt ?_) | (with_reducible refine o_ge ?_) | (with_reducible refine o_eqI ?_) | (with_reducible refine o_neI ?_) | (with_reducible refine o_eqS ?_) | (with_reducible refine o_neS ?_) | (with_reducible refine o_isN ?_) | (with_reducible refine o_isntN ?_))
  | (with_reducible refine o_neg ?_)
  | ((with_reducible show Cl _ (Value.type "int") _ _ _ _); refine c_int ?_)
  | ((with_reducible show Cl _ (Value.builtin "len") _ _ _ _); first | (with_reducible refine c_lenN ?_) | (with_reducible refine c_lenT ?_) | refine c_lenL rfl ?_)
  | ((with_reducible show Ix2 _ (D.tup _) _ _ _ _); refine x_tup rfl ?_)
  | ((with_reducible show Ix2 _ _ _ _ _ _); refine x_lst rfl rfl ?_))
local macro_rules | `(tactic| walk_at "me") => `(tactic| first
  | ((with_reducible show Me.E _ _ _ _ _); walk_at "ee")
  | ((with_reducible show Me.A _ _ _ _ _); first | refine a_cons ?_ | refine a_nil ?_)
  | ((with_reducible show Me.Thn _ _ _ (Out.next _ _)); refine thn_n ?_)
  | ((with_reducible show Me.B _ _ _ _ _); walk_at "bb")
  | ((with_reducible show Me.T _ _ _ _ _); first | refine t_cmp ?_ | refine t_bop ?_ | refine t_not ?_)
  | ((with_reducible show Me.W _ _ _ _ _); first | refine w_and1 ?_ | refine w_or1 ?_ | refine w_and ?_ | refine w_or ?_)
  | ((with_reducible show Me.OI _ _ _ _ _); first | refine o_none ?_ | refine o_some ?_)
  | walk_at "oo"
  | (with_reducible refine asT_i ?_)
  | (with_reducible refine ⟨_, rfl, ?_⟩))
local macro_rules | `(tactic| walk_at "go") => `(tactic| repeat (walk_at "me"))
variable {w : World} {P : Program} {base : Heap} {mg : Str → Option Value} {K : PySem.W.Frag} {Γ : Gam} {cA fA : String → Addr}
theorem ok_lerrors (hK : Γ.K = K) {f : Addr} {fd : FuncData} {k : Nat} (F : Fun K "_law_errors" "_law_errors" sLErrors f fd) (hb : Bi mg) (EC : Ecs P K mg Γ cA fA) : Gd.FnG P w K mg base (L2.CX P w) (k + 1) f fd pLErrors (spM Γ CErrs) := by
  refine okM hK hb F scLErrors (by rintro _ _ _ _ ⟨x, y, z, rfl, _⟩; rfl) ?_
  rintro cdv A outer s H E hg rm _ μ Q Z ⟨x, y, z, rfl, q⟩
  have sz : ∀ {n : Nat}, n ≤ 10000 → n ≤ sizeLine := fun h => by rw [sizeLine_eq]; omega
  have hv := EC.hv
  have g : ∀ n, n ∈ "ListError" :: errNs → Γ.cls n = some (cA n) := fun n hn => (EC.cls n hn).1
  refine b_set 3 (e_lst ?_)
  refine a_cons (e_err1 (fld := "place") (cn := "Wrong") hv (EC.one ("Wrong", "place") (by simp [ones])) (g "Wrong" (by simp [errNs])) (a_cons (e_var 0 rfl (a_nil ⟨_, rfl, ?_⟩))))
  refine a_cons (e_err1 (fld := "name") (cn := "NoName") hv (EC.one ("NoName", "name") (by simp [ones])) (g "NoName" (by simp [errNs])) (a_cons (e_var 0 rfl (a_nil ⟨_, rfl, ?_⟩))))
  refine a_cons (e_err1 (fld := "limit") (cn := "Full") hv (EC.one ("Full", "limit") (by simp [ones])) (g "Full" (by simp [errNs])) (a_cons (e_var 0 rfl (a_nil ⟨_, rfl, ?_⟩))))
  refine a_cons (e_err1 (fld := "entry") (cn := "NoEntry") hv (EC.one ("NoEntry", "entry") (by simp [ones])) (g "NoEntry" (by simp [errNs])) (a_cons (e_var 0 rfl (a_nil ⟨_, rfl, ?_⟩))))
  refine a_cons (e_err1 (fld := "name") (cn := "There") hv (EC.one ("There", "name") (by simp [ones])) (g "There" (by simp [errNs])) (a_cons (e_var 0 rfl (a_nil ⟨_, rfl, ?_⟩))))
  refine a_cons (e_err1 (fld := "limit") (cn := "TooMany") hv (EC.one ("TooMany", "limit") (by simp [ones])) (g "TooMany" (by simp [errNs])) (a_cons (e_var 0 rfl (a_nil ⟨_, rfl, ?_⟩))))
  refine a_cons (e_err1 (fld := "name") (cn := "BadFacts") hv (EC.one ("BadFacts", "name") (by simp [ones])) (g "BadFacts" (by simp [errNs])) (a_cons (e_var 0 rfl (a_nil ⟨_, rfl, ?_⟩))))
  refine a_cons (e_err1 (fld := "answer") (cn := "NoAnswer") hv (EC.one ("NoAnswer", "answer") (by simp [ones])) (g "NoAnswer" (by simp [errNs])) (a_cons (e_var 0 rfl (a_nil ⟨_, rfl, ?_⟩))))
  refine a_cons (e_err1 (fld := "house") (cn := "NoHouse") hv (EC.one ("NoHouse", "house") (by simp [ones])) (g "NoHouse" (by simp [errNs])) (a_cons (e_var 0 rfl (a_nil ⟨_, rfl, ?_⟩))))
  refine a_nil ⟨sz (Nat.le_of_ble_eq_true rfl), ?_⟩
  refine b_set 3 (e_bin (e_var 3 rfl (e_lst ?_)))
  refine a_cons (e_err1 (fld := "at") (cn := "BadChange") hv (EC.one ("BadChange", "at") (by simp [ones])) (g "BadChange" (by simp [errNs])) (a_cons (e_var 0 rfl (a_nil ⟨_, rfl, ?_⟩))))
  refine a_cons (e_err1 (fld := "at") (cn := "NoAsk") hv (EC.one ("NoAsk", "at") (by simp [ones])) (g "NoAsk" (by simp [errNs])) (a_cons (e_var 0 rfl (a_nil ⟨_, rfl, ?_⟩))))
  refine a_cons (e_err1 (fld := "at") (cn := "Broken") hv (EC.one ("Broken", "at") (by simp [ones])) (g "Broken" (by simp [errNs])) (a_cons (e_var 0 rfl (a_nil ⟨_, rfl, ?_⟩))))
  refine a_cons (e_err3 (cn := "Hopeless") hv EC.hop (g "Hopeless" (by simp [errNs])) (a_cons (e_var 0 rfl (a_cons (e_var 1 rfl (a_cons (e_var 2 rfl (a_nil ⟨_, _, _, rfl, ?_⟩))))))))
  refine a_cons (e_err0 (cn := "NoStep") hv PySem.F.excBase_ValueError (EC.non "NoStep" (by simp [nones])).1 (EC.non "NoStep" (by simp [nones])).2.1 (EC.non "NoStep" (by simp [nones])).2.2 (g "NoStep" (by simp [errNs])) ?_)
  refine a_cons (e_err0 (cn := "Late") hv PySem.F.excBase_ValueError (EC.non "Late" (by simp [nones])).1 (EC.non "Late" (by simp [nones])).2.1 (EC.non "Late" (by simp [nones])).2.2 (g "Late" (by simp [errNs])) ?_)
  refine a_cons (e_err0 (cn := "Nothing") hv PySem.F.excBase_ValueError (EC.non "Nothing" (by simp [nones])).1 (EC.non "Nothing" (by simp [nones])).2.1 (EC.non "Nothing" (by simp [nones])).2.2 (g "Nothing" (by simp [errNs])) ?_)
  refine a_cons (e_err0 (cn := "NoDeed") hv PySem.F.excBase_ValueError (EC.non "NoDeed" (by simp [nones])).1 (EC.non "NoDeed" (by simp [nones])).2.1 (EC.non "NoDeed" (by simp [nones])).2.2 (g "NoDeed" (by simp [errNs])) ?_)
  refine a_nil ⟨sz (Nat.le_of_ble_eq_true rfl), o_addL rfl rfl (sz (Nat.le_of_ble_eq_true rfl)) (.l ?_)⟩
  refine b_ret (e_bin (e_var 3 rfl (e_lst ?_)))
  refine a_cons (e_err0 (cn := "NoText") hv PySem.F.excBase_ValueError (EC.non "NoText" (by simp [nones])).1 (EC.non "NoText" (by simp [nones])).2.1 (EC.non "NoText" (by simp [nones])).2.2 (g "NoText" (by simp [errNs])) ?_)
  refine a_cons (e_err0 (cn := "NoCommand") hv PySem.F.excBase_ValueError (EC.non "NoCommand" (by simp [nones])).1 (EC.non "NoCommand" (by simp [nones])).2.1 (EC.non "NoCommand" (by simp [nones])).2.2 (g "NoCommand" (by simp [errNs])) ?_)
  refine a_nil ⟨sz (Nat.le_of_ble_eq_true rfl), o_addL rfl rfl (sz (Nat.le_of_ble_eq_true rfl)) (.l ?_)⟩
  exact rt q
end
end Lm

set_option maxHeartbeats 4000000
namespace Lm
open PySem PySem.Spec PyProof.Rows L2 Me
def flagsD (n : String) : List D := errNs.map fun m => .bl (decide (n = m))
def CFlags : Ct := fun args μ P _ => ∃ (n : String) (fs : List (Str × D)), args = [.err n fs] ∧ n ∈ "ListError" :: errNs ∧ P (.lst (flagsD n)) μ
def fieldsD (x y z : D) : List D := [x, x, x, x, x, x, x, x, x, x, x, x, x, y, z]
def CFields : Ct := fun args μ P _ => ∃ x y z : D, args = [.lst (errsD x y z)] ∧ P (.lst (fieldsD x y z)) μ
theorem clsV_c {Γ : Gam} {cn : String} {C : Addr} (h : Γ.cls cn = some C) : clsV Γ (.cls cn) = some (.ref C) := by
  show (Γ.cls cn).map Value.ref = _
  rw [h]
  rfl
section
local macro_rules | `(tactic| walk_at "ev") => `(tactic| first
  | refine e_var 0 rfl ?_ | refine e_var 1 rfl ?_ | refine e_var 2 rfl ?_ | refine e_var 3 rfl ?_ | refine e_var 4 rfl ?_ | refine e_var 5 rfl ?_ | refine e_var 6 rfl ?_ | refine e_var 7 rfl ?_ | refine e_var 8 rfl ?_ | refine e_var 9 rfl ?_
  | refine e_var 10 rfl ?_ | refine e_var 11 rfl ?_ | refine e_var 12 rfl ?_ | refine e_var 13 rfl ?_ | refine e_var 14 rfl ?_ | refine e_var 15 rfl ?_ | refine e_var 16 rfl ?_ | refine e_var 17 rfl ?_ | refine e_var 18 rfl ?_ | refine e_var 19 rfl ?_ | refine e_var 20 rfl ?_)
local macro_rules | `(tactic| walk_at "ec") => `(tactic| first
  | refine k_len ?_ | refine k_int ?_ | refine k_tuple ?_ | refine k_list ?_ | refine k_repr ?_ | refine k_sorted ?_ | refine k_dict ?_ | refine k_all ?_ | refine k_min ?_ | refine k_abs ?_ | refine k_isinstance ?_)
local macro_rules | `(tactic| walk_at "ee") => `(tactic| first
  | ((with_reducible show Me.E _ (Expr.Name _ _) _ _ _); walk_at "ev")
  | ((with_reducible show Me.E _ (Expr.Constant _ _ _) _ _ _); first | refine e_int ?_ | refine e_str ?_ | refine e_bl ?_ | refine e_non ?_)
  | ((with_reducible show Me.E _ (Expr.BinOp _ _ _ _) _ _ _); refine e_bin ?_)
  | ((with_reducible show Me.E _ (Expr.Compare _ _ _ _) _ _ _); refine e_cmp ?_)
  | ((with_reducible show Me.E _ (Expr.Subscript _ (Expr.Slice _ _ _ _) _) _ _ _); refine e_sl ?_)
  | ((with_reducible show Me.E _ (Expr.Subscript _ _ _) _ _ _); refine e_ix ?_)
  | ((with_reducible show Me.E _ (Expr.Tuple _ _ _) _ _ _); refine e_tup ?_)
  | ((with_reducible show Me.E _ (Expr.UnaryOp UnaryOp.Not _ _) _ _ _); refine e_not ?_)
  | ((with_reducible show Me.E _ (Expr.UnaryOp _ _ _) _ _ _); refine e_un ?_)
  | ((with_reducible show Me.E _ (Expr.IfExp _ _ _ _) _ _ _); refine e_ite ?_)
  | ((with_reducible show Me.E _ (Expr.BoolOp _ _ _) _ _ _); first | refine e_one ?_ | refine e_and ?_ | refine e_or ?_)
  | ((with_reducible show Me.E _ (Expr.Call (Expr.Name _ _) _ _ _) _ _ _); walk_at "ec"))
local macro_rules | `(tactic| walk_at "bb") => `(tactic| first
  | refine b_nil ?_ | refine b_ret ?_ | refine b_setIx ?_ | refine b_expr ?_
  | refine b_set 0 ?_ | refine b_set 1 ?_ | refine b_set 2 ?_ | refine b_set 3 ?_ | refine b_set 4 ?_ | refine b_set 5 ?_ | refine b_set 6 ?_ | refine b_set 7 ?_ | refine b_set 8 ?_ | refine b_set 9 ?_ | refine b_set 10 ?_ | refine b_set 11 ?_ | refine b_set 12 ?_ | refine b_set 13 ?_ | refine b_set 14 ?_ | refine b_set 15 ?_ | refine b_set 16 ?_ | refine b_set 17 ?_ | refine b_set 18 ?_)
local macro_rules | `(tactic| walk_at "oo") => `(tactic| first
  | ((with_reducible show Op2 _ (binaryOp _) _ _ _ _ _); first
    | (with_reducible refine o_add ?_) | (with_reducible refine o_sub ?_)
    | ((with_reducible show Op2 _ (binaryOp Operator.Mod) (D.int _) (D.int _) _ _ _); refine o_mod (by first | decide | assumption | omega) ?_)
    | ((with_reducible show Op2 _ (binaryOp Operator.FloorDiv) (D.int _) (D.int _) _ _ _); refine o_fdiv (by first | decide | assumption | omega) ?_)
    | ((with_reducible show Op2 _ (binaryOp Operator.Mult) (D.int _) (D.int _) _ _ _); first | refine o_mul (Or.inr ⟨by decide, by decide⟩) ?_ | refine o_mul (Or.inl ⟨by decide, by decide⟩) ?_))
  | ((with_reducible show Op2 _ (compareOp _) _ _ _ _ _); first
    | (with_reducible refine o_lt ?_) | (with_reducible refine o_le ?_) | (with_reducible refine o_gt ?_) | (with_reducible refine o_ge ?_) | (with_reducible refine o_eqI ?_) | (with_reducible refine o_neI ?_) | (with_reducible refine o_eqS ?_) | (with_reducible refine o_neS ?_) | (with_reducible refine o_isN ?_) | (with_reducible refine o_isntN ?_))
  | (with_reducible refine o_neg ?_)
  | ((with_reducible show Cl _ (Value.type "int") _ _ _ _); refine c_int ?_)
  | ((with_reducible show Cl _ (Value.builtin "len") _ _ _ _); first | (with_reducible refine c_lenN ?_) | (with_reducible refine c_lenT ?_) | refine c_lenL rfl ?_)
  | ((with_reducible show Ix2 _ (D.tup _) _ _ _ _); refine x_tup rfl ?_)
  | ((with_reducible show Ix2 _ _ _ _ _ _); refine x_lst rfl rfl ?_))
local macro_rules | `(tactic| walk_at "me") => `(tactic| first
  | ((with_reducible show Me.E _ _ _ _ _); walk_at "ee")
  | ((with_reducible show Me.A _ _ _ _ _); first | refine a_cons ?_ | refine a_nil ?_)
  | ((with_reducible show Me.Thn _ _ _ (Out.next _ _)); refine thn_n ?_)
  | ((with_reducible show Me.B _ _ _ _ _); walk_at "bb")
  | ((with_reducible show Me.T _ _ _ _ _); first | refine t_cmp ?_ | refine t_bop ?_ | refine t_not ?_)
  | ((with_reducible show Me.W _ _ _ _ _); first | refine w_and1 ?_ | refine w_or1 ?_ | refine w_and ?_ | refine w_or ?_)
  | ((with_reducible show Me.OI _ _ _ _ _); first | refine o_none ?_ | refine o_some ?_)
  | walk_at "oo"
  | (with_reducible refine asT_i ?_)
  | (with_reducible refine ⟨_, rfl, ?_⟩))
local macro_rules | `(tactic| walk_at "go") => `(tactic| repeat (walk_at "me"))
variable {w : World} {P : Program} {base : Heap} {mg : Str → Option Value} {K : PySem.W.Frag} {Γ : Gam} {cA fA : String → Addr}
theorem ok_lflags (hK : Γ.K = K) {f : Addr} {fd : FuncData} {k : Nat} (F : Fun K "_law_flags" "_law_flags" sLFlags f fd) (hb : Bi mg) (EC : Ecs P K mg Γ cA fA) : Gd.FnG P w K mg base (L2.CX P w) (k + 1) f fd pLFlags (spM Γ CFlags) := by
  refine okM hK hb F scLFlags (by rintro _ _ _ _ ⟨n, fs, rfl, _⟩; rfl) ?_
  rintro cdv A outer s H E hg rm _ μ Q Z ⟨n, fs, rfl, hn, q⟩
  have sz : ∀ {n : Nat}, n ≤ 10000 → n ≤ sizeLine := fun h => by rw [sizeLine_eq]; omega
  have hv := EC.hv
  have g : ∀ n, n ∈ "ListError" :: errNs → Γ.cls n = some (cA n) := fun n hn => (EC.cls n hn).1
  refine b_set 1 (e_lst ?_)
  refine a_cons (k_isinstance (a_cons (e_var 0 rfl (a_cons (e_cls (cn := "Wrong") (g "Wrong" (by simp [errNs])) (EC.cls "Wrong" (by simp [errNs])).2.1 (a_nil (c_isiV hv (g n hn) (EC.cls n hn).2.2 (clsV_c (g "Wrong" (by simp [errNs]))) (EC.kit n hn "Wrong" (by simp [errNs])) ?_)))))))
  refine a_cons (k_isinstance (a_cons (e_var 0 rfl (a_cons (e_cls (cn := "NoName") (g "NoName" (by simp [errNs])) (EC.cls "NoName" (by simp [errNs])).2.1 (a_nil (c_isiV hv (g n hn) (EC.cls n hn).2.2 (clsV_c (g "NoName" (by simp [errNs]))) (EC.kit n hn "NoName" (by simp [errNs])) ?_)))))))
  refine a_cons (k_isinstance (a_cons (e_var 0 rfl (a_cons (e_cls (cn := "Full") (g "Full" (by simp [errNs])) (EC.cls "Full" (by simp [errNs])).2.1 (a_nil (c_isiV hv (g n hn) (EC.cls n hn).2.2 (clsV_c (g "Full" (by simp [errNs]))) (EC.kit n hn "Full" (by simp [errNs])) ?_)))))))
  refine a_cons (k_isinstance (a_cons (e_var 0 rfl (a_cons (e_cls (cn := "NoEntry") (g "NoEntry" (by simp [errNs])) (EC.cls "NoEntry" (by simp [errNs])).2.1 (a_nil (c_isiV hv (g n hn) (EC.cls n hn).2.2 (clsV_c (g "NoEntry" (by simp [errNs]))) (EC.kit n hn "NoEntry" (by simp [errNs])) ?_)))))))
  refine a_nil ⟨sz (Nat.le_of_ble_eq_true rfl), ?_⟩
  refine b_set 1 (e_bin (e_var 1 rfl (e_lst ?_)))
  refine a_cons (k_isinstance (a_cons (e_var 0 rfl (a_cons (e_cls (cn := "There") (g "There" (by simp [errNs])) (EC.cls "There" (by simp [errNs])).2.1 (a_nil (c_isiV hv (g n hn) (EC.cls n hn).2.2 (clsV_c (g "There" (by simp [errNs]))) (EC.kit n hn "There" (by simp [errNs])) ?_)))))))
  refine a_cons (k_isinstance (a_cons (e_var 0 rfl (a_cons (e_cls (cn := "TooMany") (g "TooMany" (by simp [errNs])) (EC.cls "TooMany" (by simp [errNs])).2.1 (a_nil (c_isiV hv (g n hn) (EC.cls n hn).2.2 (clsV_c (g "TooMany" (by simp [errNs]))) (EC.kit n hn "TooMany" (by simp [errNs])) ?_)))))))
  refine a_cons (k_isinstance (a_cons (e_var 0 rfl (a_cons (e_cls (cn := "BadFacts") (g "BadFacts" (by simp [errNs])) (EC.cls "BadFacts" (by simp [errNs])).2.1 (a_nil (c_isiV hv (g n hn) (EC.cls n hn).2.2 (clsV_c (g "BadFacts" (by simp [errNs]))) (EC.kit n hn "BadFacts" (by simp [errNs])) ?_)))))))
  refine a_cons (k_isinstance (a_cons (e_var 0 rfl (a_cons (e_cls (cn := "NoAnswer") (g "NoAnswer" (by simp [errNs])) (EC.cls "NoAnswer" (by simp [errNs])).2.1 (a_nil (c_isiV hv (g n hn) (EC.cls n hn).2.2 (clsV_c (g "NoAnswer" (by simp [errNs]))) (EC.kit n hn "NoAnswer" (by simp [errNs])) ?_)))))))
  refine a_nil ⟨sz (Nat.le_of_ble_eq_true rfl), o_addL rfl rfl (sz (Nat.le_of_ble_eq_true rfl)) (.l ?_)⟩
  refine b_set 1 (e_bin (e_var 1 rfl (e_lst ?_)))
  refine a_cons (k_isinstance (a_cons (e_var 0 rfl (a_cons (e_cls (cn := "NoHouse") (g "NoHouse" (by simp [errNs])) (EC.cls "NoHouse" (by simp [errNs])).2.1 (a_nil (c_isiV hv (g n hn) (EC.cls n hn).2.2 (clsV_c (g "NoHouse" (by simp [errNs]))) (EC.kit n hn "NoHouse" (by simp [errNs])) ?_)))))))
  refine a_cons (k_isinstance (a_cons (e_var 0 rfl (a_cons (e_cls (cn := "BadChange") (g "BadChange" (by simp [errNs])) (EC.cls "BadChange" (by simp [errNs])).2.1 (a_nil (c_isiV hv (g n hn) (EC.cls n hn).2.2 (clsV_c (g "BadChange" (by simp [errNs]))) (EC.kit n hn "BadChange" (by simp [errNs])) ?_)))))))
  refine a_cons (k_isinstance (a_cons (e_var 0 rfl (a_cons (e_cls (cn := "NoAsk") (g "NoAsk" (by simp [errNs])) (EC.cls "NoAsk" (by simp [errNs])).2.1 (a_nil (c_isiV hv (g n hn) (EC.cls n hn).2.2 (clsV_c (g "NoAsk" (by simp [errNs]))) (EC.kit n hn "NoAsk" (by simp [errNs])) ?_)))))))
  refine a_cons (k_isinstance (a_cons (e_var 0 rfl (a_cons (e_cls (cn := "Broken") (g "Broken" (by simp [errNs])) (EC.cls "Broken" (by simp [errNs])).2.1 (a_nil (c_isiV hv (g n hn) (EC.cls n hn).2.2 (clsV_c (g "Broken" (by simp [errNs]))) (EC.kit n hn "Broken" (by simp [errNs])) ?_)))))))
  refine a_nil ⟨sz (Nat.le_of_ble_eq_true rfl), o_addL rfl rfl (sz (Nat.le_of_ble_eq_true rfl)) (.l ?_)⟩
  refine b_set 1 (e_bin (e_var 1 rfl (e_lst ?_)))
  refine a_cons (k_isinstance (a_cons (e_var 0 rfl (a_cons (e_cls (cn := "Hopeless") (g "Hopeless" (by simp [errNs])) (EC.cls "Hopeless" (by simp [errNs])).2.1 (a_nil (c_isiV hv (g n hn) (EC.cls n hn).2.2 (clsV_c (g "Hopeless" (by simp [errNs]))) (EC.kit n hn "Hopeless" (by simp [errNs])) ?_)))))))
  refine a_cons (k_isinstance (a_cons (e_var 0 rfl (a_cons (e_cls (cn := "NoStep") (g "NoStep" (by simp [errNs])) (EC.cls "NoStep" (by simp [errNs])).2.1 (a_nil (c_isiV hv (g n hn) (EC.cls n hn).2.2 (clsV_c (g "NoStep" (by simp [errNs]))) (EC.kit n hn "NoStep" (by simp [errNs])) ?_)))))))
  refine a_cons (k_isinstance (a_cons (e_var 0 rfl (a_cons (e_cls (cn := "Late") (g "Late" (by simp [errNs])) (EC.cls "Late" (by simp [errNs])).2.1 (a_nil (c_isiV hv (g n hn) (EC.cls n hn).2.2 (clsV_c (g "Late" (by simp [errNs]))) (EC.kit n hn "Late" (by simp [errNs])) ?_)))))))
  refine a_cons (k_isinstance (a_cons (e_var 0 rfl (a_cons (e_cls (cn := "Nothing") (g "Nothing" (by simp [errNs])) (EC.cls "Nothing" (by simp [errNs])).2.1 (a_nil (c_isiV hv (g n hn) (EC.cls n hn).2.2 (clsV_c (g "Nothing" (by simp [errNs]))) (EC.kit n hn "Nothing" (by simp [errNs])) ?_)))))))
  refine a_nil ⟨sz (Nat.le_of_ble_eq_true rfl), o_addL rfl rfl (sz (Nat.le_of_ble_eq_true rfl)) (.l ?_)⟩
  refine b_ret (e_bin (e_var 1 rfl (e_lst ?_)))
  refine a_cons (k_isinstance (a_cons (e_var 0 rfl (a_cons (e_cls (cn := "NoDeed") (g "NoDeed" (by simp [errNs])) (EC.cls "NoDeed" (by simp [errNs])).2.1 (a_nil (c_isiV hv (g n hn) (EC.cls n hn).2.2 (clsV_c (g "NoDeed" (by simp [errNs]))) (EC.kit n hn "NoDeed" (by simp [errNs])) ?_)))))))
  refine a_cons (k_isinstance (a_cons (e_var 0 rfl (a_cons (e_cls (cn := "NoText") (g "NoText" (by simp [errNs])) (EC.cls "NoText" (by simp [errNs])).2.1 (a_nil (c_isiV hv (g n hn) (EC.cls n hn).2.2 (clsV_c (g "NoText" (by simp [errNs]))) (EC.kit n hn "NoText" (by simp [errNs])) ?_)))))))
  refine a_cons (k_isinstance (a_cons (e_var 0 rfl (a_cons (e_cls (cn := "NoCommand") (g "NoCommand" (by simp [errNs])) (EC.cls "NoCommand" (by simp [errNs])).2.1 (a_nil (c_isiV hv (g n hn) (EC.cls n hn).2.2 (clsV_c (g "NoCommand" (by simp [errNs]))) (EC.kit n hn "NoCommand" (by simp [errNs])) ?_)))))))
  refine a_nil ⟨sz (Nat.le_of_ble_eq_true rfl), o_addL rfl rfl (sz (Nat.le_of_ble_eq_true rfl)) (.l ?_)⟩
  exact rt q
theorem ok_lfields (hK : Γ.K = K) {f : Addr} {fd : FuncData} {k : Nat} (F : Fun K "_law_fields" "_law_fields" sLFields f fd) (hb : Bi mg) (EC : Ecs P K mg Γ cA fA) : Gd.FnG P w K mg base (L2.CX P w) (k + 1) f fd pLFields (spM Γ CFields) := by
  refine okM hK hb F scLFields (by rintro _ _ _ _ ⟨x, y, z, rfl, _⟩; rfl) ?_
  rintro cdv A outer s H E hg rm _ μ Q Z ⟨x, y, z, rfl, q⟩
  have sz : ∀ {n : Nat}, n ≤ 10000 → n ≤ sizeLine := fun h => by rw [sizeLine_eq]; omega
  have hv := EC.hv
  have g : ∀ n, n ∈ "ListError" :: errNs → Γ.cls n = some (cA n) := fun n hn => (EC.cls n hn).1
  refine b_set 1 (e_lst ?_)
  refine a_cons (e_xfV (cn := "Wrong") (f := "place") hv (g "Wrong" (by simp [errNs])) ⟨(EC.one ("Wrong", "place") (by simp [ones])).ga, (EC.one ("Wrong", "place") (by simp [ones])).gg, (EC.one ("Wrong", "place") (by simp [ones])).exC, (EC.one ("Wrong", "place") (by simp [ones])).hdC⟩ (EC.one ("Wrong", "place") (by simp [ones])).noN (e_ix (e_var 0 rfl (e_int (x_lst rfl (L2.atI_nat (j := 0) rfl) ⟨_, _, rfl, rfl, ?_⟩)))))
  refine a_cons (e_xfV (cn := "NoName") (f := "name") hv (g "NoName" (by simp [errNs])) ⟨(EC.one ("NoName", "name") (by simp [ones])).ga, (EC.one ("NoName", "name") (by simp [ones])).gg, (EC.one ("NoName", "name") (by simp [ones])).exC, (EC.one ("NoName", "name") (by simp [ones])).hdC⟩ (EC.one ("NoName", "name") (by simp [ones])).noN (e_ix (e_var 0 rfl (e_int (x_lst rfl (L2.atI_nat (j := 1) rfl) ⟨_, _, rfl, rfl, ?_⟩)))))
  refine a_cons (e_xfV (cn := "Full") (f := "limit") hv (g "Full" (by simp [errNs])) ⟨(EC.one ("Full", "limit") (by simp [ones])).ga, (EC.one ("Full", "limit") (by simp [ones])).gg, (EC.one ("Full", "limit") (by simp [ones])).exC, (EC.one ("Full", "limit") (by simp [ones])).hdC⟩ (EC.one ("Full", "limit") (by simp [ones])).noN (e_ix (e_var 0 rfl (e_int (x_lst rfl (L2.atI_nat (j := 2) rfl) ⟨_, _, rfl, rfl, ?_⟩)))))
  refine a_cons (e_xfV (cn := "NoEntry") (f := "entry") hv (g "NoEntry" (by simp [errNs])) ⟨(EC.one ("NoEntry", "entry") (by simp [ones])).ga, (EC.one ("NoEntry", "entry") (by simp [ones])).gg, (EC.one ("NoEntry", "entry") (by simp [ones])).exC, (EC.one ("NoEntry", "entry") (by simp [ones])).hdC⟩ (EC.one ("NoEntry", "entry") (by simp [ones])).noN (e_ix (e_var 0 rfl (e_int (x_lst rfl (L2.atI_nat (j := 3) rfl) ⟨_, _, rfl, rfl, ?_⟩)))))
  refine a_cons (e_xfV (cn := "There") (f := "name") hv (g "There" (by simp [errNs])) ⟨(EC.one ("There", "name") (by simp [ones])).ga, (EC.one ("There", "name") (by simp [ones])).gg, (EC.one ("There", "name") (by simp [ones])).exC, (EC.one ("There", "name") (by simp [ones])).hdC⟩ (EC.one ("There", "name") (by simp [ones])).noN (e_ix (e_var 0 rfl (e_int (x_lst rfl (L2.atI_nat (j := 4) rfl) ⟨_, _, rfl, rfl, ?_⟩)))))
  refine a_cons (e_xfV (cn := "TooMany") (f := "limit") hv (g "TooMany" (by simp [errNs])) ⟨(EC.one ("TooMany", "limit") (by simp [ones])).ga, (EC.one ("TooMany", "limit") (by simp [ones])).gg, (EC.one ("TooMany", "limit") (by simp [ones])).exC, (EC.one ("TooMany", "limit") (by simp [ones])).hdC⟩ (EC.one ("TooMany", "limit") (by simp [ones])).noN (e_ix (e_var 0 rfl (e_int (x_lst rfl (L2.atI_nat (j := 5) rfl) ⟨_, _, rfl, rfl, ?_⟩)))))
  refine a_cons (e_xfV (cn := "BadFacts") (f := "name") hv (g "BadFacts" (by simp [errNs])) ⟨(EC.one ("BadFacts", "name") (by simp [ones])).ga, (EC.one ("BadFacts", "name") (by simp [ones])).gg, (EC.one ("BadFacts", "name") (by simp [ones])).exC, (EC.one ("BadFacts", "name") (by simp [ones])).hdC⟩ (EC.one ("BadFacts", "name") (by simp [ones])).noN (e_ix (e_var 0 rfl (e_int (x_lst rfl (L2.atI_nat (j := 6) rfl) ⟨_, _, rfl, rfl, ?_⟩)))))
  refine a_nil ⟨sz (Nat.le_of_ble_eq_true rfl), ?_⟩
  refine b_set 1 (e_bin (e_var 1 rfl (e_lst ?_)))
  refine a_cons (e_xfV (cn := "NoAnswer") (f := "answer") hv (g "NoAnswer" (by simp [errNs])) ⟨(EC.one ("NoAnswer", "answer") (by simp [ones])).ga, (EC.one ("NoAnswer", "answer") (by simp [ones])).gg, (EC.one ("NoAnswer", "answer") (by simp [ones])).exC, (EC.one ("NoAnswer", "answer") (by simp [ones])).hdC⟩ (EC.one ("NoAnswer", "answer") (by simp [ones])).noN (e_ix (e_var 0 rfl (e_int (x_lst rfl (L2.atI_nat (j := 7) rfl) ⟨_, _, rfl, rfl, ?_⟩)))))
  refine a_cons (e_xfV (cn := "NoHouse") (f := "house") hv (g "NoHouse" (by simp [errNs])) ⟨(EC.one ("NoHouse", "house") (by simp [ones])).ga, (EC.one ("NoHouse", "house") (by simp [ones])).gg, (EC.one ("NoHouse", "house") (by simp [ones])).exC, (EC.one ("NoHouse", "house") (by simp [ones])).hdC⟩ (EC.one ("NoHouse", "house") (by simp [ones])).noN (e_ix (e_var 0 rfl (e_int (x_lst rfl (L2.atI_nat (j := 8) rfl) ⟨_, _, rfl, rfl, ?_⟩)))))
  refine a_cons (e_xfV (cn := "BadChange") (f := "at") hv (g "BadChange" (by simp [errNs])) ⟨(EC.one ("BadChange", "at") (by simp [ones])).ga, (EC.one ("BadChange", "at") (by simp [ones])).gg, (EC.one ("BadChange", "at") (by simp [ones])).exC, (EC.one ("BadChange", "at") (by simp [ones])).hdC⟩ (EC.one ("BadChange", "at") (by simp [ones])).noN (e_ix (e_var 0 rfl (e_int (x_lst rfl (L2.atI_nat (j := 9) rfl) ⟨_, _, rfl, rfl, ?_⟩)))))
  refine a_cons (e_xfV (cn := "NoAsk") (f := "at") hv (g "NoAsk" (by simp [errNs])) ⟨(EC.one ("NoAsk", "at") (by simp [ones])).ga, (EC.one ("NoAsk", "at") (by simp [ones])).gg, (EC.one ("NoAsk", "at") (by simp [ones])).exC, (EC.one ("NoAsk", "at") (by simp [ones])).hdC⟩ (EC.one ("NoAsk", "at") (by simp [ones])).noN (e_ix (e_var 0 rfl (e_int (x_lst rfl (L2.atI_nat (j := 10) rfl) ⟨_, _, rfl, rfl, ?_⟩)))))
  refine a_cons (e_xfV (cn := "Broken") (f := "at") hv (g "Broken" (by simp [errNs])) ⟨(EC.one ("Broken", "at") (by simp [ones])).ga, (EC.one ("Broken", "at") (by simp [ones])).gg, (EC.one ("Broken", "at") (by simp [ones])).exC, (EC.one ("Broken", "at") (by simp [ones])).hdC⟩ (EC.one ("Broken", "at") (by simp [ones])).noN (e_ix (e_var 0 rfl (e_int (x_lst rfl (L2.atI_nat (j := 11) rfl) ⟨_, _, rfl, rfl, ?_⟩)))))
  refine a_nil ⟨sz (Nat.le_of_ble_eq_true rfl), o_addL rfl rfl (sz (Nat.le_of_ble_eq_true rfl)) (.l ?_)⟩
  refine b_ret (e_bin (e_var 1 rfl (e_lst ?_)))
  refine a_cons (e_xfV (cn := "Hopeless") (f := "many") hv (g "Hopeless" (by simp [errNs])) ⟨EC.hop.ga, EC.hop.gg, EC.hop.exC, EC.hop.hdC⟩ EC.hop.n1 (e_ix (e_var 0 rfl (e_int (x_lst rfl (L2.atI_nat (j := 12) rfl) ⟨_, _, rfl, rfl, ?_⟩)))))
  refine a_cons (e_xfV (cn := "Hopeless") (f := "demand") hv (g "Hopeless" (by simp [errNs])) ⟨EC.hop.ga, EC.hop.gg, EC.hop.exC, EC.hop.hdC⟩ EC.hop.n2 (e_ix (e_var 0 rfl (e_int (x_lst rfl (L2.atI_nat (j := 12) rfl) ⟨_, _, rfl, rfl, ?_⟩)))))
  refine a_cons (e_xfV (cn := "Hopeless") (f := "answer") hv (g "Hopeless" (by simp [errNs])) ⟨EC.hop.ga, EC.hop.gg, EC.hop.exC, EC.hop.hdC⟩ EC.hop.n3 (e_ix (e_var 0 rfl (e_int (x_lst rfl (L2.atI_nat (j := 12) rfl) ⟨_, _, rfl, rfl, ?_⟩)))))
  refine a_nil ⟨sz (Nat.le_of_ble_eq_true rfl), o_addL rfl rfl (sz (Nat.le_of_ble_eq_true rfl)) (.l ?_)⟩
  exact rt q
end
end Lm

/-! set(tuple of names), by gen27.py. -/
namespace Me
open PySem PySem.Spec PyProof.Rows L2
section
variable {P : Program} {w : World} {A : Around} {E : Value → Shared → Prop} {s : Shared}
end
end Me

/-! Me52: len(set(x)) of a tuple of names; C(e, .., k = v) with the rest of the keywords by default. -/
namespace Me
open PySem PySem.Spec PyProof.Rows L2
section
variable {S : Sc} {env : En} {μ : Mu} {e : Expr} {P : KD} {p p2 q pos : Pos}
end
/-! ### C(e, .., k = v, ..) with defaults -/
structure MakKD (P : Program) (w : World) (K : PySem.W.Frag) (mg : Str → Option Value) (base : Heap) (Γ : Gam) (k : Nat) (c : String) (x : Str) (n : Nat) (ks : List Str) (ds0 : List D) (C : Ct) : Prop where
  ex : ∃ Ca f fd ps g gV vs0, Γ.cls c = some Ca ∧ Mk K Ca f ∧ mg x = some (.ref Ca) ∧ Gd.FnG P w K mg base (L2.CX P w) k f fd ps (spM Γ C) ∧ KBn K fd ps (n + 1) ks g gV ∧ (∀ vs zs : List V, vs.length = n + 1 → zs.length = ks.length → gV vs zs = vs ++ (zs ++ vs0)) ∧ ∀ F as, DVs Γ F as vs0 ds0
section
variable {S : Sc} {env : En} {μ : Mu} {a b e o : Expr} {es : List Expr} {kws : List Keyword} {pos p0 kpos : Pos} {x f : Str} {nm : Option Str} {c : String} {P : KD} {k n : Nat} {C : Ct} {ks : List Str} {ds0 : List D}
end
end Me

/-! Me53: sets of texts; sorted(set(texts)). -/
namespace Me
open PySem PySem.Spec PyProof.Rows L2
section
variable {P : Program} {w : World} {A : Around} {E : Value → Shared → Prop} {s : Shared} {h : Heap} {a : Addr} {l : List Str}
/-- what the first i texts have brought -/
structure Fed (xs : List Str) (i : Nat) (l : List Str) : Prop where
  mem : ∀ x, x ∈ l ↔ x ∈ xs.take i
  nd : l.Nodup
  len : l.length ≤ i
theorem Fed.next {xs l : List Str} {i : Nat} {x : Str} (g : Fed xs i l) (h : xs[i]? = some x) : Fed xs (i + 1) (if x ∈ l then l else x :: l) := by
  refine ⟨fun y => ?_, ?_, ?_⟩
  · rw [take_one h, List.mem_append, List.mem_singleton, ← g.mem]
    split
    · rename_i hx
      exact ⟨.inl, fun z => z.elim id fun e => e ▸ hx⟩
    · rw [List.mem_cons]
      exact Or.comm
  · split
    · exact g.nd
    · rename_i hx
      exact List.nodup_cons.mpr ⟨hx, g.nd⟩
  · split
    · exact Nat.le_succ_of_le g.len
    · exact Nat.succ_le_succ g.len
end
/-! ### texts ascending -/
abbrev strsD (xs : List Str) : List D := xs.map D.str
def sle (a b : Str) : Bool := decide (a.cps.toList ≤ b.cps.toList)
def slt (a b : Str) : Prop := a.cps.toList < b.cps.toList
def ascS (xs : List Str) : List Str := xs.mergeSort sle
section
variable {S : Sc} {env : En} {μ : Mu} {e : Expr} {P : KD} {p p2 q pos q2 : Pos}
end
end Me

/-! Me54: targets within targets; enumerate, zip, items; a dict made to be walked. -/
namespace Me
open PySem PySem.Spec PyProof.Rows L2
section
variable {S : Sc} {env : En} {μ : Mu} {e e2 iter tg : Expr} {P : KD} {PI : KI} {p pos tpos q0 : Pos} {x y z : Str} {d : D}
/-! ### targets -/
/-- (x, (y, z)) -/
def rNest (i j l : Nat) : D → En → En → Prop := fun d env env' => ∃ d1 d2 d3, d = .tup [d1, .tup [d2, d3]] ∧ env' = ((env.set i (some d1)).set j (some d2)).set l (some d3)
/-- ((x, y), z) -/
def rNestL (i j l : Nat) : D → En → En → Prop := fun d env env' => ∃ d1 d2 d3, d = .tup [.tup [d1, d2], d3] ∧ env' = ((env.set i (some d1)).set j (some d2)).set l (some d3)
/-! ### walks whose items are new pairs -/
def enumD (ds : List D) : List D := ds.mapIdx fun i d => .tup [.int (i : Int), d]
def zipD (ds es : List D) : List D := List.zipWith (fun a b => .tup [a, b]) ds es
end
end Me

/-! Me55: cells that are dicts by nested keys (None, tuples): {k: v}, k in d, d[k], d[k] = v. -/
namespace Me
open PySem PySem.Spec PyProof.Rows L2
section
variable {prog : Program} {w : World} {A : Around} {E : Value → Shared → Prop} {s : Shared} {d : Addr} {xs : List NEt} {k : NestedKey} {kv : Value}
theorem DictN.typeIs (hm : DictN w s.heap d xs) : s.TypeIs (.ref d) "dict" := let ⟨o, _, _, ho, hc, _⟩ := hm; ⟨o, ho, hc.1⟩
end
mutual
def nk : D → Option NestedKey
  | .non => some .none
  | .bl b => some (.num (if b = true then 1 else 0))
  | .int i => some (.num i)
  | .str x => some (.text x)
  | .tup ds => (nks ds).map .tup
  | _ => none
def nks : List D → Option (List NestedKey)
  | [] => some []
  | d :: ds => match nk d, nks ds with
    | some k, some ks => some (k :: ks)
    | _, _ => none
end
mutual
theorem DV.nk {Γ : Gam} {F : Hp} {as : List Ad} : ∀ {v : V} {d : D} {k : NestedKey}, DV Γ F as v d → Me.nk d = some k → NkV F k v
  | _, _, k, .non, h => by cases h; exact .none
  | _, _, k, .bl b, h => by cases h; exact .bool b
  | _, _, k, .int i, h => by cases h; exact .int i
  | _, _, k, .str x, h => by cases h; exact .text x
  | _, _, k, .tup h1 h2, h => by
    rw [Me.nk] at h
    obtain ⟨ks, e, rfl⟩ := Option.map_eq_some_iff.mp h
    exact .tup h1 (DVs.nks h2 e)
  | _, _, k, .lst _ _, h => by simp [Me.nk] at h
  | _, _, k, .dctK _ _, h => by simp [Me.nk] at h
  | _, _, k, .dctT _ _, h => by simp [Me.nk] at h
  | _, _, k, .ins _ _ _, h => by simp [Me.nk] at h
  | _, _, k, .err0 _ _, h => by simp [Me.nk] at h
  | _, _, k, .err1 _ _ _ _, h => by simp [Me.nk] at h
  | _, _, k, .err2 _ _ _, h => by simp [Me.nk] at h
  | _, _, k, .err3 _ _ _ _ _, h => by simp [Me.nk] at h
  | _, _, k, .ty _, h => by simp [Me.nk] at h
  | _, _, k, .cls _, h => by simp [Me.nk] at h
  | _, _, k, .cell _, h => by simp [Me.nk] at h
  | _, _, k, .tpx _ _, h => by simp [Me.nk] at h
theorem DVs.nks {Γ : Gam} {F : Hp} {as : List Ad} : ∀ {vs : List V} {ds : List D} {ks : List NestedKey}, DVs Γ F as vs ds → Me.nks ds = some ks → NkVs F ks vs
  | _, _, ks, .nil, h => by cases h; exact .nil
  | _, _, ks, .cons (d := d) (ds := ds) h1 h2, h => by
    rw [Me.nks] at h
    split at h
    · rename_i k' ks' e1 e2
      cases h
      exact .cons (DV.nk h1 e1) (DVs.nks h2 e2)
    · exact nomatch h
end
mutual
theorem NkV.at {P : Program} {w : World} {F H : Hp} {h : Heap} (ok : HOk P w H h) (sF : Same F H) : ∀ {k : NestedKey} {v : V} {u : Value}, NkV F k v → RelV v u → NestedIs h k u
  | _, _, u, .none, r => by cases r; exact .none
  | _, _, u, .bool b, r => by cases r; exact .bool rfl
  | _, _, u, .int i, r => by obtain ⟨t, rfl⟩ := r; exact .int i t
  | _, _, u, .text x, r => by obtain ⟨t, rfl⟩ := r; exact .text x t
  | _, _, u, .tup (a := a) h1 h2, r => by
    cases r
    obtain ⟨_, its, rel, o, ho, hc, n, hd⟩ := ok a _ (sF _ _ h1)
    exact .tup ho hc hd (NkVs.at ok sF h2 (by simpa using rel))
theorem NkVs.at {P : Program} {w : World} {F H : Hp} {h : Heap} (ok : HOk P w H h) (sF : Same F H) : ∀ {ks : List NestedKey} {vs : List V} {us : List Value}, NkVs F ks vs → Vals vs us → NestedAll h ks us
  | _, _, us, .nil, r => by cases r; exact .nil
  | _, _, us, .cons h1 h2, r => by
    cases r with
    | cons r1 r2 => exact .cons (NkV.at ok sF h1 r1) (NkVs.at ok sF h2 r2)
end
/-- the numbers by keys -/
def gval (kvs : List (NestedKey × Int)) (k : NestedKey) : Option Int := (kvs.find? fun p => decide (p.1 = k)).map (·.2)
def gput (kvs : List (NestedKey × Int)) (k : NestedKey) (i : Int) : List (NestedKey × Int) := if (gval kvs k).isSome then kvs.map (fun p => if p.1 = k then (p.1, i) else p) else kvs ++ [(k, i)]
abbrev relN (x : NV) (u : NEt) : Prop := x.1 = u.1 ∧ RelV x.2.1 u.2.1 ∧ RelV (.int x.2.2) u.2.2
def putV (xs : List NV) (k : NestedKey) (v : V) (i : Int) : List NV := if (gval (xs.map fun x => (x.1, x.2.2)) k).isSome then xs.map (fun x => if x.1 = k then (x.1, x.2.1, i) else x) else xs ++ [(k, v, i)]
theorem gval_mem {kvs : List (NestedKey × Int)} {k : NestedKey} (h : ¬ (gval kvs k).isSome = true) : k ∉ kvs.map (·.1) := fun hm => by
  obtain ⟨p, hp, e⟩ := List.mem_map.mp hm
  refine h ?_
  unfold gval
  rw [Option.isSome_map, List.find?_isSome]
  exact ⟨p, hp, by simp [e]⟩
theorem GKeys.put {F : Hp} {xs : List NV} {k : NestedKey} {v : V} {i : Int} (g : GKeys F xs) (h : NkV F k v) (hh : hdK k = true) (hd : k.depth ≤ 8) : GKeys F (putV xs k v i) := by
  unfold putV
  split
  · refine ⟨fun x hx => ?_, ?_⟩
    · obtain ⟨y, hy, rfl⟩ := List.mem_map.mp hx
      have := g.key y hy
      split <;> exact this
    · have : (xs.map fun x => if x.1 = k then (x.1, x.2.1, i) else x).map (·.1) = xs.map (·.1) := by
        rw [List.map_map]
        refine List.map_congr_left fun x _ => ?_
        simp only [Function.comp]
        split <;> rfl
      rw [this]; exact g.nd
  · rename_i hn
    refine ⟨fun x hx => ?_, ?_⟩
    · rcases List.mem_append.mp hx with z | z
      · exact g.key x z
      · rw [List.mem_singleton.mp z]; exact ⟨h, hh, hd⟩
    · rw [List.map_append, List.nodup_append]
      refine ⟨g.nd, by simp, fun x hx y hy => ?_⟩
      obtain rfl : y = k := by simpa using hy
      have := gval_mem hn
      rw [List.map_map] at this
      exact fun e => this (e ▸ hx)
theorem DictN.stay {w : World} {h h' : Heap} {a : Addr} {us : List NEt} (m : DictN w h a us) (k : ∀ o, h.get? a = some o → h'.get? a = some o) : DictN w h' a us := by
  obtain ⟨o, es, ep, ho, r⟩ := m
  exact ⟨o, es, ep, k _ ho, r⟩
structure GdAt (S : Sc) (F H : Hp) (h : Heap) (a : Addr) (kvs : List (NestedKey × Int)) (xs : List NV) (us : List NEt) : Prop where
  hH : H a = some (GDo S.X.w a xs)
  gk : GKeys F xs
  eq : xs.map (fun x => (x.1, x.2.2)) = kvs
  sy : (a == sysModules) = false
  m : DictN S.X.w h a us
  r : Paired relN xs us
  ak : AllKey h us
section
variable {S : Sc} {env : En} {μ : Mu} {P : KD} {d d1 d2 d3 : D} {kvs : List (NestedKey × Int)} {k : NestedKey} {pos : Pos} {m : Nat}
end
end Me

/-! Me56: the comprehension of a set of texts with two clauses. -/
namespace Me
open PySem PySem.Spec PyProof.Rows L2
section
variable {prog : Program} {w : World} {A : Around} {R : Result → Shared → Prop} {s : Shared} {kx t0 i0 t1 i1 : Expr} {ifs0 ifs1 : List Expr} {scope : Scope} {pos : Pos} {it acc : Value} {D0 : Addr} {env : Env}
end
section
variable {X : Cx} {pins : List (Addr × Obj)} {σ : L2.St} {H : Hp} {s : Shared}
end
section
variable {X : Cx}
def tSc2 (P : Program) (w : World) (wi : TI) (g : TG) (tt : TT) (wi1 : TI) (g1 : TG) (tt1 : TT) (te : TE) (vs vs1 : List Nat) : TE := fun σ H Q => wi σ H fun J H1 => ∀ D0, H1 D0 = none → ∃ Y : Nat → Nat → Hp → Prop, (∃ m, Y 0 m (upd H1 D0 (TSo P w D0 []))) ∧ ∀ i m H, Y i m H →
  (J.stop i H ∧ Q (.ref D0) H) ∨ (J.go i H ∧ ∃ Nx : Hp → Prop, (∀ H', Nx H' → ∃ m', m' < m ∧ Y (i + 1) m' H') ∧ ∀ x H', J.yld i H x H' → g x (wipe σ vs) H' fun σ2 H2 => wipe σ2 vs = wipe σ vs ∧ tt σ2 H2 fun b H3 =>
    if b = true then wi1 σ2 H3 fun J1 H4 => ∃ Y1 : Nat → Nat → Hp → Prop, (∃ m, Y1 0 m H4) ∧ ∀ j k H, Y1 j k H →
      (J1.stop j H ∧ Nx H) ∨ (J1.go j H ∧ ∃ Nx1 : Hp → Prop, (∀ H', Nx1 H' → ∃ k', k' < k ∧ Y1 (j + 1) k' H') ∧ ∀ x H', J1.yld j H x H' → g1 x (wipe σ2 vs1) H' fun σ3 H5 => wipe σ3 vs1 = wipe σ2 vs1 ∧ tt1 σ3 H5 fun b H6 =>
        if b = true then te σ3 H6 fun y H7 => ∃ (k : Str) (l : List Str), y = .str k ∧ H7 D0 = some (TSo P w D0 l) ∧ l.length < 4000 ∧ Nx1 (upd H7 D0 (TSo P w D0 (if k ∈ l then l else k :: l))) else Nx1 H6)
    else Nx H3)
end
end Me

/-! Me57: {e for x in xs for y in ys}, texts; sorted of it. -/
namespace Me
open PySem PySem.Spec PyProof.Rows L2
section
variable {S : Sc} {env : En} {μ : Mu} {kx tg iter tg1 iter1 : Expr} {ifs ifs1 : List Expr} {pos p1 p2 : Pos} {x y : Str} {scope : Scope} {P : KD}
/-- the inner walk; the new dict is the cell n0 -/
structure CmpI (S : Sc) (scope : Scope) (rel1 : D → En → En → Prop) (vs1 : List Nat) (kx : Expr) (ifs1 : List Expr) (env2 : En) (n0 : Nat) (J : Nat → Mu → Prop) (ds1 : List D) (Sx1 : Mu → Prop) (m0 : Mu) (Dn : Mu → Prop) : Prop where
  start : J 0 m0
  stay : ∀ j m, J j m → Sx1 m
  turn : ∀ j d m, ds1[j]? = some d → J j m → ∃ env3 PB, rel1 d (wipeE env2 vs1) env3 ∧ AllB S scope (fun S' => Ts S' ifs1 env3 m PB) ∧
    ∀ q m1, PB q m1 → (q = true → AllB S scope fun S' => E S' kx env3 m1 fun dk m2 => ∃ (x : Str) (acc : List Str), dk = .str x ∧ m2[n0]? = some (.ts S.X.prog S.X.w acc) ∧ acc.length < 4000 ∧ J (j + 1) (m2.set n0 (.ts S.X.prog S.X.w (if x ∈ acc then acc else x :: acc)))) ∧ (q = false → J (j + 1) m1)
  done : ∀ m, J ds1.length m → Dn m
structure CmpO (S : Sc) (scope : Scope) (rel rel1 : D → En → En → Prop) (vs vs1 : List Nat) (kx tg1 iter1 : Expr) (ifs ifs1 : List Expr) (env : En) (n0 : Nat) (I : Nat → Mu → Prop) (ds : List D) (Sx : Mu → Prop) (m0 : Mu) (fin : Mu → Prop) : Prop where
  start : I 0 m0
  stay : ∀ k m, I k m → Sx m
  turn : ∀ k d m, ds[k]? = some d → I k m → ∃ env2 PB, rel d (wipeE env vs) env2 ∧ AllB S scope (fun S' => Ts S' ifs env2 m PB) ∧
    ∀ q m1, PB q m1 → (q = true → ∃ PI, AllB S scope (fun S' => Iter S' tg1 iter1 env2 m1 PI) ∧ ∀ ds1 Sx1 m2, PI ds1 Sx1 m2 → ∃ J, CmpI S scope rel1 vs1 kx ifs1 env2 n0 J ds1 Sx1 m2 (I (k + 1))) ∧ (q = false → I (k + 1) m1)
  done : ∀ m, I ds.length m → fin m
/-! ### nothing else changes -/
def insT (l : List Str) (x : Str) : List Str := if x ∈ l then l else x :: l
def insA (xs : List Str) : List Str := xs.foldl insT []
abbrev scW (S : Sc) (μ : Mu) (xs : List Str) : Mu := μ ++ [.ts S.X.prog S.X.w (insA xs)]
end
end Me

/-! Me58: a walk over a fresh dict, list(dict by plain keys), t[::-1], t.index(x), t * 0, t * 1. -/
namespace RvT
open PySem PySem.Spec PyProof.Rows L2 HT
section
variable {prog : Program} {w : World} {A : Around} {E : Value → Shared → Prop} {s : Shared}
end
end RvT
namespace Me
open PySem PySem.Spec PyProof.Rows L2
section
variable {S : Sc} {env : En} {μ : Mu} {e iter tg o a b : Expr} {pos p p1 p2 p3 apos cpos : Pos} {P : KD} {PI : KI} {d x : D} {ds : List D} {kk : Nat}
/-! ### a tuple of texts whose object is known -/
theorem Wd.tpx {Γ : Gam} {F H : Hp} {as : List Ad} {v : V} {xs : List Str} (W : Wd Γ F H as μ) (r : DV Γ F as v (.tpx xs)) : ∃ a od, v = .ref a ∧ H a = some (.frz od (.tup (xs.map V.str))) ∧ od.dict = none := by
  cases r with
  | tpx h1 h2 => exact ⟨_, _, rfl, W.sub _ _ h1, h2⟩
end
end Me

/-! Me59: a cell is returned, the cells ahead of it dropped. -/
namespace Me
open PySem PySem.Spec PyProof.Rows L2
section
variable {Γ : Gam} {F H : Hp} {as : List Ad} {μ μ0 ext : Mu} {j : Nat} {c : Cell} {P : KD}
theorem pick_at {α : Type} {l : List α} {n j i : Nat} {x y : α} (hx : l[j]? = some x) (h : (l.take n ++ [x])[i]? = some y) (hn : n ≤ l.length) : (i < n ∧ l[i]? = some y) ∨ (i = n ∧ y = x) := by
  have hl : (l.take n).length = n := by rw [List.length_take]; omega
  by_cases hi : i < n
  · rw [List.getElem?_append_left (by omega), List.getElem?_take, if_pos hi] at h
    exact .inl ⟨hi, h⟩
  · rw [List.getElem?_append_right (by omega), hl] at h
    have : i - n = 0 := by
      have := (List.getElem?_eq_some_iff.mp h).1
      simp at this
      omega
    rw [this] at h
    simp at h
    exact .inr ⟨by omega, h.symm⟩
theorem Wd.pick {ad : Ad} (W : Wd Γ F H as (μ0 ++ ext)) (lo : Low μ0) (hj : (μ0 ++ ext)[j]? = some c) (hn : μ0.length ≤ j) (ha : as[j]? = some ad) (hc : ∀ i ∈ c.refs, i < μ0.length) : Wd Γ F H (as.take μ0.length ++ [ad]) (μ0 ++ [c]) := by
  have hlen := W.len
  have hj' := (List.getElem?_eq_some_iff.mp hj).1
  have hle : μ0.length ≤ as.length := by rw [hlen, List.length_append]; omega
  have sub : (as.take μ0.length ++ [ad]).Sublist as := by
    have e : as = as.take μ0.length ++ as.drop μ0.length := (List.take_append_drop _ _).symm
    have h2 : [ad].Sublist (as.drop μ0.length) := by
      rw [List.singleton_sublist]
      refine List.mem_of_getElem? (i := j - μ0.length) ?_
      rw [List.getElem?_drop, show μ0.length + (j - μ0.length) = j by omega]
      exact ha
    conv => rhs; rw [e]
    exact (List.Sublist.refl _).append h2
  have kp : ∀ i, i < μ0.length → ∀ b, as[i]? = some b → (as.take μ0.length ++ [ad])[i]? = some b := fun i hi b z => by
    rw [List.getElem?_append_left (by rw [List.length_take]; omega), List.getElem?_take, if_pos hi]
    exact z
  refine ⟨W.sub, (sub.map Ad.a).nodup W.nd, by simp; omega, fun i b c' hb hc' => ?_, fun b hb => W.seen b (sub.subset hb)⟩
  rcases pick_at ha hb hle with ⟨h1, h2⟩ | ⟨rfl, rfl⟩
  · rw [List.getElem?_append_left h1] at hc'
    exact (W.ok i b c' h2 (by rw [List.getElem?_append_left h1]; exact hc')).go (Same.refl F) (fun z => z) (fun o z => z) fun q hq b z => kp q (lo i c' hc' q hq) b z
  · have : c' = c := by simpa using hc'.symm
    subst this
    exact (W.ok j b c' ha hj).go (Same.refl F) (fun z => z) (fun o z => z) fun q hq b z => kp q (hc q hq) b z
theorem rt_pick (hj : (μ0 ++ ext)[j]? = some c) (hn : μ0.length ≤ j) (hc : ∀ i ∈ c.refs, i < μ0.length) (h : P (.cell μ0.length) (μ0 ++ [c])) : Rt Γ μ0 P (.cell j) (μ0 ++ ext) := fun lo => by
  refine ⟨.cell μ0.length, μ0 ++ [c], fun F H as v W r hl => ?_, h⟩
  cases r with
  | @cell _ ad ha =>
    have h0 : (as.take μ0.length).length = μ0.length := by rw [List.length_take]; omega
    refine ⟨F, as.take μ0.length ++ [ad], W.pick lo hj hn ha hc, .cell (by rw [List.getElem?_append_right (by omega), h0, Nat.sub_self]; rfl), Same.refl F, fun a q q' => absurd q q', [ad], rfl, fun b hb => ?_⟩
    obtain rfl := List.mem_singleton.mp hb
    refine List.mem_of_getElem? (i := j - μ0.length) ?_
    rw [List.getElem?_drop, show μ0.length + (j - μ0.length) = j by omega]
    exact ha
end
end Me

set_option maxHeartbeats 4000000
namespace Lm
open PySem PySem.Spec PyProof.Rows L2 Me
theorem rt_pickB {Γ : Gam} {μ0 μ1 ext : Mu} {j : Nat} {c : Cell} {P : KD} (hl : μ1.length = μ0.length) (lo : Low μ0 → Low μ1) (hj : (μ1 ++ ext)[j]? = some c) (hn : μ1.length ≤ j) (hc : ∀ i ∈ c.refs, i < μ1.length) (h : P (.cell μ1.length) (μ1 ++ [c])) : Rt Γ μ0 P (.cell j) (μ1 ++ ext) := fun l => by
  obtain ⟨d', m', sh, p⟩ := rt_pick (Γ := Γ) (P := P) (μ0 := μ1) hj hn hc h (lo l)
  exact ⟨d', m', hl ▸ sh, p⟩
def flatVs : List D := [.non, .bl true, .int 0, .int (10 ^ 39), .str "a", .tup [], .tup [.str "a", .str "b"], .int (-1)]
/-- a cell that a drawn value may be -/
def CellV (c : Cell) : Prop := c = .dct false none [] ∨ ∃ i : Int, 0 ≤ i ∧ i < 9 ∧ c = .lst [.int i]
def CValue : Ct := fun args μ P _ => ∃ (s : Bag) (m : Mu), args = [.cell 0] ∧ μ = bagC s :: m ∧ Good s ∧ (∀ s' v, Good s' → v ∈ flatVs → P v (bagC s' :: m)) ∧ ∀ s' c, Good s' → CellV c → P (.cell (m.length + 1)) (bagC s' :: (m ++ [c]))
section
local macro_rules | `(tactic| walk_at "ev") => `(tactic| first
  | refine e_var 0 rfl ?_ | refine e_var 1 rfl ?_ | refine e_var 2 rfl ?_ | refine e_var 3 rfl ?_ | refine e_var 4 rfl ?_ | refine e_var 5 rfl ?_ | refine e_var 6 rfl ?_ | refine e_var 7 rfl ?_ | refine e_var 8 rfl ?_ | refine e_var 9 rfl ?_
  | refine e_var 10 rfl ?_ | refine e_var 11 rfl ?_ | refine e_var 12 rfl ?_ | refine e_var 13 rfl ?_ | refine e_var 14 rfl ?_ | refine e_var 15 rfl ?_ | refine e_var 16 rfl ?_ | refine e_var 17 rfl ?_ | refine e_var 18 rfl ?_ | refine e_var 19 rfl ?_ | refine e_var 20 rfl ?_)
local macro_rules | `(tactic| walk_at "ec") => `(tactic| first
  | refine k_len ?_ | refine k_int ?_ | refine k_tuple ?_ | refine k_list ?_ | refine k_repr ?_ | refine k_sorted ?_ | refine k_dict ?_ | refine k_all ?_ | refine k_min ?_ | refine k_abs ?_ | refine k_isinstance ?_)
local macro_rules | `(tactic| walk_at "ee") => `(tactic| first
  | ((with_reducible show Me.E _ (Expr.Name _ _) _ _ _); walk_at "ev")
  | ((with_reducible show Me.E _ (Expr.Constant _ _ _) _ _ _); first | refine e_int ?_ | refine e_str ?_ | refine e_bl ?_ | refine e_non ?_)
  | ((with_reducible show Me.E _ (Expr.BinOp _ _ _ _) _ _ _); refine e_bin ?_)
  | ((with_reducible show Me.E _ (Expr.Compare _ _ _ _) _ _ _); refine e_cmp ?_)
  | ((with_reducible show Me.E _ (Expr.Subscript _ (Expr.Slice _ _ _ _) _) _ _ _); refine e_sl ?_)
  | ((with_reducible show Me.E _ (Expr.Subscript _ _ _) _ _ _); refine e_ix ?_)
  | ((with_reducible show Me.E _ (Expr.Tuple _ _ _) _ _ _); refine e_tup ?_)
  | ((with_reducible show Me.E _ (Expr.UnaryOp UnaryOp.Not _ _) _ _ _); refine e_not ?_)
  | ((with_reducible show Me.E _ (Expr.UnaryOp _ _ _) _ _ _); refine e_un ?_)
  | ((with_reducible show Me.E _ (Expr.IfExp _ _ _ _) _ _ _); refine e_ite ?_)
  | ((with_reducible show Me.E _ (Expr.BoolOp _ _ _) _ _ _); first | refine e_one ?_ | refine e_and ?_ | refine e_or ?_)
  | ((with_reducible show Me.E _ (Expr.Call (Expr.Name _ _) _ _ _) _ _ _); walk_at "ec"))
local macro_rules | `(tactic| walk_at "bb") => `(tactic| first
  | refine b_nil ?_ | refine b_ret ?_ | refine b_setIx ?_ | refine b_expr ?_
  | refine b_set 0 ?_ | refine b_set 1 ?_ | refine b_set 2 ?_ | refine b_set 3 ?_ | refine b_set 4 ?_ | refine b_set 5 ?_ | refine b_set 6 ?_ | refine b_set 7 ?_ | refine b_set 8 ?_ | refine b_set 9 ?_ | refine b_set 10 ?_ | refine b_set 11 ?_ | refine b_set 12 ?_ | refine b_set 13 ?_ | refine b_set 14 ?_ | refine b_set 15 ?_ | refine b_set 16 ?_ | refine b_set 17 ?_ | refine b_set 18 ?_)
local macro_rules | `(tactic| walk_at "oo") => `(tactic| first
  | ((with_reducible show Op2 _ (binaryOp _) _ _ _ _ _); first
    | (with_reducible refine o_add ?_) | (with_reducible refine o_sub ?_)
    | ((with_reducible show Op2 _ (binaryOp Operator.Mod) (D.int _) (D.int _) _ _ _); refine o_mod (by first | decide | assumption | omega) ?_)
    | ((with_reducible show Op2 _ (binaryOp Operator.FloorDiv) (D.int _) (D.int _) _ _ _); refine o_fdiv (by first | decide | assumption | omega) ?_)
    | ((with_reducible show Op2 _ (binaryOp Operator.Mult) (D.int _) (D.int _) _ _ _); first | refine o_mul (Or.inr ⟨by decide, by decide⟩) ?_ | refine o_mul (Or.inl ⟨by decide, by decide⟩) ?_))
  | ((with_reducible show Op2 _ (compareOp _) _ _ _ _ _); first
    | (with_reducible refine o_lt ?_) | (with_reducible refine o_le ?_) | (with_reducible refine o_gt ?_) | (with_reducible refine o_ge ?_) | (with_reducible refine o_eqI ?_) | (with_reducible refine o_neI ?_) | (with_reducible refine o_eqS ?_) | (with_reducible refine o_neS ?_) | (with_reducible refine o_isN ?_) | (with_reducible refine o_isntN ?_))
  | (with_reducible refine o_neg ?_)
  | ((with_reducible show Cl _ (Value.type "int") _ _ _ _); refine c_int ?_)
  | ((with_reducible show Cl _ (Value.builtin "len") _ _ _ _); first | (with_reducible refine c_lenN ?_) | (with_reducible refine c_lenT ?_) | refine c_lenL rfl ?_)
  | ((with_reducible show Ix2 _ (D.tup _) _ _ _ _); refine x_tup rfl ?_)
  | ((with_reducible show Ix2 _ _ _ _ _ _); refine x_lst rfl rfl ?_))
local macro_rules | `(tactic| walk_at "me") => `(tactic| first
  | ((with_reducible show Me.E _ _ _ _ _); walk_at "ee")
  | ((with_reducible show Me.A _ _ _ _ _); first | refine a_cons ?_ | refine a_nil ?_)
  | ((with_reducible show Me.Thn _ _ _ (Out.next _ _)); refine thn_n ?_)
  | ((with_reducible show Me.B _ _ _ _ _); walk_at "bb")
  | ((with_reducible show Me.T _ _ _ _ _); first | refine t_cmp ?_ | refine t_bop ?_ | refine t_not ?_)
  | ((with_reducible show Me.W _ _ _ _ _); first | refine w_and1 ?_ | refine w_or1 ?_ | refine w_and ?_ | refine w_or ?_)
  | ((with_reducible show Me.OI _ _ _ _ _); first | refine o_none ?_ | refine o_some ?_)
  | walk_at "oo"
  | (with_reducible refine asT_i ?_)
  | (with_reducible refine ⟨_, rfl, ?_⟩))
local macro_rules | `(tactic| walk_at "go") => `(tactic| repeat (walk_at "me"))
variable {w : World} {P : Program} {base : Heap} {mg : Str → Option Value} {K : PySem.W.Frag} {Γ : Gam}
theorem ok_lvalue (hK : Γ.K = K) {f : Addr} {fd : FuncData} {k j1 : Nat} (F : Fun K "_law_value" "_law_value" sLValue f fd) (hb : Bi mg) (FT : Fn P w K mg base Γ j1 "_law_take" CTake) (h1 : j1 ≤ k) : Gd.FnG P w K mg base (L2.CX P w) (k + 1) f fd pLValue (spM Γ CValue) := by
  refine okM hK hb F scLValue (by rintro _ _ _ _ ⟨s, m, rfl, _⟩; rfl) ?_
  rintro cdv A outer s H E hg rm _ _ Q Z ⟨b, m, rfl, rfl, gb, q1, q2⟩
  have sz : ∀ {n : Nat}, n ≤ 10000 → n ≤ sizeLine := fun h => by rw [sizeLine_eq]; omega
  refine b_set 1 (e_lst ?_)
  repeat (first | walk_at "me" | refine e_lst ?_ | refine ⟨sz (Nat.le_of_ble_eq_true rfl), ?_⟩)
  refine o_pow (by decide) ?_
  repeat (first | walk_at "me" | refine e_lst ?_ | refine ⟨sz (Nat.le_of_ble_eq_true rfl), ?_⟩)
  refine e_dict0 false ?_
  repeat (first | walk_at "me" | refine e_lst ?_ | refine ⟨sz (Nat.le_of_ble_eq_true rfl), ?_⟩)
  refine e_call FT (a_cons (e_var 0 rfl (a_cons (e_int (a_nil (ctake gb (by decide) ?_))))))
  have g2 := takeS_good (n := 3) gb (by decide)
  generalize takeV b 3 = way at ⊢
  generalize takeS b 3 = b2 at g2 ⊢
  refine e_int (o_eqI (asT_i ⟨fun _ => ?_, fun _ => ?_⟩))
  · refine e_ix (e_var 1 rfl (e_call FT (a_cons (e_var 0 rfl (a_cons (e_int (a_nil (ctake g2 (by decide) ?_))))))))
    have t0 := takeV_nonneg (s := b2) (n := 9) (by decide)
    have t1 := takeV_lt (s := b2) (n := 9) (by decide)
    have g3 := takeS_good (n := 9) g2 (by decide)
    generalize takeV b2 9 = iv at t0 t1 ⊢
    generalize takeS b2 9 = b3 at g3 ⊢
    have fl : ∀ v ∈ flatVs, v.refs = [] := by
      intro v hv
      unfold flatVs at hv
      simp only [List.mem_cons, List.not_mem_nil, or_false] at hv
      rcases hv with rfl | rfl | rfl | rfl | rfl | rfl | rfl | rfl <;> rfl
    have pf : ∀ v ∈ flatVs, Rt Γ (bagC b :: m) Q v (bagC b3 :: m ++ [Cell.dct false none []]) := fun v hv => rt_drop (q1 b3 v g3 hv) (fun i hi => by rw [fl v hv] at hi; exact nomatch hi) (Nat.le_refl _) low_bag
    rcases (show iv = 0 ∨ iv = 1 ∨ iv = 2 ∨ iv = 3 ∨ iv = 4 ∨ iv = 5 ∨ iv = 6 ∨ iv = 7 ∨ iv = 8 by omega) with rfl | rfl | rfl | rfl | rfl | rfl | rfl | rfl | rfl
    · exact x_lst rfl (L2.atI_nat (j := 0) rfl) (pf _ (by simp [flatVs]))
    · exact x_lst rfl (L2.atI_nat (j := 1) rfl) (pf _ (by simp [flatVs]))
    · exact x_lst rfl (L2.atI_nat (j := 2) rfl) (pf _ (by simp [flatVs]))
    · exact x_lst rfl (L2.atI_nat (j := 3) rfl) (pf (.int (10 ^ 39)) (by simp [flatVs]))
    · exact x_lst rfl (L2.atI_nat (j := 4) rfl) (pf _ (by simp [flatVs]))
    · exact x_lst rfl (L2.atI_nat (j := 5) rfl) (pf _ (by simp [flatVs]))
    · refine x_lst rfl (L2.atI_nat (j := 6) rfl) ?_
      refine rt_pickB (μ1 := bagC b3 :: m) (ext := [Cell.dct false none []]) (c := .dct false none []) rfl low_bag (by simp) (Nat.le_refl _) (fun i hi => nomatch hi) (q2 b3 _ g3 (.inl rfl))
    · exact x_lst rfl (L2.atI_nat (j := 7) rfl) (pf _ (by simp [flatVs]))
    · exact x_lst rfl (L2.atI_nat (j := 8) rfl) (pf _ (by simp [flatVs]))
  · refine e_lstC (a_cons (e_call FT (a_cons (e_var 0 rfl (a_cons (e_int (a_nil (ctake g2 (by decide) (a_nil ⟨sz (Nat.le_of_ble_eq_true rfl), ?_⟩)))))))))
    have t0 := takeV_nonneg (s := b2) (n := 9) (by decide)
    have t1 := takeV_lt (s := b2) (n := 9) (by decide)
    have g3 := takeS_good (n := 9) g2 (by decide)
    generalize takeV b2 9 = iv at t0 t1 ⊢
    generalize takeS b2 9 = b3 at g3 ⊢
    have hm : (bagC b3 :: m) ++ [Cell.dct false none [], .lst [.int iv]] = (bagC b3 :: m) ++ [Cell.dct false none []] ++ [.lst [.int iv]] := by simp
    have hj : ((bagC b3 :: m) ++ [Cell.dct false none [], .lst [.int iv]])[m.length + 1 + 1]? = some (.lst [.int iv]) := by
      show (m ++ [_, _])[m.length + 1]? = _
      rw [List.getElem?_append_right (by omega), show m.length + 1 - m.length = 1 by omega]
      rfl
    have hlen : (bagC b3 :: m ++ [Cell.dct false none []]).length = m.length + 1 + 1 := by simp
    have r := rt_pickB (Γ := Γ) (μ0 := bagC b :: m) (P := Q) (μ1 := bagC b3 :: m) (c := .lst [.int iv]) rfl low_bag hj (by show m.length + 1 ≤ m.length + 1 + 1; omega) (fun i hi => nomatch hi) (q2 b3 _ g3 (.inr ⟨iv, t0, t1, rfl⟩))
    rw [hm, ← hlen] at r
    exact r
end
end Lm

/-! Me60: l == [], l != [], whatever the list holds. -/
namespace Me
open PySem PySem.Spec PyProof.Rows L2
section
variable {S : Sc} {env : En} {μ : Mu} {P : KD} {d1 d2 : D} {ds : List D}
end
end Me

/-! Me61: bool(x) of an instance with its own __bool__. -/
namespace Me
open PySem PySem.Spec PyProof.Rows L2
section
variable {S : Sc} {env : En} {μ : Mu} {P : KD} {d : D} {c : String} {k : Nat} {C : Ct}
end
end Me

set_option maxHeartbeats 4000000
/-! Me62: tuple * 0, tuple * 1. -/
namespace L2
open PySem PySem.Spec PyProof.Rows
def rRepT1 (K : PySem.W.Frag) : R2 := fun x y H Q => ∃ l xs, x = .ref l ∧ y = .int 1 ∧ SqT K H l xs ∧ Q (.ref l) H
def rRepT0 (K : PySem.W.Frag) : R2 := fun x y H Q => ∃ l xs, x = .ref l ∧ y = .int 0 ∧ SqT K H l xs ∧ xs ≠ [] ∧ ∀ p, H p = none → Q (.ref p) (upd H p (.tup []))
section
variable {X : Cx}
end
end L2
namespace Me
open PySem PySem.Spec PyProof.Rows L2
section
variable {S : Sc} {env : En} {μ : Mu} {ds : List D} {i : Int} {P : KD}
end
end Me

/-! Me63: f(). -/
namespace Me
open PySem PySem.Spec PyProof.Rows L2
section
variable {S : Sc} {env : En} {μ : Mu} {P : KD} {pos p0 : Pos} {x : Str} {k : Nat} {C : Ct}
end
end Me

/-! Me64: a text not in texts; list.extend, list.pop. -/
namespace Me
open PySem PySem.Spec PyProof.Rows L2
section
variable {S : Sc} {env : En} {μ : Mu} {P : KD} {o e : Expr} {cpos apos : Pos}
end
end Me

/-! Me65: list(text). -/
namespace Me
open PySem PySem.Spec PyProof.Rows L2
section
variable {prog : Program} {w : World} {A : Around} {E : Value → Shared → Prop} {s : Shared} {x : Str} {t : Tok}
end
section
variable {S : Sc} {env : En} {μ : Mu} {P : KD} {x : Str}
end
end Me

/-! Me66: o ⊕ t with o's own method and a tuple t; ~o with o's own __invert__. -/
namespace Me
open PySem PySem.Spec PyProof.Rows L2
section
variable {prog : Program} {w : World} {A : Around} {E : Value → Shared → Prop} {s : Shared} {K : PySem.W.Frag} {x C L f : Addr} {h₀ : Heap} {m : Str → Option Value} {ox : Obj} {od : Option Obj}
end
section
variable {S : Sc} {env : En} {μ : Mu} {c : String} {P : KD} {d d1 d2 : D} {k : Nat} {C : Ct} {ds : List D}
end
end Me

/-! Me67: a module's own tuple, known by a name of Γ. -/
namespace Me
open PySem PySem.Spec PyProof.Rows L2
/-- the name c of Γ stands for a module's tuple of these -/
def KTab (Γ : Gam) (c : String) (ds : List D) : Prop := ∃ (a : Addr) (vs : List V) (o : Obj) (its : Array Value) (n : Nat), Γ.cls c = some a ∧ Γ.K.lookup a = some o ∧ o.cls = .type "tuple" ∧ o.data = .seq its n ∧ its.size ≤ sizeLine ∧ Vals vs its.toList ∧ ∀ F as, DVs Γ F as vs ds
section
variable {S : Sc} {env : En} {μ : Mu} {P : KD} {c : String} {ds : List D} {d : D} {i : Int}
end
/-- a table of two rows -/
structure Tab2 (Γ : Gam) (c c0 c1 : String) (tb : Bool → Bool → Bool) : Prop where
  t : KTab Γ c [.cls c0, .cls c1]
  t0 : KTab Γ c0 [.bl (tb false false), .bl (tb false true)]
  t1 : KTab Γ c1 [.bl (tb true false), .bl (tb true true)]
theorem KTab.two {Γ : Gam} {c : String} {a : Addr} {o : Obj} {n : Nat} {x y : Value} {u v : V} {d e : D} (h1 : Γ.cls c = some a) (h2 : Γ.K.lookup a = some o) (h3 : o.cls = .type "tuple") (h4 : o.data = .seq #[x, y] n) (hx : RelV u x) (hy : RelV v y) (hd : ∀ F as, DV Γ F as u d) (he : ∀ F as, DV Γ F as v e) : KTab Γ c [d, e] :=
  ⟨a, [u, v], o, #[x, y], n, h1, h2, h3, h4, by rw [sizeLine_eq]; show 2 ≤ _; decide, .cons hx (.cons hy .nil), fun F as => .cons (hd F as) (.cons (he F as) .nil)⟩
end Me

/-! Me68: {k: v}, a dict by texts or ints with one item. -/
namespace Me
open PySem PySem.Spec PyProof.Rows L2
section
variable {S : Sc} {env : En} {μ : Mu} {P : KD} {pos : Pos}
end
end Me

/-! Me71: d == {} and d != {}; xs[-2::-1]. -/
namespace Me
open PySem PySem.Spec PyProof.Rows L2
section
variable {prog : Program} {w : World} {K : Type} [DecidableEq K] {knd : KeyKind prog w K} {A : Around} {s : Shared}
end
section
variable {S : Sc} {env : En} {μ : Mu} {P : KD} {d1 d2 : D} {kvs : List (DK × D)}
end
/-! ### xs[-2::-1] -/
section
variable {X : Cx}
def tBackL (K : PySem.W.Frag) (te : TE) : TE := fun σ H Q => te σ H fun x H1 => ∃ a xs, x = .ref a ∧ SqL K H1 a xs ∧ ∀ p, H1 p = none → Q (.ref p) (upd H1 p (.lst xs.dropLast.reverse))
end
section
variable {S : Sc} {env : En} {μ : Mu} {e : Expr} {P : KD} {k1 k2 : Nat} {p1 p2 p3 p4 p5 pos : Pos}
end
end Me

/-! Me72: len(set(list of numbers)). -/
namespace Me
open PySem PySem.Spec PyProof.Rows L2
section
variable {S : Sc} {env : En} {μ : Mu} {e : Expr} {P : KD} {p p2 q pos : Pos}
/-- how many numbers a list has, each once -/
def metN (ns : List Int) : Nat := (PyProof.Rows.firstMet (fun i => ns.getD i 0) ns.length).length
end
end Me

/-! Me73: names compared, the least name of a list; a dict by numbers sorted. -/
namespace Me
open PySem PySem.Spec PyProof.Rows L2
/-- the order of names -/
def nlt : List Str → List Str → Bool
  | [], [] => false
  | [], _ :: _ => true
  | _ :: _, [] => false
  | x :: xs, y :: ys => if x = y then nlt xs ys else decide (x.cps.toList < y.cps.toList)
def rLtD (K : PySem.W.Frag) : R2 := fun x y H Q => ∃ d e, Dp K H x d ∧ Dp K H y e ∧ PySem.W.alike d e = true ∧ d ≠ .none ∧ d.depth ≤ 60 ∧ Q (.bl (PySem.W.dataLt d e)) H
section
variable {S : Sc} {env : En} {μ : Mu} {d : D} {P : KD}
end
section
variable {S : Sc} {env : En} {μ : Mu} {d : D} {P : KD} {kvs : List (DK × D)}
end
/-! ### min of a list of names -/
def minN : List Str → List (List Str) → List Str
  | x, [] => x
  | x, y :: ys => minN (if nlt y x then y else x) ys
section
variable {S : Sc} {env : En} {μ : Mu} {d : D} {P : KD}
end
end Me

/-! Me74: a tuple of texts whose object is known, walked. -/
namespace Me
open PySem PySem.Spec PyProof.Rows L2
section
variable {S : Sc} {env : En} {μ : Mu} {iter tg : Expr} {PI : List D → (Mu → Prop) → Mu → Prop}
end
end Me

/-! Me75: enumerate(tuple). -/
namespace Me
open PySem PySem.Spec PyProof.Rows L2
section
variable {prog : Program} {w : World} {A : Around} {E : Value → Shared → Prop} {s : Shared}
end
/-- the tuple at a, each item in a new pair -/
def IteT (K : PySem.W.Frag) (a : Addr) : It :=
  ⟨fun i H => ∃ (xs : List V) (x : V), SqT K H a xs ∧ xs[i]? = some x, fun i H v H' => ∃ T x, v = .ref T ∧ H T = none ∧ H' = upd H T (.tup [.int (i : Nat), x]) ∧ ∀ xs, SqT K H a xs → xs[i]? = some x, fun i H => ∃ xs : List V, SqT K H a xs ∧ xs.length = i⟩
def iEnumT (K : PySem.W.Frag) (ta : TA) : L2.TI := fun σ H R => ta σ H fun vs H1 => ∃ a xs, vs = [.ref a] ∧ SqT K H1 a xs ∧ R (IteT K a) H1
section
variable {S : Sc} {env : En} {μ : Mu} {e : Expr} {PI : KI} {p pos tpos : Pos}
end
end Me

/-! Me76: d.get(k, x); for k, v in d.items(). -/
namespace Me
open PySem PySem.Spec PyProof.Rows L2
section
variable {S : Sc} {env : En} {μ : Mu} {o e f : Expr} {apos cpos tpos : Pos} {P : KD} {PI : KI}
def itemsD (kvs : List (DK × D)) : List D := kvs.map fun p => .tup [dkD p.1, p.2]
end
end Me

/-! MA1: machines that read columns; lists without repetitions. -/
namespace Mc
/-! ### the first places of things -/
section
variable {α β : Type} [DecidableEq α] [DecidableEq β]
def ddA (acc xs : List α) : List α := xs.foldl (fun acc x => if x ∈ acc then acc else acc ++ [x]) acc
def dd (xs : List α) : List α := ddA [] xs
theorem ddA_nil (acc : List α) : ddA acc [] = acc := rfl
theorem ddA_cons (acc : List α) (x : α) (xs : List α) : ddA acc (x :: xs) = ddA (if x ∈ acc then acc else acc ++ [x]) xs := rfl
theorem mem_ddA : ∀ (xs acc : List α) (x : α), x ∈ ddA acc xs ↔ x ∈ acc ∨ x ∈ xs
  | [], acc, x => by simp [ddA_nil]
  | y :: ys, acc, x => by
    rw [ddA_cons, mem_ddA ys]
    split
    · rename_i h
      constructor
      · rintro (z | z)
        · exact .inl z
        · exact .inr (List.mem_cons_of_mem _ z)
      · rintro (z | z)
        · exact .inl z
        · rcases List.mem_cons.mp z with rfl | z
          · exact .inl h
          · exact .inr z
    · rw [List.mem_append, List.mem_singleton, List.mem_cons]
      constructor
      · rintro ((z | z) | z)
        · exact .inl z
        · exact .inr (.inl z)
        · exact .inr (.inr z)
      · rintro (z | z | z)
        · exact .inl (.inl z)
        · exact .inl (.inr z)
        · exact .inr z
theorem mem_dd {xs : List α} {x : α} : x ∈ dd xs ↔ x ∈ xs := by
  rw [dd, mem_ddA]
  simp
theorem nodup_ddA : ∀ (xs acc : List α), acc.Nodup → (ddA acc xs).Nodup
  | [], acc, h => h
  | y :: ys, acc, h => by
    rw [ddA_cons]
    refine nodup_ddA ys _ ?_
    split
    · exact h
    · rename_i hy
      rw [List.nodup_append]
      refine ⟨h, by simp, fun a ha b hb => ?_⟩
      rw [List.mem_singleton.mp hb]
      rintro rfl
      exact hy ha
theorem nodup_dd (xs : List α) : (dd xs).Nodup := nodup_ddA xs [] List.nodup_nil
theorem ddA_len : ∀ (xs acc : List α), (ddA acc xs).length ≤ acc.length + xs.length
  | [], acc => Nat.le_refl _
  | y :: ys, acc => by
    rw [ddA_cons]
    refine Nat.le_trans (ddA_len ys _) ?_
    split
    · simp only [List.length_cons]; omega
    · simp only [List.length_cons, List.length_append, List.length_nil]; omega
theorem dd_len (xs : List α) : (dd xs).length ≤ xs.length := by
  have := ddA_len xs []
  simpa [dd] using this
theorem ddA_map (f : α → β) : ∀ (xs acc : List α), (∀ a ∈ acc ++ xs, ∀ b ∈ acc ++ xs, f a = f b → a = b) → ddA (acc.map f) (xs.map f) = (ddA acc xs).map f
  | [], acc, h => rfl
  | y :: ys, acc, h => by
    rw [List.map_cons, ddA_cons, ddA_cons]
    have e : (if f y ∈ acc.map f then acc.map f else acc.map f ++ [f y]) = (if y ∈ acc then acc else acc ++ [y]).map f := by
      by_cases hy : y ∈ acc
      · rw [if_pos hy, if_pos (List.mem_map_of_mem hy)]
      · rw [if_neg hy, if_neg, List.map_append]
        · rfl
        · intro z
          obtain ⟨a, ha, e⟩ := List.mem_map.mp z
          exact hy (h a (List.mem_append_left _ ha) y (List.mem_append_right _ (List.mem_cons_self ..)) e ▸ ha)
    rw [e]
    refine ddA_map f ys _ fun a ha b hb => h a ?_ b ?_
    · have : ∀ c, c ∈ (if y ∈ acc then acc else acc ++ [y]) ++ ys → c ∈ acc ++ y :: ys := fun c hc => by
        split at hc
        · rcases List.mem_append.mp hc with z | z
          · exact List.mem_append_left _ z
          · exact List.mem_append_right _ (List.mem_cons_of_mem _ z)
        · simpa using hc
      exact this a ha
    · have : ∀ c, c ∈ (if y ∈ acc then acc else acc ++ [y]) ++ ys → c ∈ acc ++ y :: ys := fun c hc => by
        split at hc
        · rcases List.mem_append.mp hc with z | z
          · exact List.mem_append_left _ z
          · exact List.mem_append_right _ (List.mem_cons_of_mem _ z)
        · simpa using hc
      exact this b hb
theorem dd_map (f : α → β) (xs : List α) (h : ∀ a ∈ xs, ∀ b ∈ xs, f a = f b → a = b) : dd (xs.map f) = (dd xs).map f := ddA_map f xs [] (by simpa using h)
theorem sub_len {l k : List α} (hl : l.Nodup) (h : ∀ x ∈ l, x ∈ k) : l.length ≤ k.length := by
  induction l generalizing k with
  | nil => exact Nat.zero_le _
  | cons a l ih =>
    obtain ⟨h1, h2⟩ := List.nodup_cons.mp hl
    have ha := h a (List.mem_cons_self ..)
    have : l.length ≤ (k.erase a).length := ih h2 fun x hx => (List.mem_erase_of_ne fun (e : x = a) => h1 (e ▸ hx)).mpr (h x (List.mem_cons_of_mem _ hx))
    rw [List.length_erase_of_mem ha] at this
    have : 0 < k.length := List.length_pos_of_mem ha
    simp only [List.length_cons]
    omega
theorem ddA_full : ∀ (xs acc : List α), acc.Nodup → (ddA acc xs).length = acc.length + xs.length → (acc ++ xs).Nodup
  | [], acc, h, _ => by simpa using h
  | y :: ys, acc, h, e => by
    rw [ddA_cons] at e
    split at e
    · have := ddA_len ys acc
      simp only [List.length_cons] at e
      omega
    · rename_i hy
      have h' : (acc ++ [y]).Nodup := by
        rw [List.nodup_append]
        refine ⟨h, by simp, fun a ha b hb => ?_⟩
        rw [List.mem_singleton.mp hb]
        rintro rfl
        exact hy ha
      have := ddA_full ys (acc ++ [y]) h' (by simp only [List.length_append, List.length_cons, List.length_nil] at e ⊢; omega)
      simpa using this
theorem dd_full {xs : List α} (h : (dd xs).length = xs.length) : xs.Nodup := by
  have := ddA_full xs [] List.nodup_nil (by simpa [dd] using h)
  simpa using this
end
section
variable {α β : Type} [BEq α] [LawfulBEq α] [BEq β] [LawfulBEq β]
theorem idx_inj {l : List α} {a b : α} (ha : a ∈ l) (h : l.idxOf a = l.idxOf b) : a = b := by
  have h1 := List.idxOf_lt_length_iff.mpr ha
  have h2 : l.idxOf b < l.length := h ▸ h1
  have e1 := List.getElem_idxOf h1
  have e2 := List.getElem_idxOf h2
  rw [← e1, ← e2]
  congr 1
theorem idx_get : ∀ {l : List α}, l.Nodup → ∀ {i : Nat} {a : α}, l[i]? = some a → l.idxOf a = i
  | [], _, i, a, h => by simp at h
  | b :: l, hl, 0, a, h => by
    have e : b = a := by simpa using h
    subst e
    exact List.idxOf_cons_self
  | b :: l, hl, i + 1, a, h => by
    obtain ⟨h1, h2⟩ := List.nodup_cons.mp hl
    have h : l[i]? = some a := by simpa using h
    have hne : b ≠ a := fun e => h1 (e ▸ List.mem_of_getElem? h)
    rw [List.idxOf_cons, idx_get h2 h, show (b == a) = false from beq_false_of_ne hne]
    rfl
end
/-! ### machines -/
abbrev Row := Bool × List Nat
def acc (rows : List Row) (s : Nat) : Bool := (rows.getD s (false, [])).1
def gls (rows : List Row) (s : Nat) : List Nat := (rows.getD s (false, [])).2
def go (rows : List Row) (s c : Nat) : Nat := (gls rows s).getD c 0
def run (rows : List Row) (s : Nat) (cs : List Nat) : Nat := cs.foldl (go rows) s
/-- rows with k columns and one more -/
structure WF (k : Nat) (rows : List Row) : Prop where
  ne : 0 < rows.length
  len : ∀ s, s < rows.length → (gls rows s).length = k + 1
  lt : ∀ s, s < rows.length → ∀ g ∈ gls rows s, g < rows.length
section
variable {k : Nat} {rows : List Row}
theorem run_cons (s c : Nat) (cs : List Nat) : run rows s (c :: cs) = run rows (go rows s c) cs := rfl
theorem run_app (s : Nat) (cs ds : List Nat) : run rows s (cs ++ ds) = run rows (run rows s cs) ds := List.foldl_append
theorem WF.go (h : WF k rows) {s c : Nat} (hs : s < rows.length) (hc : c ≤ k) : go rows s c < rows.length := by
  have hl := h.len s hs
  unfold Mc.go
  rw [List.getD_eq_getElem?_getD, List.getElem?_eq_getElem (by omega)]
  exact h.lt s hs _ (List.getElem_mem _)
theorem WF.go_at (h : WF k rows) {s c : Nat} (hs : s < rows.length) (hc : c ≤ k) : (gls rows s)[c]? = some (Mc.go rows s c) := by
  have hl := h.len s hs
  unfold Mc.go
  rw [List.getD_eq_getElem?_getD, List.getElem?_eq_getElem (by omega)]
  rfl
theorem WF.run (h : WF k rows) : ∀ {cs : List Nat} {s : Nat}, s < rows.length → (∀ c ∈ cs, c ≤ k) → run rows s cs < rows.length
  | [], _, hs, _ => hs
  | c :: cs, s, hs, hc => by
    rw [run_cons]
    exact WF.run h (h.go hs (hc c (List.mem_cons_self ..))) fun x hx => hc x (List.mem_cons_of_mem _ hx)
/-- the same is accepted behind the same columns -/
def Eqv (k : Nat) (rows : List Row) (s t : Nat) : Prop := ∀ cs, (∀ c ∈ cs, c ≤ k) → acc rows (run rows s cs) = acc rows (run rows t cs)
theorem Eqv.acc {s t : Nat} (h : Eqv k rows s t) : acc rows s = acc rows t := h [] (fun _ z => nomatch z)
theorem Eqv.go {s t c : Nat} (h : Eqv k rows s t) (hc : c ≤ k) : Eqv k rows (go rows s c) (go rows t c) := fun cs hcs => h (c :: cs) fun x hx => by
  rcases List.mem_cons.mp hx with rfl | z
  · exact hc
  · exact hcs x z
/-! ### classes -/
def sign (c : List Nat) (rows : List Row) (s : Nat) : List Nat := c.getD s 0 :: (gls rows s).map fun t => c.getD t 0
def signs (c : List Nat) (rows : List Row) : List (List Nat) := (List.range rows.length).map (sign c rows)
def stepC (c : List Nat) (rows : List Row) : List Nat := (signs c rows).map fun x => (dd (signs c rows)).idxOf x
def cls0 (rows : List Row) : List Nat := rows.map fun r => if r.1 then 1 else 0
/-- what holds of the classes on the way -/
structure ClsI (k : Nat) (rows : List Row) (c : List Nat) (many : Nat) : Prop where
  len : c.length = rows.length
  fine : ∀ s t, s < rows.length → t < rows.length → Eqv k rows s t → c.getD s 0 = c.getD t 0
  acc : ∀ s t, s < rows.length → t < rows.length → c.getD s 0 = c.getD t 0 → acc rows s = acc rows t
  many : many = 0 ∨ many = (dd c).length
/-- what holds of them at last -/
structure ClsOk (k : Nat) (rows : List Row) (c : List Nat) : Prop where
  len : c.length = rows.length
  eqv : ∀ s t, s < rows.length → t < rows.length → (c.getD s 0 = c.getD t 0 ↔ Eqv k rows s t)
theorem signs_len (c : List Nat) (rows : List Row) : (signs c rows).length = rows.length := by unfold signs; rw [List.length_map, List.length_range]
theorem signs_get {c : List Nat} {s : Nat} (h : s < rows.length) : (signs c rows)[s]? = some (sign c rows s) := by
  unfold signs
  rw [List.getElem?_map, List.getElem?_range h]
  rfl
theorem step_get {c : List Nat} {s : Nat} (h : s < rows.length) : (stepC c rows).getD s 0 = (dd (signs c rows)).idxOf (sign c rows s) := by
  unfold stepC
  rw [List.getD_eq_getElem?_getD, List.getElem?_map, signs_get h]
  rfl
theorem step_eq {c : List Nat} {s t : Nat} (hs : s < rows.length) (ht : t < rows.length) : (stepC c rows).getD s 0 = (stepC c rows).getD t 0 ↔ sign c rows s = sign c rows t := by
  rw [step_get hs, step_get ht]
  refine ⟨fun h => idx_inj (mem_dd.mpr (List.mem_of_getElem? (signs_get hs))) h, fun h => by rw [h]⟩
theorem dd_step (c : List Nat) : (dd (stepC c rows)).length = (dd (signs c rows)).length := by
  unfold stepC
  rw [dd_map]
  · exact List.length_map ..
  · intro a ha b hb e
    exact idx_inj (mem_dd.mpr ha) e
theorem ClsI.step {c : List Nat} {many : Nat} (h : ClsI k rows c many) (hw : WF k rows) : ClsI k rows (stepC c rows) (dd (signs c rows)).length := by
  refine ⟨by unfold stepC; rw [List.length_map, signs_len], fun s t hs ht q => (step_eq hs ht).mpr ?_, fun s t hs ht q => ?_, .inr (dd_step c).symm⟩
  · unfold sign
    rw [h.fine s t hs ht q]
    congr 1
    refine List.ext_getElem? fun i => ?_
    rw [List.getElem?_map, List.getElem?_map]
    by_cases hi : i ≤ k
    · rw [hw.go_at hs hi, hw.go_at ht hi]
      exact congrArg some (h.fine _ _ (hw.go hs hi) (hw.go ht hi) (q.go hi))
    · rw [List.getElem?_eq_none (by rw [hw.len s hs]; omega), List.getElem?_eq_none (by rw [hw.len t ht]; omega)]
  · have := (step_eq hs ht).mp q
    unfold sign at this
    exact h.acc s t hs ht (List.cons.inj this).1
theorem ClsI.done {c : List Nat} {many : Nat} (h : ClsI k rows c many) (hw : WF k rows) (hn : (dd (signs c rows)).length = many) : ClsOk k rows (stepC c rows) := by
  have hm : many = (dd c).length := by
    rcases h.many with z | z
    · have h0 : (signs c rows)[0]? = some (sign c rows 0) := signs_get hw.ne
      have := List.length_pos_of_mem (mem_dd.mpr (List.mem_of_getElem? h0))
      omega
    · exact z
  -- equal classes have equal signs
  have key : ∀ s t, s < rows.length → t < rows.length → c.getD s 0 = c.getD t 0 → sign c rows s = sign c rows t := by
    intro s t hs ht e
    -- the heads of the signs are all different
    have hnd : ((dd (signs c rows)).map fun x => x.headD 0).Nodup := by
      have hsub : ∀ x ∈ dd c, x ∈ (dd (signs c rows)).map fun x => x.headD 0 := fun x hx => by
        obtain ⟨s, hs, rfl⟩ := List.mem_iff_getElem.mp (mem_dd.mp hx)
        have hs' : s < rows.length := h.len ▸ hs
        refine List.mem_map.mpr ⟨sign c rows s, mem_dd.mpr (List.mem_of_getElem? (signs_get hs')), ?_⟩
        show c.getD s 0 = _
        rw [List.getD_eq_getElem?_getD, List.getElem?_eq_getElem hs]
        rfl
      have hl : ((dd (signs c rows)).map fun x => x.headD 0).length = (dd c).length := by rw [List.length_map]; omega
      have h1 := sub_len (nodup_dd c) (k := dd ((dd (signs c rows)).map fun x => x.headD 0)) fun x hx => mem_dd.mpr (hsub x hx)
      have h2 := dd_len ((dd (signs c rows)).map fun x => x.headD 0)
      exact dd_full (by omega)
    have m1 := mem_dd.mpr (List.mem_of_getElem? (signs_get (c := c) hs))
    have m2 := mem_dd.mpr (List.mem_of_getElem? (signs_get (c := c) ht))
    obtain ⟨i, hi, e1⟩ := List.mem_iff_getElem.mp m1
    obtain ⟨j, hj, e2⟩ := List.mem_iff_getElem.mp m2
    have e1' : (dd (signs c rows))[i]? = some (sign c rows s) := by rw [List.getElem?_eq_getElem hi, e1]
    have e2' : (dd (signs c rows))[j]? = some (sign c rows t) := by rw [List.getElem?_eq_getElem hj, e2]
    have f1 : ((dd (signs c rows)).map fun x => x.headD 0)[i]? = some (c.getD s 0) := by rw [List.getElem?_map, e1']; rfl
    have f2 : ((dd (signs c rows)).map fun x => x.headD 0)[j]? = some (c.getD s 0) := by rw [List.getElem?_map, e2', e]; rfl
    have : i = j := by rw [← idx_get hnd f1, ← idx_get hnd f2]
    subst this
    rw [e1'] at e2'
    exact Option.some.inj e2'
  have stab : ∀ s t, s < rows.length → t < rows.length → c.getD s 0 = c.getD t 0 → Eqv k rows s t := by
    intro s t hs ht e cs
    induction cs generalizing s t with
    | nil => exact fun _ => h.acc s t hs ht e
    | cons a cs ih =>
      intro hcs
      rw [run_cons, run_cons]
      have ha := hcs a (List.mem_cons_self ..)
      refine ih _ _ (hw.go hs ha) (hw.go ht ha) ?_ fun x hx => hcs x (List.mem_cons_of_mem _ hx)
      have := key s t hs ht e
      unfold sign at this
      have h2 := congrArg (fun l => l[a]?) (List.cons.inj this).2
      simp only [List.getElem?_map, hw.go_at hs ha, hw.go_at ht ha, Option.map_some] at h2
      exact Option.some.inj h2
  refine ⟨by unfold stepC; rw [List.length_map, signs_len], fun s t hs ht => ?_⟩
  rw [step_eq hs ht]
  refine ⟨fun q => stab s t hs ht (by unfold sign at q; exact (List.cons.inj q).1), fun q => key s t hs ht (h.fine s t hs ht q)⟩
end
end Mc

/-! MA2: what is led to, in order; the least machine is one alone. -/
namespace Mc
/-! ### level by level -/
section
variable {σ τ : Type} [DecidableEq σ] [DecidableEq τ]
def nxt (G : σ → List σ) (order level : List σ) : List σ := (dd (level.flatMap G)).filter fun x => decide (x ∉ order)
def bfsT (G : σ → List σ) : Nat → List σ → List σ → Option (List σ)
  | f, order, [] => some order
  | 0, order, _ :: _ => none
  | f + 1, order, x :: xs => bfsT G f (order ++ nxt G order (x :: xs)) (nxt G order (x :: xs))
def Bfs (G : σ → List σ) (first : σ) (o : List σ) : Prop := ∃ f, bfsT G f [first] [first] = some o
theorem bfsT_nil (G : σ → List σ) (f : Nat) (order : List σ) : bfsT G f order [] = some order := by cases f <;> rfl
theorem bfsT_step (G : σ → List σ) (f : Nat) {order level : List σ} (h : level ≠ []) : bfsT G (f + 1) order level = bfsT G f (order ++ nxt G order level) (nxt G order level) := by
  cases level with
  | nil => exact absurd rfl h
  | cons => rfl
theorem bfsT_more (G : σ → List σ) : ∀ (f : Nat) (order level o : List σ) (d : Nat), bfsT G f order level = some o → bfsT G (f + d) order level = some o
  | f, order, [], o, d, h => by rw [bfsT_nil] at h ⊢; exact h
  | 0, order, x :: xs, o, d, h => by simp [bfsT] at h
  | f + 1, order, x :: xs, o, d, h => by
    rw [show f + 1 + d = (f + d) + 1 by omega]
    exact bfsT_more G f _ _ o d h
theorem Bfs.uniq {G : σ → List σ} {first : σ} {o o' : List σ} (h : Bfs G first o) (h' : Bfs G first o') : o = o' := by
  obtain ⟨f, e⟩ := h
  obtain ⟨f', e'⟩ := h'
  have a := bfsT_more G f _ _ _ f' e
  have b := bfsT_more G f' _ _ _ f e'
  rw [Nat.add_comm, b] at a
  exact (Option.some.inj a).symm
inductive Rch (G : σ → List σ) (first : σ) : σ → Prop
  | here : Rch G first first
  | step {x y : σ} : Rch G first x → y ∈ G x → Rch G first y
structure BfsI (G : σ → List σ) (first : σ) (order level : List σ) : Prop where
  nd : order.Nodup
  sub : ∀ x ∈ level, x ∈ order
  at0 : order[0]? = some first
  cl : ∀ x ∈ order, x ∉ level → ∀ y ∈ G x, y ∈ order
  rc : ∀ x ∈ order, Rch G first x
theorem mem_nxt {G : σ → List σ} {order level : List σ} {x : σ} : x ∈ nxt G order level ↔ (∃ y ∈ level, x ∈ G y) ∧ x ∉ order := by
  unfold nxt
  rw [List.mem_filter, mem_dd, List.mem_flatMap]
  simp
theorem BfsI.start (G : σ → List σ) (first : σ) : BfsI G first [first] [first] :=
  ⟨by simp, fun x h => h, rfl, fun x h h' => absurd h h', fun x h => by rw [List.mem_singleton.mp h]; exact .here⟩
theorem BfsI.next {G : σ → List σ} {first : σ} {order level : List σ} (h : BfsI G first order level) : BfsI G first (order ++ nxt G order level) (nxt G order level) := by
  refine ⟨?_, fun x hx => List.mem_append_right _ hx, ?_, fun x hx hn y hy => ?_, fun x hx => ?_⟩
  · rw [List.nodup_append]
    refine ⟨h.nd, List.Pairwise.filter _ (nodup_dd _), fun a ha b hb e => ?_⟩
    exact (mem_nxt.mp hb).2 (e ▸ ha)
  · have := h.at0
    have hl : 0 < order.length := (List.getElem?_eq_some_iff.mp this).1
    rw [List.getElem?_append_left hl]
    exact this
  · rcases List.mem_append.mp hx with z | z
    · by_cases hl : x ∈ level
      · by_cases hy' : y ∈ order
        · exact List.mem_append_left _ hy'
        · exact List.mem_append_right _ (mem_nxt.mpr ⟨⟨x, hl, hy⟩, hy'⟩)
      · exact List.mem_append_left _ (h.cl x z hl y hy)
    · exact absurd z hn
  · rcases List.mem_append.mp hx with z | z
    · exact h.rc x z
    · obtain ⟨⟨y, hy, e⟩, _⟩ := mem_nxt.mp z
      exact .step (h.rc y (h.sub y hy)) e
theorem bfsT_ok {G : σ → List σ} {first : σ} : ∀ (f : Nat) (order level o : List σ), BfsI G first order level → bfsT G f order level = some o → BfsI G first o []
  | f, order, [], o, i, h => by
    rw [bfsT_nil] at h
    obtain rfl := Option.some.inj h
    exact i
  | 0, order, x :: xs, o, i, h => by simp [bfsT] at h
  | f + 1, order, x :: xs, o, i, h => bfsT_ok f _ _ o i.next h
theorem Bfs.ok {G : σ → List σ} {first : σ} {o : List σ} (h : Bfs G first o) : BfsI G first o [] := by
  obtain ⟨f, e⟩ := h
  exact bfsT_ok f _ _ o (.start G first) e
theorem Bfs.nd {G : σ → List σ} {first : σ} {o : List σ} (h : Bfs G first o) : o.Nodup := h.ok.nd
theorem Bfs.cl {G : σ → List σ} {first : σ} {o : List σ} (h : Bfs G first o) {x y : σ} (hx : x ∈ o) (hy : y ∈ G x) : y ∈ o := h.ok.cl x hx (fun z => nomatch z) y hy
theorem Bfs.at0 {G : σ → List σ} {first : σ} {o : List σ} (h : Bfs G first o) : o[0]? = some first := h.ok.at0
theorem Bfs.first {G : σ → List σ} {first : σ} {o : List σ} (h : Bfs G first o) : first ∈ o := List.mem_of_getElem? h.at0
theorem Bfs.rc {G : σ → List σ} {first : σ} {o : List σ} (h : Bfs G first o) {x : σ} (hx : x ∈ o) : Rch G first x := h.ok.rc x hx
theorem Bfs.all {G : σ → List σ} {first : σ} {o : List σ} (h : Bfs G first o) {x : σ} (hx : Rch G first x) : x ∈ o := by
  induction hx with
  | here => exact h.first
  | step _ hy ih => exact h.cl ih hy
theorem flatMap_map {G : σ → List σ} {G' : τ → List τ} {φ : σ → τ} : ∀ l : List σ, (∀ x ∈ l, G' (φ x) = (G x).map φ) → (l.map φ).flatMap G' = (l.flatMap G).map φ
  | [], _ => rfl
  | x :: l, h => by
    rw [List.map_cons, List.flatMap_cons, List.flatMap_cons, List.map_append, h x (List.mem_cons_self ..), flatMap_map l fun y hy => h y (List.mem_cons_of_mem _ hy)]
theorem nxt_map {G : σ → List σ} {G' : τ → List τ} {φ : σ → τ} {U : List σ} {order level : List σ} (inj : ∀ a ∈ U, ∀ b ∈ U, φ a = φ b → a = b) (cl : ∀ x ∈ U, ∀ y ∈ G x, y ∈ U) (eq : ∀ x ∈ U, G' (φ x) = (G x).map φ)
    (ho : ∀ x ∈ order, x ∈ U) (hl : ∀ x ∈ level, x ∈ U) : nxt G' (order.map φ) (level.map φ) = (nxt G order level).map φ := by
  unfold nxt
  rw [flatMap_map level fun x hx => eq x (hl x hx), dd_map, List.filter_map]
  · congr 1
    refine List.filter_congr fun x hx => ?_
    have hxU : x ∈ U := by
      obtain ⟨y, hy, hx⟩ := List.mem_flatMap.mp (mem_dd.mp hx)
      exact cl y (hl y hy) x hx
    show decide (φ x ∉ order.map φ) = decide (x ∉ order)
    by_cases h : x ∈ order
    · rw [decide_eq_false (fun z => z (List.mem_map_of_mem h)), decide_eq_false (fun z => z h)]
    · rw [decide_eq_true h, decide_eq_true]
      intro z
      obtain ⟨y, hy, e⟩ := List.mem_map.mp z
      exact h (inj y (ho y hy) x hxU e ▸ hy)
  · intro a ha b hb
    have hU : ∀ x ∈ level.flatMap G, x ∈ U := fun x hx => by
      obtain ⟨y, hy, hx⟩ := List.mem_flatMap.mp hx
      exact cl y (hl y hy) x hx
    exact inj a (hU a ha) b (hU b hb)
theorem bfsT_map {G : σ → List σ} {G' : τ → List τ} {φ : σ → τ} {U : List σ} (inj : ∀ a ∈ U, ∀ b ∈ U, φ a = φ b → a = b) (cl : ∀ x ∈ U, ∀ y ∈ G x, y ∈ U) (eq : ∀ x ∈ U, G' (φ x) = (G x).map φ) :
    ∀ (f : Nat) (order level : List σ), (∀ x ∈ order, x ∈ U) → (∀ x ∈ level, x ∈ U) → bfsT G' f (order.map φ) (level.map φ) = (bfsT G f order level).map (List.map φ)
  | f, order, [], _, _ => by rw [List.map_nil, bfsT_nil, bfsT_nil]; rfl
  | 0, order, x :: xs, _, _ => rfl
  | f + 1, order, x :: xs, ho, hl => by
    have hn : ∀ y ∈ nxt G order (x :: xs), y ∈ U := fun y hy => by
      obtain ⟨⟨z, hz, e⟩, _⟩ := mem_nxt.mp hy
      exact cl z (hl z hz) y e
    rw [bfsT_step _ _ (by simp), bfsT_step _ _ (by simp), nxt_map inj cl eq ho hl, ← List.map_append]
    exact bfsT_map inj cl eq f _ _ (fun y hy => by
      rcases List.mem_append.mp hy with z | z
      · exact ho y z
      · exact hn y z) hn
theorem Bfs.map {G : σ → List σ} {G' : τ → List τ} {φ : σ → τ} {first : σ} {o : List σ} (h : Bfs G first o) (inj : ∀ a ∈ o, ∀ b ∈ o, φ a = φ b → a = b) (eq : ∀ x ∈ o, G' (φ x) = (G x).map φ) : Bfs G' (φ first) (o.map φ) := by
  have cl : ∀ x ∈ o, ∀ y ∈ G x, y ∈ o := fun x hx y hy => h.cl hx hy
  have hf := h.first
  obtain ⟨f, e⟩ := h
  refine ⟨f, ?_⟩
  have := bfsT_map inj cl eq f [first] [first] (fun x hx => by rw [List.mem_singleton.mp hx]; exact hf) (fun x hx => by rw [List.mem_singleton.mp hx]; exact hf)
  rw [e] at this
  exact this
/-- the loop's own word -/
def BfsL (G : σ → List σ) (first : σ) (order level : List σ) : Prop := ∃ d, ∀ f o, bfsT G f order level = some o → bfsT G (f + d) [first] [first] = some o
theorem BfsL.start (G : σ → List σ) (first : σ) : BfsL G first [first] [first] := ⟨0, fun _ _ h => h⟩
theorem BfsL.next {G : σ → List σ} {first : σ} {order level : List σ} (h : BfsL G first order level) (hl : level ≠ []) : BfsL G first (order ++ nxt G order level) (nxt G order level) := by
  obtain ⟨d, h⟩ := h
  exact ⟨d + 1, fun f o e => by rw [show f + (d + 1) = (f + 1) + d by omega]; exact h (f + 1) o (by rw [bfsT_step _ _ hl]; exact e)⟩
theorem BfsL.done {G : σ → List σ} {first : σ} {order : List σ} (h : BfsL G first order []) : Bfs G first order := by
  obtain ⟨d, h⟩ := h
  exact ⟨0 + d, h 0 order (bfsT_nil ..)⟩
end
/-! ### what a machine accepts -/
section
variable {α : Type} [BEq α] [LawfulBEq α]
def cols (ls : List α) (name : List α) : List Nat := name.reverse.map ls.idxOf
def st (ls : List α) (rows : List Row) (name : List α) : Nat := run rows 0 (cols ls name)
def Lg (ls : List α) (rows : List Row) (name : List α) : Bool := acc rows (st ls rows name)
theorem cols_le (ls name : List α) : ∀ c ∈ cols ls name, c ≤ ls.length := fun c hc => by
  obtain ⟨x, _, rfl⟩ := List.mem_map.mp hc
  exact List.idxOf_le_length
theorem cols_app (ls u v : List α) : cols ls (v ++ u) = cols ls u ++ cols ls v := by unfold cols; rw [List.reverse_append, List.map_append]
theorem st_app (ls : List α) (rows : List Row) (u v : List α) : st ls rows (v ++ u) = run rows (st ls rows u) (cols ls v) := by unfold st; rw [cols_app, run_app]
theorem st_cons (ls : List α) (rows : List Row) (x : α) (u : List α) : st ls rows (x :: u) = go rows (st ls rows u) (ls.idxOf x) := st_app ls rows u [x]
theorem st_lt {ls : List α} {rows : List Row} (h : WF ls.length rows) (u : List α) : st ls rows u < rows.length := h.run h.ne (cols_le ls u)
/-- endlessly many labels -/
def Inf (α : Type) : Prop := ∀ l : List α, ∃ x, x ∉ l
theorem cols_onto (hI : Inf α) (ls : List α) (hn : ls.Nodup) : ∀ cs : List Nat, (∀ c ∈ cs, c ≤ ls.length) → ∃ u, cols ls u = cs
  | [], _ => ⟨[], rfl⟩
  | c :: cs, h => by
    obtain ⟨u, hu⟩ := cols_onto hI ls hn cs fun x hx => h x (List.mem_cons_of_mem _ hx)
    have hc := h c (List.mem_cons_self ..)
    obtain ⟨x, hx⟩ : ∃ x, ls.idxOf x = c := by
      by_cases z : c < ls.length
      · exact ⟨ls[c], idx_get hn (List.getElem?_eq_getElem z)⟩
      · obtain ⟨x, hx⟩ := hI ls
        exact ⟨x, by rw [List.idxOf_eq_length hx]; omega⟩
    exact ⟨u ++ [x], by rw [cols_app, hu]; show [ls.idxOf x] ++ cs = _; rw [hx]; rfl⟩
structure Canon (lt : α → α → Prop) (ls : List α) (rows : List Row) : Prop where
  wf : WF ls.length rows
  asc : ls.Pairwise lt
  nd : ls.Nodup
  ord : Bfs (gls rows) 0 (List.range rows.length)
  sep : ∀ s t, s < rows.length → t < rows.length → Eqv ls.length rows s t → s = t
  mat : ∀ j, j < ls.length → ∃ s, s < rows.length ∧ go rows s j ≠ go rows s ls.length
theorem rch_st (hI : Inf α) {ls : List α} {rows : List Row} (hw : WF ls.length rows) (hn : ls.Nodup) {s : Nat} (h : Rch (gls rows) 0 s) : ∃ u, st ls rows u = s := by
  induction h with
  | here => exact ⟨[], rfl⟩
  | step _ hy ih =>
    obtain ⟨u, rfl⟩ := ih
    obtain ⟨c, hc, e⟩ := List.mem_iff_getElem.mp hy
    have hu := st_lt hw u
    rw [hw.len _ hu] at hc
    obtain ⟨x, hx⟩ : ∃ x, ls.idxOf x = c := by
      by_cases z : c < ls.length
      · exact ⟨ls[c], idx_get hn (List.getElem?_eq_getElem z)⟩
      · obtain ⟨x, hx⟩ := hI ls
        exact ⟨x, by rw [List.idxOf_eq_length hx]; omega⟩
    refine ⟨x :: u, ?_⟩
    rw [st_cons, hx]
    have := hw.go_at hu (c := c) (by omega)
    rw [List.getElem?_eq_getElem (by rw [hw.len _ hu]; omega), e] at this
    exact (Option.some.inj this).symm
section
variable {lt : α → α → Prop} {l1 l2 : List α} {r1 r2 : List Row}
theorem Canon.st (hI : Inf α) (h : Canon lt l1 r1) {s : Nat} (hs : s < r1.length) : ∃ u, Mc.st l1 r1 u = s := rch_st hI h.wf h.nd (h.ord.rc (List.mem_range.mpr hs))
theorem Canon.same (hI : Inf α) (h : Canon lt l1 r1) (u v : List α) : Mc.st l1 r1 u = Mc.st l1 r1 v ↔ ∀ x, Lg l1 r1 (x ++ u) = Lg l1 r1 (x ++ v) := by
  refine ⟨fun e x => by unfold Lg; rw [st_app, st_app, e], fun e => h.sep _ _ (st_lt h.wf u) (st_lt h.wf v) fun cs hcs => ?_⟩
  obtain ⟨x, rfl⟩ := cols_onto hI l1 h.nd cs hcs
  have := e x
  unfold Lg at this
  rw [st_app, st_app] at this
  exact this
theorem Canon.sameL (hI : Inf α) (h1 : Canon lt l1 r1) (h2 : Canon lt l2 r2) (e : ∀ u, Lg l1 r1 u = Lg l2 r2 u) (u v : List α) : Mc.st l1 r1 u = Mc.st l1 r1 v ↔ Mc.st l2 r2 u = Mc.st l2 r2 v := by
  rw [h1.same hI, h2.same hI]
  exact ⟨fun h x => by rw [← e, ← e]; exact h x, fun h x => by rw [e, e]; exact h x⟩
theorem Canon.subL (hI : Inf α) (h1 : Canon lt l1 r1) (h2 : Canon lt l2 r2) (e : ∀ u, Lg l1 r1 u = Lg l2 r2 u) {a : α} (ha : a ∈ l1) : a ∈ l2 := by
  obtain ⟨s, hs, hne⟩ := h1.mat (l1.idxOf a) (List.idxOf_lt_length_iff.mpr ha)
  obtain ⟨u, rfl⟩ := h1.st hI hs
  obtain ⟨z, hz⟩ := hI (l1 ++ l2)
  have z1 : z ∉ l1 := fun q => hz (List.mem_append_left _ q)
  have z2 : z ∉ l2 := fun q => hz (List.mem_append_right _ q)
  have : Mc.st l1 r1 (a :: u) ≠ Mc.st l1 r1 (z :: u) := by rw [st_cons, st_cons, List.idxOf_eq_length z1]; exact hne
  by_cases q : a ∈ l2
  · exact q
  · exfalso
    refine this ((h1.sameL hI h2 e _ _).mpr ?_)
    rw [st_cons, st_cons, List.idxOf_eq_length z2, List.idxOf_eq_length q]
theorem nodup_perm {l k : List α} (hl : l.Nodup) (hk : k.Nodup) (h : ∀ x, x ∈ l ↔ x ∈ k) : l.Perm k := by
  haveI : DecidableEq α := fun a b => if h : (a == b) = true then .isTrue (eq_of_beq h) else .isFalse fun e => h (e ▸ beq_self_eq_true a)
  rw [List.perm_iff_count]
  intro a
  rw [hl.count, hk.count]
  by_cases q : a ∈ l
  · rw [if_pos q, if_pos ((h a).mp q)]
  · rw [if_neg q, if_neg fun z => q ((h a).mpr z)]
theorem Canon.uniq (hI : Inf α) (as : ∀ a b, lt a b → lt b a → a = b) (h1 : Canon lt l1 r1) (h2 : Canon lt l2 r2) (e : ∀ u, Lg l1 r1 u = Lg l2 r2 u) : l1 = l2 ∧ r1 = r2 := by
  have el : l1 = l2 := (nodup_perm h1.nd h2.nd fun x => ⟨h1.subL hI h2 e, h2.subL hI h1 fun u => (e u).symm⟩).eq_of_pairwise (fun a b _ _ => as a b) h1.asc h2.asc
  subst el
  refine ⟨rfl, ?_⟩
  have hw : ∀ s, ∃ u, s < r1.length → Mc.st l1 r1 u = s := fun s => by
    by_cases q : s < r1.length
    · obtain ⟨u, hu⟩ := h1.st hI q
      exact ⟨u, fun _ => hu⟩
    · exact ⟨[], fun z => absurd z q⟩
  obtain ⟨U, hU⟩ := Classical.axiomOfChoice hw
  let φ : Nat → Nat := fun s => Mc.st l1 r2 (U s)
  have hφ : ∀ u, φ (Mc.st l1 r1 u) = Mc.st l1 r2 u := fun u => (h1.sameL hI h2 e _ _).mp (hU _ (st_lt h1.wf u))
  have inj : ∀ a ∈ List.range r1.length, ∀ b ∈ List.range r1.length, φ a = φ b → a = b := fun a ha b hb q => by
    have := (h1.sameL hI h2 e _ _).mpr q
    rw [hU a (List.mem_range.mp ha), hU b (List.mem_range.mp hb)] at this
    exact this
  have hgo : ∀ s, s < r1.length → ∀ c, c ≤ l1.length → φ (go r1 s c) = go r2 (φ s) c := fun s hs c hc => by
    obtain ⟨u, rfl⟩ := h1.st hI hs
    obtain ⟨x, hx⟩ : ∃ x, l1.idxOf x = c := by
      by_cases z : c < l1.length
      · exact ⟨l1[c], idx_get h1.nd (List.getElem?_eq_getElem z)⟩
      · obtain ⟨x, hx⟩ := hI l1
        exact ⟨x, by rw [List.idxOf_eq_length hx]; omega⟩
    rw [← hx, ← st_cons, hφ, hφ, st_cons]
  have hlt : ∀ s, φ s < r2.length := fun s => st_lt h2.wf _
  have hgl : ∀ s ∈ List.range r1.length, gls r2 (φ s) = (gls r1 s).map φ := fun s hs => by
    have hs := List.mem_range.mp hs
    refine List.ext_getElem? fun c => ?_
    rw [List.getElem?_map]
    by_cases hc : c ≤ l1.length
    · rw [h1.wf.go_at hs hc, h2.wf.go_at (hlt s) hc, Option.map_some, hgo s hs c hc]
    · rw [List.getElem?_eq_none (by rw [h2.wf.len _ (hlt s)]; omega), List.getElem?_eq_none (by rw [h1.wf.len s hs]; omega)]
      rfl
  have h0 : φ 0 = 0 := hφ []
  have hb := h1.ord.map inj hgl
  rw [h0] at hb
  have hr := hb.uniq h2.ord
  have hn : r1.length = r2.length := by
    have := congrArg List.length hr
    rwa [List.length_map, List.length_range, List.length_range] at this
  have hid : ∀ s, s < r1.length → φ s = s := fun s hs => by
    have := congrArg (fun l => l[s]?) hr
    simp only [List.getElem?_map, List.getElem?_range hs, List.getElem?_range (hn ▸ hs), Option.map_some] at this
    exact Option.some.inj this
  refine List.ext_getElem? fun s => ?_
  by_cases hs : s < r1.length
  · have hs2 : s < r2.length := hn ▸ hs
    rw [List.getElem?_eq_getElem hs, List.getElem?_eq_getElem hs2]
    have g1 : gls r2 s = gls r1 s := by
      have := hgl s (List.mem_range.mpr hs)
      rw [hid s hs] at this
      rw [this, List.map_congr_left (g := id) fun x hx => hid x (h1.wf.lt s hs x hx), List.map_id]
    have a1 : acc r1 s = acc r2 s := by
      obtain ⟨u, hu⟩ := h1.st hI hs
      have := e u
      unfold Lg at this
      rw [← hφ u, hu, hid s hs] at this
      exact this
    congr 1
    refine Prod.ext ?_ ?_
    · have := a1
      unfold acc at this
      rw [List.getD_eq_getElem?_getD, List.getD_eq_getElem?_getD, List.getElem?_eq_getElem hs, List.getElem?_eq_getElem hs2] at this
      exact this
    · have := g1
      unfold gls at this
      rw [List.getD_eq_getElem?_getD, List.getD_eq_getElem?_getD, List.getElem?_eq_getElem hs, List.getElem?_eq_getElem hs2] at this
      exact this.symm
  · rw [List.getElem?_eq_none (by omega), List.getElem?_eq_none (by omega)]
end
end
end Mc

/-! Me77: sorted(set(numbers)). -/
namespace Me
open PySem PySem.Spec PyProof.Rows L2
section
variable {P : Program} {w : World} {A : Around} {E : Value → Shared → Prop} {s : Shared} {h : Heap} {a : Addr} {l : List Int}
/-- a set of these numbers -/
structure IxSet (w : World) (h : Heap) (a : Addr) (l : List Int) : Prop where
  ex : SetR w h a (fun k => decide (k ∈ l)) l.length
theorem IxSet.keep {h' : Heap} (R : IxSet w h a l) (k : ∀ o, h.get? a = some o → h'.get? a = some o) : IxSet w h' a l := ⟨R.ex.at k⟩
/-- what the first i numbers have brought -/
structure FedI (xs : List Int) (i : Nat) (l : List Int) : Prop where
  mem : ∀ x, x ∈ l ↔ x ∈ xs.take i
  nd : l.Nodup
  len : l.length ≤ i
theorem FedI.next {xs l : List Int} {i : Nat} {x : Int} (g : FedI xs i l) (h : xs[i]? = some x) : FedI xs (i + 1) (if x ∈ l then l else x :: l) := by
  refine ⟨fun y => ?_, ?_, ?_⟩
  · rw [List.take_add_one, h, List.mem_append, ← g.mem]
    show _ ↔ y ∈ l ∨ y ∈ [x]
    rw [List.mem_singleton]
    split
    · rename_i hx
      exact ⟨.inl, fun z => z.elim id fun e => e ▸ hx⟩
    · rw [List.mem_cons]
      exact Or.comm
  · split
    · exact g.nd
    · rename_i hx
      exact List.nodup_cons.mpr ⟨hx, g.nd⟩
  · split
    · exact Nat.le_succ_of_le g.len
    · exact Nat.succ_le_succ g.len
end
section
variable {S : Sc} {env : En} {μ : Mu} {e : Expr} {P : KD} {p p2 q pos : Pos}
end
end Me

/-! Me78: sum of numbers. -/
namespace Me
open PySem PySem.Spec PyProof.Rows L2
section
variable {S : Sc} {env : En} {μ : Mu} {d : D} {P : KD}
end
end Me

/-! Me79: max(list of ints), min(list of ints). -/
namespace Me
open PySem PySem.Spec PyProof.Rows L2
section
variable {S : Sc} {env : En} {μ : Mu} {d : D} {P : KD}
end
end Me

/-! Me80: repr of data with dicts among them. -/
namespace PySem
open Sem (wp)
mutual
/-- data as they lie, no dict of them that of the modules -/
inductive RdS (h : Heap) : Value → PyData → List Addr → Prop
  | none : RdS h .none .none []
  | bool (b) : RdS h (.bool b) (.bool b) []
  | int (i t) : RdS h (.int i t) (.int i) []
  | str (x t) : RdS h (.str x t) (.str x) []
  | list {a o vs n xs as} : h.get? a = some o → o.cls = .type "list" → o.data = .seq vs n → RdSs h vs.toList xs as → RdS h (.ref a) (.list xs) (a :: as)
  | tuple {a o vs n xs as} : h.get? a = some o → o.cls = .type "tuple" → o.data = .seq vs n → RdSs h vs.toList xs as → RdS h (.ref a) (.tuple xs) as
  | dict {a o es n kvs as bs} : (a == sysModules) = false → h.get? a = some o → o.cls = .type "dict" → o.data = .dict es n → RdSs h (es.toList.map (·.key)) (kvs.map (·.1)) as →
      RdSs h (es.toList.map (·.val)) (kvs.map (·.2)) bs → RdS h (.ref a) (.dict kvs) (a :: as ++ bs)
inductive RdSs (h : Heap) : List Value → List PyData → List Addr → Prop
  | nil : RdSs h [] [] []
  | cons {v vs d ds as bs} : RdS h v d as → RdSs h vs ds bs → RdSs h (v :: vs) (d :: ds) (as ++ bs)
end
section
variable {prog : Program} {w : World} {h₀ : Heap}
mutual
theorem RdS.reads : ∀ {v : Value} {d : PyData} {as : List Addr}, RdS h₀ v d as → Reads h₀ v d as
  | _, _, _, .none => .none
  | _, _, _, .bool b => .bool b
  | _, _, _, .int i t => .int i t
  | _, _, _, .str x t => .str x t
  | _, _, _, .list h1 h2 h3 h4 => .list h1 h2 h3 h4.reads
  | _, _, _, .tuple h1 h2 h3 h4 => .tuple h1 h2 h3 h4.reads
  | _, _, _, .dict _ h1 h2 h3 h4 h5 => .dict h1 h2 h3 h4.reads h5.reads
theorem RdSs.reads : ∀ {v : List Value} {d : List PyData} {as : List Addr}, RdSs h₀ v d as → ReadsAll h₀ v d as
  | _, _, _, .nil => .nil
  | _, _, _, .cons r rs => .cons r.reads rs.reads
end
mutual
theorem ReprK.of_rds : ∀ {v : Value} {d : PyData} {as : List Addr}, RdS h₀ v d as → d.showable = true → d.shown.length ≤ sizeLine → ∃ bs, ReadAtMost h₀ d.depth bs ∧ ReprK prog w bs h₀ d.depth v d.shown
  | _, _, _, .none, _, _ => ⟨[], (fun _ h => nomatch h), by simp only [PyData.shown]; exact .of_is ReprIs.none _ _ _⟩
  | _, _, _, .bool b, _, _ => ⟨[], (fun _ h => nomatch h), by simp only [PyData.shown]; exact .of_is (ReprIs.bool b) _ _ _⟩
  | _, _, _, .int i t, hs, _ => ⟨[], (fun _ h => nomatch h), by simp only [PyData.shown]; exact .of_is (ReprIs.int t (by simpa [PyData.showable] using hs)) _ _ _⟩
  | _, _, _, .str x t, _, hz => ⟨[], (fun _ h => nomatch h), by simp only [PyData.shown]; exact .of_is (ReprIs.str x t (by simpa only [PyData.shown] using hz)) _ _ _⟩
  | _, _, _, .list (a := a) (vs := vs) (xs := xs) h1 h2 h3 h4, hs, hz => by
    have hz' : (listText (PyData.shownAll xs)).length ≤ sizeLine := by simpa only [PyData.shown] using hz
    obtain ⟨bs, hb, hk⟩ := ReprAllK.of_rdss h4 (by simpa [PyData.showable] using hs) (fun t ht => Nat.le_trans (listText_mem_le ht) hz')
    have r : Reads h₀ (.ref a) (.list xs) _ := .list h1 h2 h3 h4.reads
    have hna : a ∉ bs := not_mem_of_deeper r (by simp only [PyData.depth]; omega) hb
    refine ⟨a :: bs, ReadAtMost.cons r (by simp only [PyData.depth]; omega) hb, ?_⟩
    simp only [PyData.depth, PyData.shown]
    obtain ⟨l⟩ := vs
    cases l with
    | nil =>
      have h4' : RdSs h₀ [] xs _ := h4
      cases h4'
      simp only [PyData.shownAll, listText_nil]
      exact ReprK.listEmpty h1 h2 h3
    | cons x l => exact ReprK.list h1 h2 h3 hna (by simpa using hk.length_eq) (fun i y e => hk.item i y (by simpa using e))
  | _, _, _, .tuple (a := a) (xs := xs) h1 h2 h3 h4, hs, hz => by
    have hz' : (tupleText (PyData.shownAll xs)).length ≤ sizeLine := by simpa only [PyData.shown] using hz
    obtain ⟨bs, hb, hk⟩ := ReprAllK.of_rdss h4 (by simpa [PyData.showable] using hs) (fun t ht => Nat.le_trans (tupleText_mem_le ht) hz')
    have r : Reads h₀ (.ref a) (.tuple xs) _ := .tuple h1 h2 h3 h4.reads
    have hna : a ∉ bs := not_mem_of_deeper r (by simp only [PyData.depth]; omega) hb
    refine ⟨a :: bs, ReadAtMost.cons r (by simp only [PyData.depth]; omega) hb, ?_⟩
    simp only [PyData.depth, PyData.shown]
    exact ReprK.tuple h1 h2 h3 hna hk
  | _, _, _, .dict (a := a) (es := es) (kvs := kvs) (as := as₁) (bs := bs₁) h0 h1 h2 h3 h4 h5, hs, hz => by
    have hz' : (dictText (PyData.shownKv kvs)).length ≤ sizeLine := by simpa only [PyData.shown] using hz
    obtain ⟨hs1, hs2⟩ := PyData.showableKv_split kvs (by simpa [PyData.showable] using hs)
    obtain ⟨b1, hb1, k1⟩ := ReprAllK.of_rdss h4 hs1 (fun t ht => let ⟨p, hp, hl⟩ := PyData.shownKv_key_le kvs t ht; Nat.le_trans hl (Nat.le_trans (dictText_mem_le hp) hz'))
    obtain ⟨b2, hb2, k2⟩ := ReprAllK.of_rdss h5 hs2 (fun t ht => let ⟨p, hp, hl⟩ := PyData.shownKv_val_le kvs t ht; Nat.le_trans hl (Nat.le_trans (dictText_mem_le hp) hz'))
    have r : Reads h₀ (.ref a) (.dict kvs) _ := .dict h1 h2 h3 h4.reads h5.reads
    have hb : ReadAtMost h₀ (PyData.depthKv kvs) (b1 ++ b2) := (hb1.mono (PyData.depthAll_keys_le kvs)).append (hb2.mono (PyData.depthAll_vals_le kvs))
    have hna : a ∉ b1 ++ b2 := not_mem_of_deeper r (by simp only [PyData.depth]; omega) hb
    refine ⟨a :: (b1 ++ b2), ReadAtMost.cons r (by simp only [PyData.depth]; omega) hb, ?_⟩
    simp only [PyData.depth, PyData.shown, PyData.shownKv_eq]
    exact ReprK.dict h1 h2 h3 h0 hna (ReprEntriesK.of_two es.toList _ _
      (k1.more_le (fun b hb => List.mem_append_left _ hb) (PyData.depthAll_keys_le kvs)) (k2.more_le (fun b hb => List.mem_append_right _ hb) (PyData.depthAll_vals_le kvs)))
theorem ReprAllK.of_rdss : ∀ {vs : List Value} {ds : List PyData} {as : List Addr}, RdSs h₀ vs ds as → PyData.showableAll ds = true → (∀ t ∈ PyData.shownAll ds, t.length ≤ sizeLine) →
    ∃ bs, ReadAtMost h₀ (PyData.depthAll ds) bs ∧ ReprAllK prog w bs h₀ (PyData.depthAll ds) vs (PyData.shownAll ds)
  | _, _, _, .nil, _, _ => ⟨[], (fun _ h => nomatch h), by simp only [PyData.shownAll]; exact .nil⟩
  | _, _, _, .cons (d := d) (ds := ds) r rs, hs, hz => by
    have hs' : d.showable = true ∧ PyData.showableAll ds = true := by simpa [PyData.showableAll] using hs
    obtain ⟨b1, hb1, k1⟩ := ReprK.of_rds r hs'.1 (hz _ (by simp only [PyData.shownAll]; exact List.mem_cons_self ..))
    obtain ⟨b2, hb2, k2⟩ := ReprAllK.of_rdss rs hs'.2 (fun t ht => hz t (by simp only [PyData.shownAll]; exact List.mem_cons_of_mem _ ht))
    refine ⟨b1 ++ b2, (hb1.mono (by simp only [PyData.depthAll]; omega)).append (hb2.mono (by simp only [PyData.depthAll]; omega)), ?_⟩
    simp only [PyData.depthAll, PyData.shownAll]
    exact .cons ((k1.more fun b hb => List.mem_append_left _ hb).level_le (Nat.le_max_left _ _)) (k2.more_le (fun b hb => List.mem_append_right _ hb) (Nat.le_max_right _ _))
end
variable {a : Addr} {d : PyData} {as : List Addr}
theorem showsBy_of_rds (r : RdS h₀ (.ref a) d as) (hs : d.showable = true) (hsz : d.shown.length ≤ sizeLine) : ∃ T idr, ShowsBy prog w h₀ a d T idr := by
  cases r with
  | list h1 h2 h3 h4 =>
    rename_i o vs n xs bs₀
    have hz' : (listText (PyData.shownAll xs)).length ≤ sizeLine := by simpa only [PyData.shown] using hsz
    obtain ⟨bs, hb, hk⟩ := ReprAllK.of_rdss (prog := prog) (w := w) h4 (by simpa [PyData.showable] using hs) (fun t ht => Nat.le_trans (listText_mem_le ht) hz')
    have hna : a ∉ bs := not_mem_of_deeper (.list h1 h2 h3 h4.reads) (by simp only [PyData.depth]; omega) hb
    refine ⟨"list", "list.__repr__", F.slot_list_repr.toG, F.slot_list_str, F.slot_list_format, fun s hk0 => ⟨o, hk0 _ _ h1, h2⟩, fun A E s Q hg hu hk0 hQ => ?_⟩
    simp only [PyData.depth] at hu
    simp only [PyData.shown] at hQ
    obtain ⟨l⟩ := vs
    cases l with
    | nil =>
      have h4' : RdSs h₀ [] xs _ := h4
      cases h4'
      simp only [PyData.shownAll, listText_nil] at hQ
      exact call_list_repr_empty ⟨o, hk0 _ _ h1, h2⟩ (hk0 _ _ h1) h3 (hQ s.heap _ _ fun _ _ e => e)
    | cons x l =>
      exact call_list_reprK h1 h2 h3 hna (by simpa using hk.length_eq) (fun i y e => hk.item i y (by simpa using e)) hg (fun b _ => Clear.nil b) hu hk0 hQ hz'
  | tuple h1 h2 h3 h4 =>
    rename_i o vs n xs
    have hz' : (tupleText (PyData.shownAll xs)).length ≤ sizeLine := by simpa only [PyData.shown] using hsz
    obtain ⟨bs, hb, hk⟩ := ReprAllK.of_rdss (prog := prog) (w := w) h4 (by simpa [PyData.showable] using hs) (fun t ht => Nat.le_trans (tupleText_mem_le ht) hz')
    have hna : a ∉ bs := not_mem_of_deeper (.tuple h1 h2 h3 h4.reads) (by simp only [PyData.depth]; omega) hb
    refine ⟨"tuple", "tuple.__repr__", F.slot_tuple_repr, F.slot_tuple_str, F.slot_tuple_format, fun s hk0 => ⟨o, hk0 _ _ h1, h2⟩, fun A E s Q hg hu hk0 hQ => ?_⟩
    simp only [PyData.depth] at hu
    simp only [PyData.shown] at hQ
    exact call_tuple_reprK h1 h2 h3 hna hk hg (fun b _ => Clear.nil b) hu hk0 hQ hz'
  | dict h0 h1 h2 h3 h4 h5 =>
    rename_i o es n kvs as₁ bs₁
    have hz' : (dictText (PyData.shownKv kvs)).length ≤ sizeLine := by simpa only [PyData.shown] using hsz
    obtain ⟨hs1, hs2⟩ := PyData.showableKv_split kvs (by simpa [PyData.showable] using hs)
    obtain ⟨b1, hb1, k1⟩ := ReprAllK.of_rdss (prog := prog) (w := w) h4 hs1 (fun t ht => let ⟨p, hp, hl⟩ := PyData.shownKv_key_le kvs t ht; Nat.le_trans hl (Nat.le_trans (dictText_mem_le hp) hz'))
    obtain ⟨b2, hb2, k2⟩ := ReprAllK.of_rdss (prog := prog) (w := w) h5 hs2 (fun t ht => let ⟨p, hp, hl⟩ := PyData.shownKv_val_le kvs t ht; Nat.le_trans hl (Nat.le_trans (dictText_mem_le hp) hz'))
    have hb : ReadAtMost h₀ (PyData.depthKv kvs) (b1 ++ b2) := (hb1.mono (PyData.depthAll_keys_le kvs)).append (hb2.mono (PyData.depthAll_vals_le kvs))
    have hna : a ∉ b1 ++ b2 := not_mem_of_deeper (.dict h1 h2 h3 h4.reads h5.reads) (by simp only [PyData.depth]; omega) hb
    refine ⟨"dict", "dict.__repr__", F.slot_dict_repr, F.slot_dict_str, F.slot_dict_format, fun s hk0 => ⟨o, hk0 _ _ h1, h2⟩, fun A E s Q hg hu hk0 hQ => ?_⟩
    simp only [PyData.depth] at hu
    simp only [PyData.shown, PyData.shownKv_eq] at hQ
    exact call_dict_reprK h1 h2 h3 h0 hna (ReprEntriesK.of_two es.toList _ _
      (k1.more_le (fun b hb => List.mem_append_left _ hb) (PyData.depthAll_keys_le kvs)) (k2.more_le (fun b hb => List.mem_append_right _ hb) (PyData.depthAll_vals_le kvs))) hg (fun b _ => Clear.nil b) hu hk0 hQ (by rw [← PyData.shownKv_eq]; exact hz')
theorem repr_of_rds {A : Around} {E : Value → Shared → Prop} {s : Shared} {Q : Value → Shared → Prop} (r : RdS h₀ (.ref a) d as) (hs : d.showable = true) (hg : A.guards = some []) (hu : A.units + (d.depth + 1) < cLine) (hk0 : ∀ b o, h₀.get? b = some o → s.heap.get? b = some o)
    (hQ : ∀ h' u tk, (∀ b o, s.heap.get? b = some o → h'.get? b = some o) → Q (.str d.shown u) { s with heap := h', toks := tk })
    (hsz : d.shown.length ≤ sizeLine) : wpAny (model prog w) A (call (.builtin "repr") [.ref a]) Q E s := by
  obtain ⟨T, idr, S⟩ := showsBy_of_rds (prog := prog) (w := w) r hs hsz
  exact call_repr_slot (by omega) (S.typeIs s hk0) S.slotRepr (S.call A.in1 E s _ hg (by show A.units + 1 + d.depth < cLine; omega) hk0 fun h' u tk hk => ⟨_, _, rfl, hQ h' u tk hk⟩)
end
end PySem
namespace Me
open PySem PySem.Spec PyProof.Rows L2
def keyPy : Key → PyData
  | .inl i => .int i
  | .inr x => .str x
def dkPy : DK → PyData
  | .k x => keyPy x
  | .t x => .tuple (x.map keyPy)
mutual
/-- a value as data, dicts too, cells looked through -/
inductive Rw (μ : Mu) : D → PyData → Prop
  | non : Rw μ .non .none
  | bl (b : Bool) : Rw μ (.bl b) (.bool b)
  | int (i : Int) : Rw μ (.int i) (.int i)
  | str (x : Str) : Rw μ (.str x) (.str x)
  | lst {ds : List D} {ps : List PyData} : Rws μ ds ps → Rw μ (.lst ds) (.list ps)
  | tup {ds : List D} {ps : List PyData} : Rws μ ds ps → Rw μ (.tup ds) (.tuple ps)
  | cell {j : Nat} {ds : List D} {ps : List PyData} : μ[j]? = some (.lst ds) → Rws μ ds ps → Rw μ (.cell j) (.list ps)
  | dct {t : Bool} {d : D} {kvs : List (DK × D)} {ps : List (PyData × PyData)} {ds : List D} {qs : List PyData} : vw μ d = .dct t kvs → ps.map (·.1) = kvs.map (fun p => dkPy p.1) → ds = kvs.map (·.2) → qs = ps.map (·.2) → Rws μ ds qs → Rw μ d (.dict ps)
inductive Rws (μ : Mu) : List D → List PyData → Prop
  | nil : Rws μ [] []
  | cons {d : D} {ds : List D} {p : PyData} {ps : List PyData} : Rw μ d p → Rws μ ds ps → Rws μ (d :: ds) (p :: ps)
end
theorem Rws.len {μ : Mu} : ∀ {ds : List D} {ps : List PyData}, Rws μ ds ps → ps.length = ds.length
  | _, _, .nil => rfl
  | _, _, .cons _ h => congrArg Nat.succ h.len
theorem key_rd {h : Heap} {k : Key} {v : Value} (e : keyIs k v = true) : ∃ as, RdS h v (keyPy k) as := by
  rcases keyIs_shape e with ⟨i, t, rfl, rfl⟩ | ⟨x, t, rfl, rfl⟩
  · exact ⟨_, .int i t⟩
  · exact ⟨_, .str x t⟩
theorem kv_rd {h : Heap} {k : Key} {u : Value} (e : RelV (kV k) u) : ∃ as, RdS h u (keyPy k) as := by
  cases k with
  | inl i => obtain ⟨t, rfl⟩ := e; exact ⟨_, .int i t⟩
  | inr x => obtain ⟨t, rfl⟩ := e; exact ⟨_, .str x t⟩
theorem kvs_rd {h : Heap} : ∀ {ks : List Key} {us : List Value}, Vals (ks.map kV) us → ∃ as, RdSs h us (ks.map keyPy) as
  | [], _, r => by cases r; exact ⟨_, .nil⟩
  | k :: ks, _, r => by
    cases r with
    | cons r1 r2 =>
      obtain ⟨_, h1⟩ := kv_rd (h := h) r1
      obtain ⟨_, h2⟩ := kvs_rd (h := h) r2
      exact ⟨_, .cons h1 h2⟩
end Me

/-! Me81: repr of values with dicts among them. -/
namespace Me
open PySem PySem.Spec PyProof.Rows L2
section
variable {Γ : Gam} {F H : Hp} {as : List Ad} {μ : Mu} {P : Program} {w : World}
theorem keysK_rd (h : Heap) : ∀ {es : List DictEntry} {vs : List (Key × V)} {qs : List (Key × Value)} {kvs : List (DK × D)}, Pairs (mixKind P w) es qs → KV vs qs → DKs Γ F as vs kvs →
    (∃ bs, RdSs h (es.map (·.key)) (kvs.map fun p => dkPy p.1) bs) ∧ Vals (vs.map (·.2)) (es.map (·.val)) ∧ DVs Γ F as (vs.map (·.2)) (kvs.map (·.2))
  | [], _, _, _, .nil, .nil, .nil => ⟨⟨_, .nil⟩, .nil, .nil⟩
  | e :: es, _, _, _, .cons h1 h2 t, .cons ⟨e1, r1⟩ t2, .cons d1 t3 => by
    obtain ⟨⟨_, i1⟩, i2, i3⟩ := keysK_rd h t t2 t3
    rw [← e1] at h1
    obtain ⟨_, k1⟩ := key_rd (h := h) h1
    refine ⟨⟨_, .cons k1 i1⟩, ?_, .cons d1 i3⟩
    refine .cons ?_ i2
    show RelV _ e.val
    rw [h2]
    exact r1
theorem keysT_rd {h : Heap} (ok : HOk P w H h) : ∀ {qs : List (List Key × Addr × Value)} {vs : List (List Key × V)} {kvs : List (DK × D)},
    Paired (fun (p : List Key × V) (q : List Key × Addr × Value) => p.1 = q.1 ∧ H q.2.1 = some (.tup (p.1.map kV)) ∧ RelV p.2 q.2.2) vs qs → DTs Γ F as vs kvs →
    (∃ bs, RdSs h ((qs.map (entryOfKey (tupleKind (mixKind P w)))).map (·.key)) (kvs.map fun p => dkPy p.1) bs) ∧ Vals (vs.map (·.2)) ((qs.map (entryOfKey (tupleKind (mixKind P w)))).map (·.val)) ∧ DVs Γ F as (vs.map (·.2)) (kvs.map (·.2))
  | [], _, _, .nil, .nil => ⟨⟨_, .nil⟩, .nil, .nil⟩
  | q :: qs, _, _, .cons ⟨e1, e2, r1⟩ t, .cons d1 t2 => by
    obtain ⟨⟨_, i1⟩, i2, i3⟩ := keysT_rd ok t t2
    obtain ⟨_, its, rv, o, g1, g2, n, g3⟩ := (show ObjOk P w H h _ (.tup _) from ok _ _ e2)
    obtain ⟨_, k1⟩ := kvs_rd (h := h) rv
    refine ⟨⟨_, .cons (.tuple g1 g2 g3 k1) i1⟩, .cons r1 i2, .cons d1 i3⟩
theorem sz_snd : ∀ ps : List (PyData × PyData), sizeOf (ps.map (·.2)) ≤ sizeOf ps
  | [] => Nat.le_refl _
  | (a, b) :: ps => by
    have := sz_snd ps
    simp only [List.map_cons, List.cons.sizeOf_spec, Prod.mk.sizeOf_spec]
    omega
theorem sz_pos (p : PyData) : 0 < sizeOf p := by cases p <;> simp <;> omega
theorem Rw.rdn {X : Cx} {pins : List (Addr × Obj)} {σ : L2.St} {s : Shared} (I : Inv X pins σ H s) (W : Wd Γ F H as μ) : ∀ n : Nat,
    (∀ (p : PyData) (v : V) (u : Value) (d : D), sizeOf p ≤ n → Rw μ d p → DV Γ F as v d → RelV v u → ∃ bs, RdS s.heap u p bs) ∧
    (∀ (ps : List PyData) (vs : List V) (us : List Value) (ds : List D), sizeOf ps ≤ n → Rws μ ds ps → DVs Γ F as vs ds → Vals vs us → ∃ bs, RdSs s.heap us ps bs) := by
  intro n
  induction n with
  | zero =>
    refine ⟨fun p v u d h => ?_, fun ps vs us ds h => ?_⟩
    · have := sz_pos p
      omega
    · cases ps with
      | nil => simp at h
      | cons p ps => simp at h
  | succ n ih =>
    obtain ⟨ih1, ih2⟩ := ih
    refine ⟨fun p v u d hn q r ru => ?_, fun ps vs us ds hn q r ru => ?_⟩
    · cases q with
      | non => cases r; cases ru; exact ⟨_, .none⟩
      | bl b => cases r; cases ru; exact ⟨_, .bool b⟩
      | int i => cases r; obtain ⟨t, rfl⟩ := ru; exact ⟨_, .int i t⟩
      | str x => cases r; obtain ⟨t, rfl⟩ := ru; exact ⟨_, .str x t⟩
      | @lst ds ps t =>
        have hs : sizeOf ps ≤ n := by simp only [PyData.list.sizeOf_spec] at hn; omega
        cases r with
        | lst h1 h2 =>
          cases ru
          obtain ⟨its, rv, ⟨o, n, ho, hc, _, hd⟩, _⟩ := I.list (show SqL X.K H _ _ from .inl (.inl (W.sub _ _ h1)))
          obtain ⟨_, hr⟩ := ih2 _ _ _ _ hs t h2 rv
          exact ⟨_, .list ho hc hd hr⟩
      | @tup ds ps t =>
        have hs : sizeOf ps ≤ n := by simp only [PyData.tuple.sizeOf_spec] at hn; omega
        cases r with
        | tup h1 h2 =>
          cases ru
          obtain ⟨its, rv, ⟨o, ho, hc, n, hd⟩, _⟩ := I.tuple (show SqT X.K H _ _ from .inl (.inl (W.sub _ _ h1)))
          obtain ⟨_, hr⟩ := ih2 _ _ _ _ hs t h2 rv
          exact ⟨_, .tuple ho hc hd hr⟩
      | @cell j ds ps hc t =>
        have hs : sizeOf ps ≤ n := by simp only [PyData.list.sizeOf_spec] at hn; omega
        cases r with
        | cell ha =>
          obtain ⟨_, _, vs, h1, h2⟩ := W.ok _ _ _ ha hc
          cases ru
          obtain ⟨its, rv, ⟨o, n, ho, hc, _, hd⟩, _⟩ := I.list (show SqL X.K H _ _ from .inl (.inl h1))
          obtain ⟨_, hr⟩ := ih2 _ _ _ _ hs t h2 rv
          exact ⟨_, .list ho hc hd hr⟩
      | @dct t d kvs ps ds qs hv z1 e1 e2 tr =>
        have hs : sizeOf qs ≤ n := by
          have := sz_snd ps
          simp only [PyData.dict.sizeOf_spec] at hn
          rw [e2]
          omega
        obtain ⟨a, rfl, hat⟩ := W.dct r hv
        cases ru
        cases t with
        | false =>
          obtain ⟨vs, hd, dks⟩ := hat
          obtain ⟨_, hsm, xs, kv, o, es, ep, h1, h2, h3, _, prs, _⟩ := dk_rd I.hok hd
          obtain ⟨⟨_, k1⟩, k2, k3⟩ := keysK_rd s.heap prs kv dks
          obtain ⟨_, hr⟩ := ih2 _ _ _ _ hs tr (e1.symm ▸ k3) k2
          exact ⟨_, .dict hsm h1 h2.1 h3 (by rw [z1]; exact k1) (e2 ▸ hr)⟩
        | true =>
          obtain ⟨vs, hd, dts⟩ := hat
          obtain ⟨_, hsm, xs, pr, o, es, ep, h1, h2, h3, h4, _⟩ := (show ObjOk X.prog X.w H s.heap a (.dT vs) from rd_of I.hok hd)
          obtain ⟨⟨_, k1⟩, k2, k3⟩ := keysT_rd I.hok pr dts
          rw [← h4] at k1 k2
          obtain ⟨_, hr⟩ := ih2 _ _ _ _ hs tr (e1.symm ▸ k3) k2
          exact ⟨_, .dict hsm h1 h2.1 h3 (by rw [z1]; exact k1) (e2 ▸ hr)⟩
    · cases q with
      | nil => cases r; cases ru; exact ⟨_, .nil⟩
      | @cons d ds p ps q1 q2 =>
        have hs : sizeOf p ≤ n ∧ sizeOf ps ≤ n := by
          have := sz_pos p
          simp only [List.cons.sizeOf_spec] at hn
          constructor <;> omega
        cases r with
        | cons r1 r2 =>
          cases ru with
          | cons u1 u2 =>
            obtain ⟨_, h1⟩ := ih1 _ _ _ _ hs.1 q1 r1 u1
            obtain ⟨_, h2⟩ := ih2 _ _ _ _ hs.2 q2 r2 u2
            exact ⟨_, .cons h1 h2⟩
theorem Rw.rd {X : Cx} {pins : List (Addr × Obj)} {σ : L2.St} {s : Shared} (I : Inv X pins σ H s) (W : Wd Γ F H as μ) {v : V} {u : Value} {d : D} {p : PyData} (q : Rw μ d p) (r : DV Γ F as v d) (ru : RelV v u) : ∃ bs, RdS s.heap u p bs :=
  (Rw.rdn I W (sizeOf p)).1 p v u d (Nat.le_refl _) q r ru
end
section
variable {S : Sc} {env : En} {μ : Mu} {P : KD} {d : D} {p : PyData}
theorem RdS.reprs {X : Cx} {pins : List (Addr × Obj)} {σ : L2.St} {H : Hp} {s : Shared} {u : Value} {bs : List Addr} {Q : VK} (gX : X.A.guards = some []) (hu : X.A.units + 66 < cLine) (I : Inv X pins σ H s) (r : RdS s.heap u p bs) (h1 : p.showable = true) (h2 : p.depth ≤ 64) (h3 : p.shown.length ≤ sizeLine) (q : Q (.str p.shown) H) :
    wpAny (model X.prog X.w) X.A (call (.builtin "repr") [u]) (EP X pins σ Q) X.xe s := by
  cases r with
  | none => exact PySem.P.repr_of_none ⟨.str _, H, I.tok _, ⟨_, rfl⟩, q⟩
  | bool b => exact PySem.P.repr_of_bool ⟨.str _, H, I.tok _, ⟨_, rfl⟩, q⟩
  | int i t => exact PySem.P.repr_of_int (of_decide_eq_true h1) ⟨.str _, H, I.tok _, ⟨_, rfl⟩, q⟩
  | str x t => exact PySem.P.repr_of_str ⟨.str _, H, I.tok _, ⟨_, rfl⟩, q⟩ h3
  | list a1 a2 a3 a4 => exact repr_of_rds (.list a1 a2 a3 a4) h1 gX (by omega) (fun _ _ e => e) (fun h' u tk kept => ⟨.str _, H, I.kept (t' := tk) kept, ⟨_, rfl⟩, q⟩) h3
  | tuple a1 a2 a3 a4 => exact repr_of_rds (.tuple a1 a2 a3 a4) h1 gX (by omega) (fun _ _ e => e) (fun h' u tk kept => ⟨.str _, H, I.kept (t' := tk) kept, ⟨_, rfl⟩, q⟩) h3
  | dict a0 a1 a2 a3 a4 a5 => exact repr_of_rds (.dict a0 a1 a2 a3 a4 a5) h1 gX (by omega) (fun _ _ e => e) (fun h' u tk kept => ⟨.str _, H, I.kept (t' := tk) kept, ⟨_, rfl⟩, q⟩) h3
/-- repr of what can be read as data -/
theorem c_reprW (hw : Rw μ d p) (h1 : p.showable = true) (h2 : p.depth ≤ 64) (h3 : p.shown.length ≤ sizeLine) (k : P (.str p.shown) μ) : Cl S (.builtin "repr") [d] env μ P := by
  intro pins s σ H xs us Q F as I r a r1 kk
  obtain ⟨x, rfl, r2⟩ := dvs1 r1
  obtain ⟨u, rfl, ru⟩ := vals1 r
  obtain ⟨_, hr⟩ := hw.rd I a.w r2 ru
  exact RdS.reprs S.hg (by have := S.hu; omega) I hr h1 h2 h3 (kk.now a.w k (.str _))
end
end Me

set_option maxHeartbeats 4000000
namespace Lm
open PySem PySem.Spec PyProof.Rows L2 Me
def CAlikeS : Ct := fun args μ P _ => ∃ (ds : List D) (p : PyData), args = [.lst ds, .lst ds] ∧ (∀ d ∈ ds, SlfOk d) ∧ Rw μ (.lst ds) p ∧ p.showable = true ∧ p.depth ≤ 64 ∧ p.shown.length ≤ sizeLine ∧ P (.bl true) μ
section
local macro_rules | `(tactic| walk_at "ev") => `(tactic| first
  | refine e_var 0 rfl ?_ | refine e_var 1 rfl ?_ | refine e_var 2 rfl ?_ | refine e_var 3 rfl ?_ | refine e_var 4 rfl ?_ | refine e_var 5 rfl ?_ | refine e_var 6 rfl ?_ | refine e_var 7 rfl ?_ | refine e_var 8 rfl ?_ | refine e_var 9 rfl ?_
  | refine e_var 10 rfl ?_ | refine e_var 11 rfl ?_ | refine e_var 12 rfl ?_ | refine e_var 13 rfl ?_ | refine e_var 14 rfl ?_ | refine e_var 15 rfl ?_ | refine e_var 16 rfl ?_ | refine e_var 17 rfl ?_ | refine e_var 18 rfl ?_ | refine e_var 19 rfl ?_ | refine e_var 20 rfl ?_)
local macro_rules | `(tactic| walk_at "ec") => `(tactic| first
  | refine k_len ?_ | refine k_int ?_ | refine k_tuple ?_ | refine k_list ?_ | refine k_repr ?_ | refine k_sorted ?_ | refine k_dict ?_ | refine k_all ?_ | refine k_min ?_ | refine k_abs ?_ | refine k_isinstance ?_)
local macro_rules | `(tactic| walk_at "ee") => `(tactic| first
  | ((with_reducible show Me.E _ (Expr.Name _ _) _ _ _); walk_at "ev")
  | ((with_reducible show Me.E _ (Expr.Constant _ _ _) _ _ _); first | refine e_int ?_ | refine e_str ?_ | refine e_bl ?_ | refine e_non ?_)
  | ((with_reducible show Me.E _ (Expr.BinOp _ _ _ _) _ _ _); refine e_bin ?_)
  | ((with_reducible show Me.E _ (Expr.Compare _ _ _ _) _ _ _); refine e_cmp ?_)
  | ((with_reducible show Me.E _ (Expr.Subscript _ (Expr.Slice _ _ _ _) _) _ _ _); refine e_sl ?_)
  | ((with_reducible show Me.E _ (Expr.Subscript _ _ _) _ _ _); refine e_ix ?_)
  | ((with_reducible show Me.E _ (Expr.Tuple _ _ _) _ _ _); refine e_tup ?_)
  | ((with_reducible show Me.E _ (Expr.UnaryOp UnaryOp.Not _ _) _ _ _); refine e_not ?_)
  | ((with_reducible show Me.E _ (Expr.UnaryOp _ _ _) _ _ _); refine e_un ?_)
  | ((with_reducible show Me.E _ (Expr.IfExp _ _ _ _) _ _ _); refine e_ite ?_)
  | ((with_reducible show Me.E _ (Expr.BoolOp _ _ _) _ _ _); first | refine e_one ?_ | refine e_and ?_ | refine e_or ?_)
  | ((with_reducible show Me.E _ (Expr.Call (Expr.Name _ _) _ _ _) _ _ _); walk_at "ec"))
local macro_rules | `(tactic| walk_at "bb") => `(tactic| first
  | refine b_nil ?_ | refine b_ret ?_ | refine b_setIx ?_ | refine b_expr ?_
  | refine b_set 0 ?_ | refine b_set 1 ?_ | refine b_set 2 ?_ | refine b_set 3 ?_ | refine b_set 4 ?_ | refine b_set 5 ?_ | refine b_set 6 ?_ | refine b_set 7 ?_ | refine b_set 8 ?_ | refine b_set 9 ?_ | refine b_set 10 ?_ | refine b_set 11 ?_ | refine b_set 12 ?_ | refine b_set 13 ?_ | refine b_set 14 ?_ | refine b_set 15 ?_ | refine b_set 16 ?_ | refine b_set 17 ?_ | refine b_set 18 ?_)
local macro_rules | `(tactic| walk_at "oo") => `(tactic| first
  | ((with_reducible show Op2 _ (binaryOp _) _ _ _ _ _); first
    | (with_reducible refine o_add ?_) | (with_reducible refine o_sub ?_)
    | ((with_reducible show Op2 _ (binaryOp Operator.Mod) (D.int _) (D.int _) _ _ _); refine o_mod (by first | decide | assumption | omega) ?_)
    | ((with_reducible show Op2 _ (binaryOp Operator.FloorDiv) (D.int _) (D.int _) _ _ _); refine o_fdiv (by first | decide | assumption | omega) ?_)
    | ((with_reducible show Op2 _ (binaryOp Operator.Mult) (D.int _) (D.int _) _ _ _); first | refine o_mul (Or.inr ⟨by decide, by decide⟩) ?_ | refine o_mul (Or.inl ⟨by decide, by decide⟩) ?_))
  | ((with_reducible show Op2 _ (compareOp _) _ _ _ _ _); first
    | (with_reducible refine o_lt ?_) | (with_reducible refine o_le ?_) | (with_reducible refine o_gt ?_) | (with_reducible refine o_ge ?_) | (with_reducible refine o_eqI ?_) | (with_reducible refine o_neI ?_) | (with_reducible refine o_eqS ?_) | (with_reducible refine o_neS ?_) | (with_reducible refine o_isN ?_) | (with_reducible refine o_isntN ?_))
  | (with_reducible refine o_neg ?_)
  | ((with_reducible show Cl _ (Value.type "int") _ _ _ _); refine c_int ?_)
  | ((with_reducible show Cl _ (Value.builtin "len") _ _ _ _); first | (with_reducible refine c_lenN ?_) | (with_reducible refine c_lenT ?_) | refine c_lenL rfl ?_)
  | ((with_reducible show Ix2 _ (D.tup _) _ _ _ _); refine x_tup rfl ?_)
  | ((with_reducible show Ix2 _ _ _ _ _ _); refine x_lst rfl rfl ?_))
local macro_rules | `(tactic| walk_at "me") => `(tactic| first
  | ((with_reducible show Me.E _ _ _ _ _); walk_at "ee")
  | ((with_reducible show Me.A _ _ _ _ _); first | refine a_cons ?_ | refine a_nil ?_)
  | ((with_reducible show Me.Thn _ _ _ (Out.next _ _)); refine thn_n ?_)
  | ((with_reducible show Me.B _ _ _ _ _); walk_at "bb")
  | ((with_reducible show Me.T _ _ _ _ _); first | refine t_cmp ?_ | refine t_bop ?_ | refine t_not ?_)
  | ((with_reducible show Me.W _ _ _ _ _); first | refine w_and1 ?_ | refine w_or1 ?_ | refine w_and ?_ | refine w_or ?_)
  | ((with_reducible show Me.OI _ _ _ _ _); first | refine o_none ?_ | refine o_some ?_)
  | walk_at "oo"
  | (with_reducible refine asT_i ?_)
  | (with_reducible refine ⟨_, rfl, ?_⟩))
local macro_rules | `(tactic| walk_at "go") => `(tactic| repeat (walk_at "me"))
variable {w : World} {P : Program} {base : Heap} {mg : Str → Option Value} {K : PySem.W.Frag} {Γ : Gam}
theorem ok_alikeS (hK : Γ.K = K) {f : Addr} {fd : FuncData} {k : Nat} (F : Fun K "_law_alike" "_law_alike" sAlike f fd) (hb : Bi mg) : Gd.FnG P w K mg base (L2.CX P w) (k + 1) f fd pAlike (spM Γ CAlikeS) := by
  refine okM hK hb F scAlike (by rintro _ _ _ _ ⟨ds, p, rfl, _⟩; rfl) ?_
  rintro cdv A outer s H E hg rm _ μ Q Z ⟨ds, p, rfl, hs, hr, h1, h2, h3, q⟩
  walk_at "go"
  refine o_eqSame rfl rfl hs ?_
  refine ⟨true, rfl, fun _ => ?_, fun z => nomatch z⟩
  walk_at "go"
  refine c_reprW hr h1 h2 h3 ?_
  walk_at "go"
  refine c_reprW hr h1 h2 h3 ?_
  walk_at "go"
  refine rt ?_
  rw [decide_eq_true rfl]
  exact q
end
end Lm

set_option maxHeartbeats 4000000
namespace Lm
open PySem PySem.Spec PyProof.Rows L2 Me
structure Sh3 (p : PyData) (h n : Nat) : Prop where
  shw : p.showable = true
  dep : p.depth ≤ h
  txt : p.shown.length ≤ n
theorem Sh3.mono {d : PyData} {h n h' n' : Nat} (o : Sh3 d h n) (a : h ≤ h') (b : n ≤ n') : Sh3 d h' n' := ⟨o.shw, Nat.le_trans o.dep a, Nat.le_trans o.txt b⟩
theorem sh_all {h n : Nat} : ∀ {ds : List PyData}, (∀ d ∈ ds, Sh3 d h n) → PyData.showableAll ds = true ∧ PyData.depthAll ds ≤ h
  | [], _ => ⟨rfl, Nat.zero_le _⟩
  | d :: ds, k => by
    obtain ⟨h2, h3⟩ := sh_all (ds := ds) fun d hd => k d (List.mem_cons_of_mem _ hd)
    have o := k d List.mem_cons_self
    refine ⟨by simp only [PyData.showableAll, o.shw, h2, Bool.and_self], ?_⟩
    show max d.depth (PyData.depthAll ds) ≤ h
    have := o.dep
    omega
theorem Sh3.list {ds : List PyData} {h n : Nat} (k : ∀ d ∈ ds, Sh3 d h n) {m : Nat} (hm : ds.length ≤ m) : Sh3 (.list ds) (h + 1) (m * (n + 2) + 2) := by
  obtain ⟨h2, h3⟩ := sh_all k
  refine ⟨h2, Nat.succ_le_succ h3, ?_⟩
  show (textFrom 0 "[" (PyData.shownAll ds) ++ Str.ofString "]").length ≤ _
  rw [str_len_append]
  have a := textFrom_le (PyData.shownAll ds) 0 "["
  have b := piled_le (shownAll_le fun d hd => (k d hd).txt)
  rw [shownAll_len] at b
  have c : (Str.ofString "[").length = 1 := by decide
  have d : (Str.ofString "]").length = 1 := by decide
  have e : ds.length * (n + 2) ≤ m * (n + 2) := Nat.mul_le_mul_right _ hm
  omega
/-- a cell that a drawn value may be, after n more appends -/
def CellW (n : Nat) (c : Cell) : Prop := c = .dct false none [] ∨ ∃ (i : Int) (k : Nat), 0 ≤ i ∧ i < 9 ∧ k ≤ n ∧ c = .lst (.int i :: List.replicate k (.str "more"))
theorem CellW.mono {n m : Nat} {c : Cell} (h : CellW n c) (hm : n ≤ m) : CellW m c := by
  rcases h with h | ⟨i, k, h1, h2, h3, h4⟩
  · exact .inl h
  · exact .inr ⟨i, k, h1, h2, Nat.le_trans h3 hm, h4⟩
theorem CellV.w {c : Cell} (h : CellV c) : CellW 0 c := by
  rcases h with h | ⟨i, h1, h2, h4⟩
  · exact .inl h
  · exact .inr ⟨i, 0, h1, h2, Nat.le_refl _, h4⟩
def VSt (μ : Mu) (n : Nat) (v : D) : Prop := v ∈ flatVs ∨ ∃ j c, v = .cell (j + 1) ∧ μ[j + 1]? = some c ∧ CellW n c
theorem VSt.mono {μ : Mu} {n m : Nat} {v : D} (h : VSt μ n v) (hm : n ≤ m) : VSt μ m v := by
  rcases h with h | ⟨j, c, h1, h2, h3⟩
  · exact .inl h
  · exact .inr ⟨j, c, h1, h2, h3.mono hm⟩
theorem VSt.app {μ ext : Mu} {n : Nat} {v : D} (h : VSt μ n v) : VSt (μ ++ ext) n v := by
  rcases h with h | ⟨j, c, h1, h2, h3⟩
  · exact .inl h
  · exact .inr ⟨j, c, h1, at_app h2, h3⟩
theorem VSt.bag {s s' : Bag} {m : Mu} {n : Nat} {v : D} (h : VSt (bagC s :: m) n v) : VSt (bagC s' :: m) n v := by
  rcases h with h | ⟨j, c, h1, h2, h3⟩
  · exact .inl h
  · exact .inr ⟨j, c, h1, h2, h3⟩
theorem flat_all : ∀ v ∈ flatVs, v.isPy = true ∧ SeqAt.shaped v.py = true ∧ v.py.depth ≤ 1 ∧ v.py.showable = true ∧ v.py.shown.length ≤ 100 := by
  intro v hv
  unfold flatVs at hv
  simp only [List.mem_cons, List.not_mem_nil, or_false] at hv
  rcases hv with rfl | rfl | rfl | rfl | rfl | rfl | rfl | rfl <;> decide +kernel
theorem flat_rw (μ : Mu) : ∀ v ∈ flatVs, Rw μ v v.py := by
  intro v hv
  unfold flatVs at hv
  simp only [List.mem_cons, List.not_mem_nil, or_false] at hv
  rcases hv with rfl | rfl | rfl | rfl | rfl | rfl | rfl | rfl
  · exact .non
  · exact .bl _
  · exact .int _
  · exact .int _
  · exact .str _
  · exact .tup .nil
  · exact .tup (.cons (.str _) (.cons (.str _) .nil))
  · exact .int _
theorem VSt.slf {μ : Mu} {n : Nat} {v : D} (h : VSt μ n v) : SlfOk v := by
  rcases h with h | ⟨j, c, h1, _⟩
  · have := flat_all v h
    exact .inr ⟨this.1, this.2.1, by omega⟩
  · exact .inl ⟨_, h1⟩
theorem rws_rep (μ : Mu) (x : Str) : ∀ k : Nat, Rws μ (List.replicate k (.str x)) (List.replicate k (.str x))
  | 0 => .nil
  | k + 1 => .cons (.str x) (rws_rep μ x k)
theorem VSt.rw {μ : Mu} {n : Nat} {v : D} (h : VSt μ n v) (hn : n ≤ 3) : ∃ p, Rw μ v p ∧ Sh3 p 2 500 := by
  rcases h with h | ⟨j, c, rfl, h2, h3⟩
  · have := flat_all v h
    exact ⟨_, flat_rw μ v h, this.2.2.2.1, by omega, by omega⟩
  · rcases h3 with rfl | ⟨i, k, i0, i9, hk, rfl⟩
    · exact ⟨.dict [], .dct (ps := []) (vw_dct h2) rfl rfl rfl .nil, by decide +kernel, by decide +kernel, by decide +kernel⟩
    · refine ⟨_, .cell h2 (.cons (.int i) (rws_rep μ "more" k)), ?_⟩
      refine (Sh3.list (h := 0) (n := 80) (m := 4) (fun d hd => ?_) (by rw [List.length_cons, List.length_replicate]; omega)).mono (by decide) (by decide)
      rcases List.mem_cons.mp hd with rfl | hd
      · rcases (show i = 0 ∨ i = 1 ∨ i = 2 ∨ i = 3 ∨ i = 4 ∨ i = 5 ∨ i = 6 ∨ i = 7 ∨ i = 8 by omega) with rfl | rfl | rfl | rfl | rfl | rfl | rfl | rfl | rfl <;> exact ⟨by decide +kernel, by decide +kernel, by decide +kernel⟩
      · rw [List.eq_of_mem_replicate hd]
        exact ⟨by decide +kernel, by decide +kernel, by decide +kernel⟩
theorem fields_all {Pr : D → Prop} {x y z : D} (hx : Pr x) (hy : Pr y) (hz : Pr z) : ∀ d ∈ fieldsD x y z, Pr d := by
  intro d hd
  unfold fieldsD at hd
  simp only [List.mem_cons, List.not_mem_nil, or_false] at hd
  rcases hd with rfl | rfl | rfl | rfl | rfl | rfl | rfl | rfl | rfl | rfl | rfl | rfl | rfl | rfl | rfl <;> assumption
theorem vals_rw {μ : Mu} {n : Nat} {x y z : D} (hn : n ≤ 3) (hx : VSt μ n x) (hy : VSt μ n y) (hz : VSt μ n z) : ∃ p, Rw μ (.lst (fieldsD x y z)) p ∧ p.showable = true ∧ p.depth ≤ 64 ∧ p.shown.length ≤ sizeLine := by
  obtain ⟨px, rx, sx⟩ := hx.rw hn
  obtain ⟨py, ry, sy⟩ := hy.rw hn
  obtain ⟨pz, rz, sz⟩ := hz.rw hn
  refine ⟨.list [px, px, px, px, px, px, px, px, px, px, px, px, px, py, pz], .lst (.cons rx (.cons rx (.cons rx (.cons rx (.cons rx (.cons rx (.cons rx (.cons rx (.cons rx (.cons rx (.cons rx (.cons rx (.cons rx (.cons ry (.cons rz .nil))))))))))))))), ?_⟩
  have s := Sh3.list (ds := [px, px, px, px, px, px, px, px, px, px, px, px, px, py, pz]) (h := 2) (n := 500) (m := 15) (fun d hd => by
    simp only [List.mem_cons, List.not_mem_nil, or_false] at hd
    rcases hd with rfl | rfl | rfl | rfl | rfl | rfl | rfl | rfl | rfl | rfl | rfl | rfl | rfl | rfl | rfl <;> assumption) (Nat.le_refl _)
  exact ⟨s.shw, Nat.le_trans s.dep (by decide), Nat.le_trans s.txt (by rw [sizeLine_eq]; decide)⟩
end Lm

set_option maxHeartbeats 8000000
namespace Lm
open PySem PySem.Spec PyProof.Rows L2 Me
theorem cvalue {b : Bag} {m : Mu} {P : KD} {Z : KX} (gb : Good b) (h : ∀ s' v ext', Good s' → VSt (bagC s' :: (m ++ ext')) 0 v → P v (bagC s' :: (m ++ ext'))) : CValue [.cell 0] (bagC b :: m) P Z :=
  ⟨b, m, rfl, rfl, gb, fun s' v gs hv => by have := h s' v [] gs (.inl hv); rwa [List.append_nil] at this,
    fun s' c gs hc => h s' (.cell (m.length + 1)) [c] gs (.inr ⟨m.length, c, rfl, by simp, hc.w⟩)⟩
def eqAtD (c : Nat) : D → D := fun d => match d with | .int i => .bl (decide (i = (c : Int))) | _ => .non
theorem errs_at (x y z : D) (c : Nat) (hc : c < 19) : ∃ n fs, (errsD x y z)[c]? = some (.err n fs) ∧ n ∈ errNs ∧ (rangeD 0 19).map (eqAtD c) = flagsD n := by
  match c, hc with
  | 0, _ => exact ⟨"Wrong", _, rfl, by simp [errNs], by simp [flagsD, errNs, rangeD]; rfl⟩
  | 1, _ => exact ⟨"NoName", _, rfl, by simp [errNs], by simp [flagsD, errNs, rangeD]; rfl⟩
  | 2, _ => exact ⟨"Full", _, rfl, by simp [errNs], by simp [flagsD, errNs, rangeD]; rfl⟩
  | 3, _ => exact ⟨"NoEntry", _, rfl, by simp [errNs], by simp [flagsD, errNs, rangeD]; rfl⟩
  | 4, _ => exact ⟨"There", _, rfl, by simp [errNs], by simp [flagsD, errNs, rangeD]; rfl⟩
  | 5, _ => exact ⟨"TooMany", _, rfl, by simp [errNs], by simp [flagsD, errNs, rangeD]; rfl⟩
  | 6, _ => exact ⟨"BadFacts", _, rfl, by simp [errNs], by simp [flagsD, errNs, rangeD]; rfl⟩
  | 7, _ => exact ⟨"NoAnswer", _, rfl, by simp [errNs], by simp [flagsD, errNs, rangeD]; rfl⟩
  | 8, _ => exact ⟨"NoHouse", _, rfl, by simp [errNs], by simp [flagsD, errNs, rangeD]; rfl⟩
  | 9, _ => exact ⟨"BadChange", _, rfl, by simp [errNs], by simp [flagsD, errNs, rangeD]; rfl⟩
  | 10, _ => exact ⟨"NoAsk", _, rfl, by simp [errNs], by simp [flagsD, errNs, rangeD]; rfl⟩
  | 11, _ => exact ⟨"Broken", _, rfl, by simp [errNs], by simp [flagsD, errNs, rangeD]; rfl⟩
  | 12, _ => exact ⟨"Hopeless", _, rfl, by simp [errNs], by simp [flagsD, errNs, rangeD]; rfl⟩
  | 13, _ => exact ⟨"NoStep", _, rfl, by simp [errNs], by simp [flagsD, errNs, rangeD]; rfl⟩
  | 14, _ => exact ⟨"Late", _, rfl, by simp [errNs], by simp [flagsD, errNs, rangeD]; rfl⟩
  | 15, _ => exact ⟨"Nothing", _, rfl, by simp [errNs], by simp [flagsD, errNs, rangeD]; rfl⟩
  | 16, _ => exact ⟨"NoDeed", _, rfl, by simp [errNs], by simp [flagsD, errNs, rangeD]; rfl⟩
  | 17, _ => exact ⟨"NoText", _, rfl, by simp [errNs], by simp [flagsD, errNs, rangeD]; rfl⟩
  | 18, _ => exact ⟨"NoCommand", _, rfl, by simp [errNs], by simp [flagsD, errNs, rangeD]; rfl⟩
  | n + 19, h => exact absurd h (by omega)
theorem VSt.put {μ : Mu} {n : Nat} {v : D} {j : Nat} {i : Int} {k : Nat} {c0 : Cell} (h : VSt μ n v) (hj : μ[j + 1]? = some c0) (i0 : 0 ≤ i) (i9 : i < 9) (hk : k ≤ n) : VSt (μ.set (j + 1) (.lst (.int i :: List.replicate (k + 1) (.str "more")))) (n + 1) v := by
  rcases h with h | ⟨j', c, h1, h2, h3⟩
  · exact .inl h
  · by_cases e : j + 1 = j' + 1
    · exact .inr ⟨j', _, h1, by rw [← e]; exact List.getElem?_set_self (List.getElem?_eq_some_iff.mp hj).1, .inr ⟨i, k + 1, i0, i9, Nat.succ_le_succ hk, rfl⟩⟩
    · exact .inr ⟨j', c, h1, by rw [List.getElem?_set_ne e]; exact h2, h3.mono (Nat.le_succ _)⟩
theorem c_isList {S : Sc} {env : En} {μ : Mu} {P : KD} {n : Nat} {v : D} (h : VSt μ n v) (k1 : ∀ (j : Nat) (i : Int) (k : Nat), v = .cell (j + 1) → μ[j + 1]? = some (.lst (.int i :: List.replicate k (.str "more"))) → 0 ≤ i → i < 9 → k ≤ n → P (.bl true) μ) (k0 : P (.bl false) μ) :
    Cl S (.builtin "isinstance") [v, .ty "list"] env μ P := by
  rcases h with h | ⟨j, c, rfl, h2, h3⟩
  · unfold flatVs at h
    simp only [List.mem_cons, List.not_mem_nil, or_false] at h
    rcases h with rfl | rfl | rfl | rfl | rfl | rfl | rfl | rfl
    · exact c_isi (ty_dat (Tn := "NoneType") rfl) rfl (q := false) rfl k0
    · exact c_isi (ty_dat (Tn := "bool") rfl) rfl (q := false) rfl k0
    · exact c_isi (ty_dat (Tn := "int") rfl) rfl (q := false) rfl k0
    · exact c_isi (ty_dat (Tn := "int") rfl) rfl (q := false) rfl k0
    · exact c_isi (ty_dat (Tn := "str") rfl) rfl (q := false) rfl k0
    · exact c_isi (ty_dat (Tn := "tuple") rfl) rfl (q := false) rfl k0
    · exact c_isi (ty_dat (Tn := "tuple") rfl) rfl (q := false) rfl k0
    · exact c_isi (ty_dat (Tn := "int") rfl) rfl (q := false) rfl k0
  · rcases h3 with rfl | ⟨i, k, i0, i9, hk, rfl⟩
    · exact c_isi (ty_dct h2) rfl (q := false) rfl k0
    · exact c_isi (ty_dat (Tn := "list") (by rw [vw_lst h2]; rfl)) rfl (q := true) rfl (k1 j i k rfl h2 i0 i9 hk)
theorem boot_VE : bootBuiltins "ValueError" = some (.type "ValueError") := by kernel_rfl
theorem flags_ok (n : String) : EqOk (.lst (flagsD n)) (.lst (flagsD n)) ∧ eqv (.lst (flagsD n)) (.lst (flagsD n)) = true := by
  have h : SeqAt.shaped (D.lst (flagsD n)).py = true := rfl
  exact ⟨⟨rfl, rfl, h, h⟩, SeqAt.eqv_refl _ (lay_of h)⟩
section
local macro_rules | `(tactic| walk_at "ev") => `(tactic| first
  | refine e_var 0 rfl ?_ | refine e_var 1 rfl ?_ | refine e_var 2 rfl ?_ | refine e_var 3 rfl ?_ | refine e_var 4 rfl ?_ | refine e_var 5 rfl ?_ | refine e_var 6 rfl ?_ | refine e_var 7 rfl ?_ | refine e_var 8 rfl ?_ | refine e_var 9 rfl ?_
  | refine e_var 10 rfl ?_ | refine e_var 11 rfl ?_ | refine e_var 12 rfl ?_ | refine e_var 13 rfl ?_ | refine e_var 14 rfl ?_ | refine e_var 15 rfl ?_ | refine e_var 16 rfl ?_ | refine e_var 17 rfl ?_ | refine e_var 18 rfl ?_ | refine e_var 19 rfl ?_ | refine e_var 20 rfl ?_)
local macro_rules | `(tactic| walk_at "ec") => `(tactic| first
  | refine k_len ?_ | refine k_int ?_ | refine k_tuple ?_ | refine k_list ?_ | refine k_repr ?_ | refine k_sorted ?_ | refine k_dict ?_ | refine k_all ?_ | refine k_min ?_ | refine k_abs ?_ | refine k_isinstance ?_)
local macro_rules | `(tactic| walk_at "ee") => `(tactic| first
  | ((with_reducible show Me.E _ (Expr.Name _ _) _ _ _); walk_at "ev")
  | ((with_reducible show Me.E _ (Expr.Constant _ _ _) _ _ _); first | refine e_int ?_ | refine e_str ?_ | refine e_bl ?_ | refine e_non ?_)
  | ((with_reducible show Me.E _ (Expr.BinOp _ _ _ _) _ _ _); refine e_bin ?_)
  | ((with_reducible show Me.E _ (Expr.Compare _ _ _ _) _ _ _); refine e_cmp ?_)
  | ((with_reducible show Me.E _ (Expr.Subscript _ (Expr.Slice _ _ _ _) _) _ _ _); refine e_sl ?_)
  | ((with_reducible show Me.E _ (Expr.Subscript _ _ _) _ _ _); refine e_ix ?_)
  | ((with_reducible show Me.E _ (Expr.Tuple _ _ _) _ _ _); refine e_tup ?_)
  | ((with_reducible show Me.E _ (Expr.UnaryOp UnaryOp.Not _ _) _ _ _); refine e_not ?_)
  | ((with_reducible show Me.E _ (Expr.UnaryOp _ _ _) _ _ _); refine e_un ?_)
  | ((with_reducible show Me.E _ (Expr.IfExp _ _ _ _) _ _ _); refine e_ite ?_)
  | ((with_reducible show Me.E _ (Expr.BoolOp _ _ _) _ _ _); first | refine e_one ?_ | refine e_and ?_ | refine e_or ?_)
  | ((with_reducible show Me.E _ (Expr.Call (Expr.Name _ _) _ _ _) _ _ _); walk_at "ec"))
local macro_rules | `(tactic| walk_at "bb") => `(tactic| first
  | refine b_nil ?_ | refine b_ret ?_ | refine b_setIx ?_ | refine b_expr ?_
  | refine b_set 0 ?_ | refine b_set 1 ?_ | refine b_set 2 ?_ | refine b_set 3 ?_ | refine b_set 4 ?_ | refine b_set 5 ?_ | refine b_set 6 ?_ | refine b_set 7 ?_ | refine b_set 8 ?_ | refine b_set 9 ?_ | refine b_set 10 ?_ | refine b_set 11 ?_ | refine b_set 12 ?_ | refine b_set 13 ?_ | refine b_set 14 ?_ | refine b_set 15 ?_ | refine b_set 16 ?_ | refine b_set 17 ?_ | refine b_set 18 ?_)
local macro_rules | `(tactic| walk_at "oo") => `(tactic| first
  | ((with_reducible show Op2 _ (binaryOp _) _ _ _ _ _); first
    | (with_reducible refine o_add ?_) | (with_reducible refine o_sub ?_)
    | ((with_reducible show Op2 _ (binaryOp Operator.Mod) (D.int _) (D.int _) _ _ _); refine o_mod (by first | decide | assumption | omega) ?_)
    | ((with_reducible show Op2 _ (binaryOp Operator.FloorDiv) (D.int _) (D.int _) _ _ _); refine o_fdiv (by first | decide | assumption | omega) ?_)
    | ((with_reducible show Op2 _ (binaryOp Operator.Mult) (D.int _) (D.int _) _ _ _); first | refine o_mul (Or.inr ⟨by decide, by decide⟩) ?_ | refine o_mul (Or.inl ⟨by decide, by decide⟩) ?_))
  | ((with_reducible show Op2 _ (compareOp _) _ _ _ _ _); first
    | (with_reducible refine o_lt ?_) | (with_reducible refine o_le ?_) | (with_reducible refine o_gt ?_) | (with_reducible refine o_ge ?_) | (with_reducible refine o_eqI ?_) | (with_reducible refine o_neI ?_) | (with_reducible refine o_eqS ?_) | (with_reducible refine o_neS ?_) | (with_reducible refine o_isN ?_) | (with_reducible refine o_isntN ?_))
  | (with_reducible refine o_neg ?_)
  | ((with_reducible show Cl _ (Value.type "int") _ _ _ _); refine c_int ?_)
  | ((with_reducible show Cl _ (Value.builtin "len") _ _ _ _); first | (with_reducible refine c_lenN ?_) | (with_reducible refine c_lenT ?_) | refine c_lenL rfl ?_)
  | ((with_reducible show Ix2 _ (D.tup _) _ _ _ _); refine x_tup rfl ?_)
  | ((with_reducible show Ix2 _ _ _ _ _ _); refine x_lst rfl rfl ?_))
local macro_rules | `(tactic| walk_at "me") => `(tactic| first
  | ((with_reducible show Me.E _ _ _ _ _); walk_at "ee")
  | ((with_reducible show Me.A _ _ _ _ _); first | refine a_cons ?_ | refine a_nil ?_)
  | ((with_reducible show Me.Thn _ _ _ (Out.next _ _)); refine thn_n ?_)
  | ((with_reducible show Me.B _ _ _ _ _); walk_at "bb")
  | ((with_reducible show Me.T _ _ _ _ _); first | refine t_cmp ?_ | refine t_bop ?_ | refine t_not ?_)
  | ((with_reducible show Me.W _ _ _ _ _); first | refine w_and1 ?_ | refine w_or1 ?_ | refine w_and ?_ | refine w_or ?_)
  | ((with_reducible show Me.OI _ _ _ _ _); first | refine o_none ?_ | refine o_some ?_)
  | walk_at "oo"
  | (with_reducible refine asT_i ?_)
  | (with_reducible refine ⟨_, rfl, ?_⟩))
local macro_rules | `(tactic| walk_at "go") => `(tactic| repeat (walk_at "me"))
variable {w : World} {P : Program} {base : Heap} {mg : Str → Option Value} {K : PySem.W.Frag} {Γ : Gam} {cA fA : String → Addr}
theorem ok_law (hK : Γ.K = K) {f fB : Addr} {fd fdB : FuncData} {k kB jv je jf jd ja : Nat} (F : Fun K "law" "law" sLaw f fd) (hb : Bi mg) (GB : FnOk P w K mg base CX0 kB fB fdB ["_law_script"] (spBag K)) (hkb : kB ≤ k) (hmB : mg "_law_bag" = some (.ref fB)) (hkB : PySem.W.keepIn K (.ref fB) = true) (hbB : Binds K fdB ["_law_script"] [])
    (FV : Fn P w K mg base Γ jv "_law_value" CValue) (hjv : jv ≤ k) (FE : Fn P w K mg base Γ je "_law_errors" CErrs) (hje : je ≤ k) (FF : Fn P w K mg base Γ jf "_law_flags" CFlags) (hjf : jf ≤ k) (FD : Fn P w K mg base Γ jd "_law_fields" CFields) (hjd : jd ≤ k) (FA : Fn P w K mg base Γ ja "_law_alike" CAlikeS) (hja : ja ≤ k) (EC : Ecs P K mg Γ cA fA) (hVE : mg "ValueError" = none) :
    Gd.FnG P w K mg base (L2.CX P w) (k + 1) f fd pLaw (spLaw K) := by
  obtain ⟨oc, od, kV, doc, pm, an, cdv, ct', osl, rfl, lk, hcd⟩ := F.ex
  refine Gd.fn_ofG lk hcd scLaw (fun vs H Q E h => by obtain ⟨a, ns, rfl, _⟩ := h; rfl) fun A outer s H vs Q E gA hr0 hsp => ?_
  refine law_first (S := bodyS P w K mg base Γ hK nLaw "law" sLaw f cdv A outer s H E (fun _ _ _ => False) gA scLaw.nd hb k ⟨hr0.dp, hr0.un⟩) 9 hsp (fun _ _ _ z => z) GB (hr0.mono hkb) hmB hkB hbB fun b gb => ?_
  have sz : ∀ {n : Nat}, n ≤ 10000 → n ≤ sizeLine := fun h => by rw [sizeLine_eq]; omega
  refine b_for rfl (g_name 2) (i_range1 hb.range (e_int ⟨_, rfl, by decide, ?_⟩))
  refine ⟨fun _ env' μ' => ∃ s' ext x2 x3 x4 x5 x6 x7 x8 x10, Good s' ∧ μ' = bagC s' :: ext ∧ env' = [none, some (.cell 0), x2, x3, x4, x5, x6, x7, x8, none, x10], ?_⟩
  refine ⟨⟨b, [], none, none, none, none, none, none, none, none, gb, rfl, rfl⟩, fun _ _ _ _ => trivial, ?_, ?_⟩
  · rintro c d _ _ hd0 ⟨b0, ext, x2, x3, x4, x5, x6, x7, x8, x10, g0, rfl, rfl⟩
    refine ⟨_, rfl, b_par3 3 4 5 rfl (a_cons (e_call FV (a_cons (e_var 1 rfl (a_nil (cvalue g0 fun b1 x e1 g1 v1 => ?_))))))⟩
    refine a_cons (e_call FV (a_cons (e_var 1 rfl (a_nil (cvalue g1 fun b2 y e2 g2 v2 => ?_)))))
    refine a_cons (e_call FV (a_cons (e_var 1 rfl (a_nil (cvalue g2 fun b3 z e3 g3 v3 => ?_)))))
    have w1 : VSt (bagC b3 :: (ext ++ e1 ++ e2 ++ e3)) 0 x := VSt.app (μ := bagC b3 :: (ext ++ e1 ++ e2)) (VSt.app (μ := bagC b3 :: (ext ++ e1)) v1.bag)
    have w2 : VSt (bagC b3 :: (ext ++ e1 ++ e2 ++ e3)) 0 y := VSt.app (μ := bagC b3 :: (ext ++ e1 ++ e2)) v2.bag
    generalize ext ++ e1 ++ e2 ++ e3 = m at w1 w2 v3 ⊢
    refine a_nil ⟨_, _, _, rfl, ?_⟩
    refine b_par 6 7 rfl (a_cons (e_call FE (a_cons (e_var 3 rfl (a_cons (e_var 4 rfl (a_cons (e_var 5 rfl (a_nil ⟨x, y, z, rfl, ?_⟩)))))))))
    refine a_cons (e_bin (e_bin (e_lst (a_cons (e_var 3 rfl (a_nil ⟨sz (Nat.le_of_ble_eq_true rfl), e_int (o_mulL rfl ⟨by decide, by decide, by rw [sizeLine_eq]; show 12 ≤ _; decide⟩ (.l ?_))⟩))))))
    refine e_lst (a_cons (e_var 3 rfl (a_cons (e_var 4 rfl (a_cons (e_var 5 rfl (a_nil ⟨sz (Nat.le_of_ble_eq_true rfl), o_addL rfl rfl (sz (Nat.le_of_ble_eq_true rfl)) (.l (a_nil ⟨_, _, rfl, ?_⟩))⟩)))))))
    have hdue : ((List.replicate (Int.toNat 12) [x]).flatten ++ [x, y, z]) = fieldsD x y z := rfl
    rw [hdue]
    refine b_for rfl (g_name 8) (i_range1 hb.range (e_int ⟨_, rfl, by decide, ?_⟩))
    refine ⟨fun _ env' μ' => ∃ x8, μ' = bagC b3 :: m ∧ env' = [none, some (.cell 0), some d, some x, some y, some z, some (.lst (errsD x y z)), some (.lst (fieldsD x y z)), x8, none, x10], ?_⟩
    refine ⟨⟨x8, rfl, rfl⟩, fun _ _ _ _ => trivial, ?_, ?_⟩
    · rintro c2 d2 _ _ hd2 ⟨y8, rfl, rfl⟩
      have hc19 : c2 < 19 := by have := (List.getElem?_eq_some_iff.mp hd2).1; rw [rangeD_len] at this; exact this
      obtain rfl : d2 = .int (c2 : Int) := by
        unfold rangeD at hd2
        rw [List.getElem?_map, List.getElem?_range (by exact hc19)] at hd2
        simpa using hd2.symm
      obtain ⟨n, fs, hn1, hn2, hn3⟩ := errs_at x y z c2 hc19
      have hn : n ∈ "ListError" :: errNs := List.mem_cons_of_mem _ hn2
      refine ⟨_, rfl, b_if (t_cmp (e_call FF (a_cons (e_ix (e_var 6 rfl (e_var 8 rfl (x_lst rfl (L2.atI_nat hn1) (a_nil ⟨n, fs, rfl, hn, ?_⟩))))))))⟩
      refine e_lc 9 rfl (blkOk_by (N := nLaw) (sc := defScope sLaw) (by decide +kernel)) (i_range1 hb.range (e_int ⟨_, rfl, by decide, ?_⟩))
      refine Comp.map (eqAtD c2) (by rw [rangeD_len]; exact sz (by decide)) trivial ?_ ?_
      · intro i d3 hd3
        have hi : i < 19 := by have := (List.getElem?_eq_some_iff.mp hd3).1; rw [rangeD_len] at this; exact this
        obtain rfl : d3 = .int (i : Int) := by
          unfold rangeD at hd3
          rw [List.getElem?_map, List.getElem?_range (by exact hi)] at hd3
          simpa using hd3.symm
        exact ⟨_, rfl, fun s H C cl fp => e_cmp (e_var 9 rfl (e_var 8 rfl (o_eqI ⟨rfl, rfl⟩)))⟩
      · rw [show (rangeD 0 (Int.toNat 19)).map (eqAtD c2) = flagsD n from hn3]
        refine o_ne rfl rfl (flags_ok n).1 (asT_i ⟨fun q => absurd q (by rw [show eqv (vw (bagC b3 :: m) (.lst (flagsD n))) (vw (bagC b3 :: m) (.lst (flagsD n))) = true from (flags_ok n).2]; decide), fun _ => b_nil (thn_n ?_)⟩)
        refine b_if (t_bop (w_or (t_not (t_val (k_isinstance (a_cons (e_ix (e_var 6 rfl (e_var 8 rfl (x_lst rfl (L2.atI_nat hn1) (a_cons (e_cls (cn := "ListError") (EC.cls "ListError" (by simp)).1 (EC.cls "ListError" (by simp)).2.1 (a_nil ?_)))))))))))))
        refine c_isiV EC.hv (EC.cls n hn).1 (EC.cls n hn).2.2 (clsV_c (EC.cls "ListError" (by simp)).1) (EC.up n hn2).1 (asT_i ⟨(fun q => nomatch q), fun _ => ?_⟩)
        refine w_or1 (t_not (t_val (k_isinstance (a_cons (e_ix (e_var 6 rfl (e_var 8 rfl (x_lst rfl (L2.atI_nat hn1) (a_cons ?_)))))))))
        refine e_ty hVE boot_VE (a_nil ?_)
        refine c_isiV EC.hv (EC.cls n hn).1 (EC.cls n hn).2.2 rfl (EC.up n hn2).2 (asT_i ⟨(fun q => nomatch q), fun _ => b_nil (thn_n (b_nil ⟨_, rfl, rfl⟩))⟩)
    · rintro _ _ ⟨y8, rfl, rfl⟩
      obtain ⟨p1, r1, r2, r3, r4⟩ := vals_rw (n := 0) (by decide) w1 w2 v3
      have hsl : ∀ d ∈ fieldsD x y z, SlfOk d := fields_all w1.slf w2.slf v3.slf
      refine b_if (t_not (t_val (e_call FA (a_cons (e_call FD (a_cons (e_var 6 rfl (a_nil ⟨x, y, z, rfl, ?_⟩))))))))
      refine a_cons (e_var 7 rfl (a_nil ⟨_, p1, rfl, hsl, r1, r2, r3, r4, ⟨true, rfl, (fun q => nomatch q), fun _ => b_nil (thn_n ?_)⟩⟩))
      refine b_for rfl (g_name 10) (i_tup (e_tup (a_cons (e_var 3 rfl (a_cons (e_var 4 rfl (a_cons (e_var 5 rfl (a_nil ⟨sz (Nat.le_of_ble_eq_true rfl), _, rfl, ?_⟩)))))))))
      refine ⟨fun c env' μ' => ∃ m' x10, μ' = bagC b3 :: m' ∧ VSt μ' c x ∧ VSt μ' c y ∧ VSt μ' c z ∧ env' = [none, some (.cell 0), some d, some x, some y, some z, some (.lst (errsD x y z)), some (.lst (fieldsD x y z)), y8, none, x10], ?_⟩
      refine ⟨⟨m, x10, rfl, w1, w2, v3, rfl⟩, fun _ _ _ _ => trivial, ?_, ?_⟩
      · rintro c3 d3 _ _ hd3 ⟨m', z10, rfl, u1, u2, u3, rfl⟩
        have hv3 : VSt (bagC b3 :: m') c3 d3 := by
          have := List.mem_of_getElem? hd3
          simp only [List.mem_cons, List.not_mem_nil, or_false] at this
          rcases this with rfl | rfl | rfl <;> assumption
        refine ⟨_, rfl, b_if (t_val (k_isinstance (a_cons (e_var 10 rfl (a_cons (e_ty hb.list Me.boot_list (a_nil ?_)))))))⟩
        refine c_isList hv3 (fun j i k e hj i0 i9 hk => asT_i ⟨fun _ => ?_, fun q => nomatch q⟩) (asT_i ⟨(fun q => nomatch q), fun _ => b_nil (thn_n (b_nil ⟨m', _, rfl, u1.mono (Nat.le_succ _), u2.mono (Nat.le_succ _), u3.mono (Nat.le_succ _), rfl⟩))⟩)
        subst e
        refine b_expr (e_append ?_)
        walk_at "go"
        refine ⟨⟨_, vw_lst hj⟩, ?_⟩
        walk_at "go"
        refine ⟨_, hj, ?_, b_nil (thn_n (b_nil ?_))⟩
        · have hc3 : c3 < 3 := (List.getElem?_eq_some_iff.mp hd3).1
          rw [List.length_cons, List.length_replicate, sizeLine_eq]
          omega
        have hap : (D.int i :: List.replicate k (D.str "more")) ++ [D.str "more"] = D.int i :: List.replicate (k + 1) (D.str "more") := by
          rw [List.cons_append, List.replicate_succ']
        rw [hap]
        exact ⟨m'.set j (.lst (.int i :: List.replicate (k + 1) (.str "more"))), _, rfl, u1.put hj i0 i9 hk, u2.put hj i0 i9 hk, u3.put hj i0 i9 hk, rfl⟩
      · rintro _ _ ⟨m', z10, rfl, u1, u2, u3, rfl⟩
        obtain ⟨p1, r1, r2, r3, r4⟩ := vals_rw (n := 3) (Nat.le_refl _) u1 u2 u3
        refine b_if (t_bop (w_or (t_not (t_val (e_call FA (a_cons (e_call FD (a_cons (e_var 6 rfl (a_nil ⟨x, y, z, rfl, ?_⟩))))))))))
        refine a_cons (e_var 7 rfl (a_nil ⟨_, p1, rfl, hsl, r1, r2, r3, r4, ⟨true, rfl, (fun q => nomatch q), fun _ => ?_⟩⟩))
        refine w_or1 (t_cmp (e_call FF (a_cons (e_err0 (cn := "ListError") EC.hv PySem.F.excBase_ValueError (EC.non "ListError" (by simp)).1 (EC.non "ListError" (by simp)).2.1 (EC.non "ListError" (by simp)).2.2 (EC.cls "ListError" (by simp)).1 (a_nil ⟨"ListError", [], rfl, by simp, ?_⟩)))))
        refine e_bin (e_lst (a_cons (e_bl (a_nil ⟨sz (Nat.le_of_ble_eq_true rfl), e_int (o_mulL rfl ⟨by decide, by decide, by rw [sizeLine_eq]; show 19 ≤ _; decide⟩ (.l ?_))⟩))))
        have hfl : (List.replicate (Int.toNat 19) [D.bl false]).flatten = flagsD "ListError" := by simp [flagsD, errNs, List.replicate]
        rw [hfl]
        refine o_ne rfl rfl (flags_ok "ListError").1 (asT_i ⟨fun q => absurd q (by rw [show eqv (vw (bagC b3 :: m') (.lst (flagsD "ListError"))) (vw (bagC b3 :: m') (.lst (flagsD "ListError"))) = true from (flags_ok "ListError").2]; decide), fun _ => b_nil (thn_n (b_nil ⟨b3, m', _, _, _, _, _, _, _, _, g3, rfl, rfl⟩))⟩)
  · rintro _ _ ⟨s2, ext, x2, x3, x4, x5, x6, x7, x8, x10, gs2, rfl, rfl⟩
    exact b_ret (e_bl ⟨_, rfl⟩)
end
end Lm

namespace Lm
open PySem PySem.Spec PyProof.Rows L2 Me
section
local macro_rules | `(tactic| walk_at "ev") => `(tactic| first
  | refine e_var 0 rfl ?_ | refine e_var 1 rfl ?_ | refine e_var 2 rfl ?_ | refine e_var 3 rfl ?_ | refine e_var 4 rfl ?_ | refine e_var 5 rfl ?_ | refine e_var 6 rfl ?_ | refine e_var 7 rfl ?_ | refine e_var 8 rfl ?_ | refine e_var 9 rfl ?_
  | refine e_var 10 rfl ?_ | refine e_var 11 rfl ?_ | refine e_var 12 rfl ?_ | refine e_var 13 rfl ?_ | refine e_var 14 rfl ?_ | refine e_var 15 rfl ?_ | refine e_var 16 rfl ?_ | refine e_var 17 rfl ?_ | refine e_var 18 rfl ?_ | refine e_var 19 rfl ?_ | refine e_var 20 rfl ?_)
local macro_rules | `(tactic| walk_at "ec") => `(tactic| first
  | refine k_len ?_ | refine k_int ?_ | refine k_tuple ?_ | refine k_list ?_ | refine k_repr ?_ | refine k_sorted ?_ | refine k_dict ?_ | refine k_all ?_ | refine k_min ?_ | refine k_abs ?_ | refine k_isinstance ?_)
local macro_rules | `(tactic| walk_at "ee") => `(tactic| first
  | ((with_reducible show Me.E _ (Expr.Name _ _) _ _ _); walk_at "ev")
  | ((with_reducible show Me.E _ (Expr.Constant _ _ _) _ _ _); first | refine e_int ?_ | refine e_str ?_ | refine e_bl ?_ | refine e_non ?_)
  | ((with_reducible show Me.E _ (Expr.BinOp _ _ _ _) _ _ _); refine e_bin ?_)
  | ((with_reducible show Me.E _ (Expr.Compare _ _ _ _) _ _ _); refine e_cmp ?_)
  | ((with_reducible show Me.E _ (Expr.Subscript _ (Expr.Slice _ _ _ _) _) _ _ _); refine e_sl ?_)
  | ((with_reducible show Me.E _ (Expr.Subscript _ _ _) _ _ _); refine e_ix ?_)
  | ((with_reducible show Me.E _ (Expr.Tuple _ _ _) _ _ _); refine e_tup ?_)
  | ((with_reducible show Me.E _ (Expr.UnaryOp UnaryOp.Not _ _) _ _ _); refine e_not ?_)
  | ((with_reducible show Me.E _ (Expr.UnaryOp _ _ _) _ _ _); refine e_un ?_)
  | ((with_reducible show Me.E _ (Expr.IfExp _ _ _ _) _ _ _); refine e_ite ?_)
  | ((with_reducible show Me.E _ (Expr.BoolOp _ _ _) _ _ _); first | refine e_one ?_ | refine e_and ?_ | refine e_or ?_)
  | ((with_reducible show Me.E _ (Expr.Call (Expr.Name _ _) _ _ _) _ _ _); walk_at "ec"))
local macro_rules | `(tactic| walk_at "bb") => `(tactic| first
  | refine b_nil ?_ | refine b_ret ?_ | refine b_setIx ?_ | refine b_expr ?_
  | refine b_set 0 ?_ | refine b_set 1 ?_ | refine b_set 2 ?_ | refine b_set 3 ?_ | refine b_set 4 ?_ | refine b_set 5 ?_ | refine b_set 6 ?_ | refine b_set 7 ?_ | refine b_set 8 ?_ | refine b_set 9 ?_ | refine b_set 10 ?_ | refine b_set 11 ?_ | refine b_set 12 ?_ | refine b_set 13 ?_ | refine b_set 14 ?_ | refine b_set 15 ?_ | refine b_set 16 ?_ | refine b_set 17 ?_ | refine b_set 18 ?_)
local macro_rules | `(tactic| walk_at "oo") => `(tactic| first
  | ((with_reducible show Op2 _ (binaryOp _) _ _ _ _ _); first
    | (with_reducible refine o_add ?_) | (with_reducible refine o_sub ?_)
    | ((with_reducible show Op2 _ (binaryOp Operator.Mod) (D.int _) (D.int _) _ _ _); refine o_mod (by first | decide | assumption | omega) ?_)
    | ((with_reducible show Op2 _ (binaryOp Operator.FloorDiv) (D.int _) (D.int _) _ _ _); refine o_fdiv (by first | decide | assumption | omega) ?_)
    | ((with_reducible show Op2 _ (binaryOp Operator.Mult) (D.int _) (D.int _) _ _ _); first | refine o_mul (Or.inr ⟨by decide, by decide⟩) ?_ | refine o_mul (Or.inl ⟨by decide, by decide⟩) ?_))
  | ((with_reducible show Op2 _ (compareOp _) _ _ _ _ _); first
    | (with_reducible refine o_lt ?_) | (with_reducible refine o_le ?_) | (with_reducible refine o_gt ?_) | (with_reducible refine o_ge ?_) | (with_reducible refine o_eqI ?_) | (with_reducible refine o_neI ?_) | (with_reducible refine o_eqS ?_) | (with_reducible refine o_neS ?_) | (with_reducible refine o_isN ?_) | (with_reducible refine o_isntN ?_))
  | (with_reducible refine o_neg ?_)
  | ((with_reducible show Cl _ (Value.type "int") _ _ _ _); refine c_int ?_)
  | ((with_reducible show Cl _ (Value.builtin "len") _ _ _ _); first | (with_reducible refine c_lenN ?_) | (with_reducible refine c_lenT ?_) | refine c_lenL rfl ?_)
  | ((with_reducible show Ix2 _ (D.tup _) _ _ _ _); refine x_tup rfl ?_)
  | ((with_reducible show Ix2 _ _ _ _ _ _); refine x_lst rfl rfl ?_))
local macro_rules | `(tactic| walk_at "me") => `(tactic| first
  | ((with_reducible show Me.E _ _ _ _ _); walk_at "ee")
  | ((with_reducible show Me.A _ _ _ _ _); first | refine a_cons ?_ | refine a_nil ?_)
  | ((with_reducible show Me.Thn _ _ _ (Out.next _ _)); refine thn_n ?_)
  | ((with_reducible show Me.B _ _ _ _ _); walk_at "bb")
  | ((with_reducible show Me.T _ _ _ _ _); first | refine t_cmp ?_ | refine t_bop ?_ | refine t_not ?_)
  | ((with_reducible show Me.W _ _ _ _ _); first | refine w_and1 ?_ | refine w_or1 ?_ | refine w_and ?_ | refine w_or ?_)
  | ((with_reducible show Me.OI _ _ _ _ _); first | refine o_none ?_ | refine o_some ?_)
  | walk_at "oo"
  | (with_reducible refine asT_i ?_)
  | (with_reducible refine ⟨_, rfl, ?_⟩))
local macro_rules | `(tactic| walk_at "go") => `(tactic| repeat (walk_at "me"))
variable {w : World} {P : Program} {base : Heap} {mg : Str → Option Value} {K : PySem.W.Frag} {Γ : Gam}
theorem ok_bag {f : Addr} {fd : FuncData} {k : Nat} (F : Fun K "_law_bag" "_law_bag" sBag f fd) (hb : Bi mg) : FnOk P w K mg base CX0 (k + 1) f fd ["_law_script"] (spBag K) := by
  refine F.ok scBag (fun vs H Q E h => ?_) (fun cdv A outer s H vs Q E hr h => ?_)
  · obtain ⟨a, ns, rfl, _⟩ := h
    rfl
  · obtain ⟨a, ns, rfl, hS, hl, q⟩ := h
    refine ⟨_, pss_one (ps_ret (pe_lst (pa_cons pe_int (pa_cons pe_int (pa_cons pe_int (pa_cons (pe_lc (own := [("_law_cell", 1)]) (g := gName 1) (tt := tYes) rfl scBag.nd (pi_list (pe_slice sl_list (pv 0) po_none (po_some pe_int)))
      (blkOk_by (N := nBag) (sc := defScope sBag) (by decide +kernel)) (fun _ _ _ _ _ => pg_name (i := 1) scBag.nd rfl (Or.inl rfl)) (fun _ _ _ _ _ => pts_nil) (fun _ _ _ _ _ => pe_callB call_abs (by rfl) hb.abs (by decide +kernel) (pa_cons (pv 1) pa_nil))) pa_nil)))))), ?_⟩
    refine ⟨.ref a, rfl, 63, rfl, a, ns.map V.int, rfl, hS, fun c nc => ?_⟩
    have cl : (cutV (ns.map V.int) none (some 63)).length ≤ 1000 := Nat.le_trans (cutV_length _ _ _) (by rw [List.length_map]; exact hl)
    have ci : ∀ v ∈ cutV (ns.map V.int) none (some 63), ∃ i, v = V.int i := fun v hv => by
      unfold cutV at hv
      obtain ⟨i, _, rfl⟩ := List.mem_map.mp (List.mem_of_mem_drop (List.mem_of_mem_take hv))
      exact ⟨i, rfl⟩
    refine ⟨c, rfl, ⟨_, .inl (.inl upd_same)⟩, fun D nD => ?_⟩
    have hDc : c ≠ D := fun z => by
      rw [z, upd_same] at nD
      cases nD
    refine lc_list (K := K) (a := c) (xs := cutV (ns.map V.int) none (some 63)) (fun i H2 => H2 c = some (.lst (cutV (ns.map V.int) none (some 63))) ∧ ∃ cs : List Int, H2 D = some (.lst (cs.map V.int)) ∧ cs.length ≤ i) ⟨by rw [upd_ne hDc, upd_same], [], upd_same, Nat.le_refl _⟩ (fun i H2 _ h => .inl (.inl h.1)) ?_ ?_
    · rintro i v H2 hv ⟨h1, cs, h2, h3⟩
      obtain ⟨z, rfl⟩ := ci v (List.mem_of_getElem? hv)
      have hi := (List.getElem?_eq_some_iff.mp hv).1
      refine ⟨rfl, .int z, rfl, z, rfl, cs.map V.int, h2, by rw [List.length_map, sizeLine_eq]; omega, by rw [upd_ne hDc]; exact h1, cs ++ [_], by rw [upd_same, List.map_append]; rfl, by rw [List.length_append]; show cs.length + 1 ≤ i + 1; omega⟩
    · rintro H2 ⟨h1, cs, h2, h3⟩
      refine ⟨by show 4 ≤ sizeLine; decide, fun b nb => q b D cs _ (ne_of_none h2 nb).symm upd_same (by rw [upd_ne (ne_of_none h2 nb)]; exact h2)⟩
end
end Lm

namespace Lm
open PySem PySem.Spec PyProof.Rows L2 Me
def strKeys (es : Array DictEntry) : Bool := es.toList.all fun e => match e.key with | .str _ _ => true | _ => false
theorem nsOk_of {K : PySem.W.Frag} {N : Addr} {c : Value} {d : Option Addr} {es : Array DictEntry} {ep : Nat} {sl : Array (Option Value)} (h : K.lookup N = some ⟨c, d, .dict es ep, sl⟩) (hs : strKeys es = true) : PySem.W.nsOkIn K N = true := by
  unfold PySem.W.nsOkIn
  rw [h]
  show es.all _ = true
  rw [← Array.all_toList]
  exact hs
theorem excIn_base {K : PySem.W.Frag} {C N : Addr} {nm q : Str} {bs bmB : List Value} {hd : Bool} {sn : List Str} {sub : List Value} {ab : Bool} {col : Option Bool} {dd : Option Addr} {k0 k1 k2 k3 k5 : Option Value} {new : String}
    (h1 : K.lookup C = some (excClassObj nm q C N bs bmB hd sn sub ab col dd k0 k1 k2 k3 k5 new)) (hB : ∃ v r, bmB = v :: r) (h2 : PySem.W.nsOkIn K N = true) (h3 : PySem.W.nsIn K N "__init__" = some none) : PySem.W.excIn K C bmB new = true := by
  obtain ⟨v, r, rfl⟩ := hB
  unfold PySem.W.excIn
  rw [h1]
  simp [excClassObj, h2, h3, PySem.W.tailIn]
theorem excIn_own {K : PySem.W.Frag} {C N A NA : Addr} {nm q nm2 q2 : Str} {bs bmB bs2 bm2 : List Value} {hd hd2 : Bool} {sn sn2 : List Str} {sub sub2 : List Value} {ab ab2 : Bool} {col col2 : Option Bool} {dd dd2 : Option Addr} {k0 k1 k2 k3 k5 j0 j1 j2 j3 j5 : Option Value} {new new2 : String}
    (h1 : K.lookup C = some (excClassObj nm q C N bs (.ref A :: bmB) hd sn sub ab col dd k0 k1 k2 k3 k5 new)) (hB : ∃ v r, bmB = v :: r) (h2 : PySem.W.nsOkIn K N = true) (h3 : PySem.W.nsIn K N "__init__" = some none)
    (g1 : K.lookup A = some (excClassObj nm2 q2 A NA bs2 bm2 hd2 sn2 sub2 ab2 col2 dd2 j0 j1 j2 j3 j5 new2)) (g2 : PySem.W.nsOkIn K NA = true) (g3 : PySem.W.nsIn K NA "__init__" = some none) : PySem.W.excIn K C bmB new = true := by
  obtain ⟨v, r, rfl⟩ := hB
  unfold PySem.W.excIn
  rw [h1]
  simp [excClassObj, h2, h3, PySem.W.tailIn, g1, g2, g3]
end Lm

namespace Lm
open PySem PySem.Spec PyProof.Rows L2 Me
theorem kit_self (K : PySem.W.Frag) (C : Addr) : PySem.W.kitOne K (.ref C) (.ref C) = some true := by
  unfold PySem.W.kitOne
  rw [show (Value.ref C == Value.ref C) = true from beq_self_eq_true _]
  rfl
theorem cx_no {P : Program} {w : World} {H : Hp} {s s' : Shared} {u : Value} (h : L2.CX P w [] H s (fun _ _ _ => False) u s') : False := by
  obtain ⟨_, _, _, _, _, _, _, _, _, _, _, _, h⟩ := h
  exact h
/-! ### what the top has written; the law's own head -/
set_option maxHeartbeats 8000000 in
theorem all_mk {l : PySem.W.OpenLaw} {w : World} {K : PySem.W.Frag} {h : Heap} {mg : Str → Option Value} {fa f0 f1 f2 f3 f4 f5 f6 f7 : Addr} (X : K.In h) (G : h.Ns mainGlobals mg) (hfa : mg "law" = some (.ref fa))
    {od0 an0 : Option Addr} {sl0 : Array (Option Value)} {oc0 kV0 dc0 pm0 cd0 ct0 : Value} (a0 : PySem.W.nsIn K mainGlobals "_law_bag" = some (some (.ref f0)))
      (l0 : K.lookup f0 = some ⟨oc0, od0, .func (PySem.W.fnOf "_law_bag" "_law_bag" (defArgs sBag) (defBody sBag) (defScope sBag) .none kV0 dc0 pm0 an0 cd0 ct0), sl0⟩)
      (c0 : PySem.W.codeIn K cd0 "_law_bag" = true) (k0 : PySem.W.keepIn K (.ref f0) = true)
    {od1 an1 : Option Addr} {sl1 : Array (Option Value)} {oc1 kV1 dc1 pm1 cd1 ct1 : Value} (a1 : PySem.W.nsIn K mainGlobals "_law_take" = some (some (.ref f1)))
      (l1 : K.lookup f1 = some ⟨oc1, od1, .func (PySem.W.fnOf "_law_take" "_law_take" (defArgs sTake) (defBody sTake) (defScope sTake) .none kV1 dc1 pm1 an1 cd1 ct1), sl1⟩)
      (c1 : PySem.W.codeIn K cd1 "_law_take" = true) (k1 : PySem.W.keepIn K (.ref f1) = true)
    {od2 an2 : Option Addr} {sl2 : Array (Option Value)} {oc2 kV2 dc2 pm2 cd2 ct2 : Value} (a2 : PySem.W.nsIn K mainGlobals "_law_alike" = some (some (.ref f2)))
      (l2 : K.lookup f2 = some ⟨oc2, od2, .func (PySem.W.fnOf "_law_alike" "_law_alike" (defArgs sAlike) (defBody sAlike) (defScope sAlike) .none kV2 dc2 pm2 an2 cd2 ct2), sl2⟩)
      (c2 : PySem.W.codeIn K cd2 "_law_alike" = true) (k2 : PySem.W.keepIn K (.ref f2) = true)
    {od3 an3 : Option Addr} {sl3 : Array (Option Value)} {oc3 kV3 dc3 pm3 cd3 ct3 : Value} (a3 : PySem.W.nsIn K mainGlobals "_law_errors" = some (some (.ref f3)))
      (l3 : K.lookup f3 = some ⟨oc3, od3, .func (PySem.W.fnOf "_law_errors" "_law_errors" (defArgs sLErrors) (defBody sLErrors) (defScope sLErrors) .none kV3 dc3 pm3 an3 cd3 ct3), sl3⟩)
      (c3 : PySem.W.codeIn K cd3 "_law_errors" = true) (k3 : PySem.W.keepIn K (.ref f3) = true)
    {od4 an4 : Option Addr} {sl4 : Array (Option Value)} {oc4 kV4 dc4 pm4 cd4 ct4 : Value} (a4 : PySem.W.nsIn K mainGlobals "_law_flags" = some (some (.ref f4)))
      (l4 : K.lookup f4 = some ⟨oc4, od4, .func (PySem.W.fnOf "_law_flags" "_law_flags" (defArgs sLFlags) (defBody sLFlags) (defScope sLFlags) .none kV4 dc4 pm4 an4 cd4 ct4), sl4⟩)
      (c4 : PySem.W.codeIn K cd4 "_law_flags" = true) (k4 : PySem.W.keepIn K (.ref f4) = true)
    {od5 an5 : Option Addr} {sl5 : Array (Option Value)} {oc5 kV5 dc5 pm5 cd5 ct5 : Value} (a5 : PySem.W.nsIn K mainGlobals "_law_fields" = some (some (.ref f5)))
      (l5 : K.lookup f5 = some ⟨oc5, od5, .func (PySem.W.fnOf "_law_fields" "_law_fields" (defArgs sLFields) (defBody sLFields) (defScope sLFields) .none kV5 dc5 pm5 an5 cd5 ct5), sl5⟩)
      (c5 : PySem.W.codeIn K cd5 "_law_fields" = true) (k5 : PySem.W.keepIn K (.ref f5) = true)
    {od6 an6 : Option Addr} {sl6 : Array (Option Value)} {oc6 kV6 dc6 pm6 cd6 ct6 : Value} (a6 : PySem.W.nsIn K mainGlobals "_law_value" = some (some (.ref f6)))
      (l6 : K.lookup f6 = some ⟨oc6, od6, .func (PySem.W.fnOf "_law_value" "_law_value" (defArgs sLValue) (defBody sLValue) (defScope sLValue) .none kV6 dc6 pm6 an6 cd6 ct6), sl6⟩)
      (c6 : PySem.W.codeIn K cd6 "_law_value" = true) (k6 : PySem.W.keepIn K (.ref f6) = true)
    {od7 an7 : Option Addr} {sl7 : Array (Option Value)} {oc7 kV7 dc7 pm7 cd7 ct7 : Value} (a7 : PySem.W.nsIn K mainGlobals "law" = some (some (.ref f7)))
      (l7 : K.lookup f7 = some ⟨oc7, od7, .func (PySem.W.fnOf "law" "law" (defArgs sLaw) (defBody sLaw) (defScope sLaw) .none kV7 dc7 pm7 an7 cd7 ct7), sl7⟩)
      (c7 : PySem.W.codeIn K cd7 "law" = true) (k7 : PySem.W.keepIn K (.ref f7) = true)
    {eAWrong eBWrong : Str} {eNWrong eFWrong eDWrong eEWrong : Addr} {ebWrong esbWrong : List Value} {esnWrong : List Str} {eabWrong : Bool} {ecolWrong : Option Bool} {eddWrong : Option Addr} {em0Wrong em1Wrong em2Wrong em3Wrong em5Wrong : Option Value} {eocWrong edcWrong epmWrong ectWrong eclWrong eczWrong : Value} {eodWrong eanWrong ecdWrong ecyWrong : Option Addr} {eslWrong ecsWrong ecxWrong : Array (Option Value)} {evsWrong : Array Value} {efiWrong : Str} {etfWrong : Tok}
      (e1_Wrong : K.lookup CWrong = some (excClassObj eAWrong eBWrong CWrong eNWrong ebWrong [.ref CListError, .type "ValueError", .type "Exception", .type "BaseException", .type "object"] true esnWrong esbWrong eabWrong ecolWrong eddWrong em0Wrong em1Wrong em2Wrong em3Wrong em5Wrong "ValueError.__new__"))
      (e2_Wrong : PySem.W.findIn K (.ref CWrong) "__setattr__" = some (some (.builtin "object.__setattr__"))) (e3_Wrong : PySem.W.findIn K (.ref CWrong) "__getattribute__" = some (some (.builtin "BaseException.__getattribute__"))) (e4_Wrong : PySem.W.findIn K (.ref CWrong) "__getattr__" = some none) (e5_Wrong : PySem.W.findIn K (.ref CWrong) "place" = some none)
      (e6_Wrong : PySem.W.findIn K (.ref CWrong) "__init__" = some (some (.ref eFWrong))) (e7_Wrong : PySem.W.typeIn K (.ref eFWrong) = some (.type "function")) (e8_Wrong : PySem.W.keepIn K (.ref CWrong) = true) (e9_Wrong : PySem.W.subIn K (.ref CWrong) (.type "BaseException") = some true) (e10_Wrong : PySem.W.typeIn K (.ref CWrong) = some (.type "type")) (e11_Wrong : PySem.W.hasDictIn K CWrong = true)
      (e12_Wrong : K.lookup eFWrong = some ⟨eocWrong, eodWrong, .func (PySem.W.ksFn "__init__" "Wrong.__init__" (Er.xA "place" ⟨6, 17, 6, 21⟩ ⟨6, 23, 6, 28⟩) (Er.xB "place" ⟨7, 8, 7, 13⟩ ⟨7, 8, 7, 15⟩ ⟨7, 8, 7, 24⟩ ⟨7, 25, 7, 30⟩ ⟨7, 8, 7, 31⟩ ⟨7, 8, 7, 31⟩ ⟨8, 8, 8, 12⟩ ⟨8, 8, 8, 18⟩ ⟨8, 21, 8, 26⟩ ⟨8, 8, 8, 26⟩) (Er.xS "place") .none .none edcWrong epmWrong eanWrong (.ref eDWrong) ectWrong eEWrong), eslWrong⟩) (e13_Wrong : PySem.W.codeIn K (.ref eDWrong) "Wrong.__init__" = true)
      (e14_Wrong : K.lookup eDWrong = some ⟨eclWrong, ecdWrong, .fields evsWrong, ecsWrong⟩) (e15_Wrong : evsWrong[2]? = some (.str efiWrong etfWrong)) (e16_Wrong : ((l.prog.main.file : Str) == efiWrong) = true) (e17_Wrong : K.lookup eEWrong = some ⟨eczWrong, ecyWrong, .cell (some (.ref CWrong)), ecxWrong⟩)
      (e18_Wrong : PySem.W.mroIn K CWrong (.ref CWrong) = some true) (e19_Wrong : PySem.W.ks_superIn K CWrong CWrong "__init__" = some (some (.builtin "ValueError.__init__"))) (e20_Wrong : PySem.W.subIn K (.ref CWrong) (.type "ValueError") = some true) (e21_Wrong : PySem.W.findIn K (.ref CWrong) "__class__" = some (some (.builtin "object.__class__"))) (e22_Wrong : PySem.W.mroIn K CWrong (.type "object") = some true) (e23_Wrong : PySem.W.subIn K (.ref CWrong) (.ref CListError) = some true)
    {eANoName eBNoName : Str} {eNNoName eFNoName eDNoName eENoName : Addr} {ebNoName esbNoName : List Value} {esnNoName : List Str} {eabNoName : Bool} {ecolNoName : Option Bool} {eddNoName : Option Addr} {em0NoName em1NoName em2NoName em3NoName em5NoName : Option Value} {eocNoName edcNoName epmNoName ectNoName eclNoName eczNoName : Value} {eodNoName eanNoName ecdNoName ecyNoName : Option Addr} {eslNoName ecsNoName ecxNoName : Array (Option Value)} {evsNoName : Array Value} {efiNoName : Str} {etfNoName : Tok}
      (e1_NoName : K.lookup CNoName = some (excClassObj eANoName eBNoName CNoName eNNoName ebNoName [.ref CListError, .type "ValueError", .type "Exception", .type "BaseException", .type "object"] true esnNoName esbNoName eabNoName ecolNoName eddNoName em0NoName em1NoName em2NoName em3NoName em5NoName "ValueError.__new__"))
      (e2_NoName : PySem.W.findIn K (.ref CNoName) "__setattr__" = some (some (.builtin "object.__setattr__"))) (e3_NoName : PySem.W.findIn K (.ref CNoName) "__getattribute__" = some (some (.builtin "BaseException.__getattribute__"))) (e4_NoName : PySem.W.findIn K (.ref CNoName) "__getattr__" = some none) (e5_NoName : PySem.W.findIn K (.ref CNoName) "name" = some none)
      (e6_NoName : PySem.W.findIn K (.ref CNoName) "__init__" = some (some (.ref eFNoName))) (e7_NoName : PySem.W.typeIn K (.ref eFNoName) = some (.type "function")) (e8_NoName : PySem.W.keepIn K (.ref CNoName) = true) (e9_NoName : PySem.W.subIn K (.ref CNoName) (.type "BaseException") = some true) (e10_NoName : PySem.W.typeIn K (.ref CNoName) = some (.type "type")) (e11_NoName : PySem.W.hasDictIn K CNoName = true)
      (e12_NoName : K.lookup eFNoName = some ⟨eocNoName, eodNoName, .func (PySem.W.ksFn "__init__" "NoName.__init__" (Er.xA "name" ⟨11, 17, 11, 21⟩ ⟨11, 23, 11, 27⟩) (Er.xB "name" ⟨12, 8, 12, 13⟩ ⟨12, 8, 12, 15⟩ ⟨12, 8, 12, 24⟩ ⟨12, 25, 12, 29⟩ ⟨12, 8, 12, 30⟩ ⟨12, 8, 12, 30⟩ ⟨13, 8, 13, 12⟩ ⟨13, 8, 13, 17⟩ ⟨13, 20, 13, 24⟩ ⟨13, 8, 13, 24⟩) (Er.xS "name") .none .none edcNoName epmNoName eanNoName (.ref eDNoName) ectNoName eENoName), eslNoName⟩) (e13_NoName : PySem.W.codeIn K (.ref eDNoName) "NoName.__init__" = true)
      (e14_NoName : K.lookup eDNoName = some ⟨eclNoName, ecdNoName, .fields evsNoName, ecsNoName⟩) (e15_NoName : evsNoName[2]? = some (.str efiNoName etfNoName)) (e16_NoName : ((l.prog.main.file : Str) == efiNoName) = true) (e17_NoName : K.lookup eENoName = some ⟨eczNoName, ecyNoName, .cell (some (.ref CNoName)), ecxNoName⟩)
      (e18_NoName : PySem.W.mroIn K CNoName (.ref CNoName) = some true) (e19_NoName : PySem.W.ks_superIn K CNoName CNoName "__init__" = some (some (.builtin "ValueError.__init__"))) (e20_NoName : PySem.W.subIn K (.ref CNoName) (.type "ValueError") = some true) (e21_NoName : PySem.W.findIn K (.ref CNoName) "__class__" = some (some (.builtin "object.__class__"))) (e22_NoName : PySem.W.mroIn K CNoName (.type "object") = some true) (e23_NoName : PySem.W.subIn K (.ref CNoName) (.ref CListError) = some true)
    {eAFull eBFull : Str} {eNFull eFFull eDFull eEFull : Addr} {ebFull esbFull : List Value} {esnFull : List Str} {eabFull : Bool} {ecolFull : Option Bool} {eddFull : Option Addr} {em0Full em1Full em2Full em3Full em5Full : Option Value} {eocFull edcFull epmFull ectFull eclFull eczFull : Value} {eodFull eanFull ecdFull ecyFull : Option Addr} {eslFull ecsFull ecxFull : Array (Option Value)} {evsFull : Array Value} {efiFull : Str} {etfFull : Tok}
      (e1_Full : K.lookup CFull = some (excClassObj eAFull eBFull CFull eNFull ebFull [.ref CListError, .type "ValueError", .type "Exception", .type "BaseException", .type "object"] true esnFull esbFull eabFull ecolFull eddFull em0Full em1Full em2Full em3Full em5Full "ValueError.__new__"))
      (e2_Full : PySem.W.findIn K (.ref CFull) "__setattr__" = some (some (.builtin "object.__setattr__"))) (e3_Full : PySem.W.findIn K (.ref CFull) "__getattribute__" = some (some (.builtin "BaseException.__getattribute__"))) (e4_Full : PySem.W.findIn K (.ref CFull) "__getattr__" = some none) (e5_Full : PySem.W.findIn K (.ref CFull) "limit" = some none)
      (e6_Full : PySem.W.findIn K (.ref CFull) "__init__" = some (some (.ref eFFull))) (e7_Full : PySem.W.typeIn K (.ref eFFull) = some (.type "function")) (e8_Full : PySem.W.keepIn K (.ref CFull) = true) (e9_Full : PySem.W.subIn K (.ref CFull) (.type "BaseException") = some true) (e10_Full : PySem.W.typeIn K (.ref CFull) = some (.type "type")) (e11_Full : PySem.W.hasDictIn K CFull = true)
      (e12_Full : K.lookup eFFull = some ⟨eocFull, eodFull, .func (PySem.W.ksFn "__init__" "Full.__init__" (Er.xA "limit" ⟨16, 17, 16, 21⟩ ⟨16, 23, 16, 28⟩) (Er.xB "limit" ⟨17, 8, 17, 13⟩ ⟨17, 8, 17, 15⟩ ⟨17, 8, 17, 24⟩ ⟨17, 25, 17, 30⟩ ⟨17, 8, 17, 31⟩ ⟨17, 8, 17, 31⟩ ⟨18, 8, 18, 12⟩ ⟨18, 8, 18, 18⟩ ⟨18, 21, 18, 26⟩ ⟨18, 8, 18, 26⟩) (Er.xS "limit") .none .none edcFull epmFull eanFull (.ref eDFull) ectFull eEFull), eslFull⟩) (e13_Full : PySem.W.codeIn K (.ref eDFull) "Full.__init__" = true)
      (e14_Full : K.lookup eDFull = some ⟨eclFull, ecdFull, .fields evsFull, ecsFull⟩) (e15_Full : evsFull[2]? = some (.str efiFull etfFull)) (e16_Full : ((l.prog.main.file : Str) == efiFull) = true) (e17_Full : K.lookup eEFull = some ⟨eczFull, ecyFull, .cell (some (.ref CFull)), ecxFull⟩)
      (e18_Full : PySem.W.mroIn K CFull (.ref CFull) = some true) (e19_Full : PySem.W.ks_superIn K CFull CFull "__init__" = some (some (.builtin "ValueError.__init__"))) (e20_Full : PySem.W.subIn K (.ref CFull) (.type "ValueError") = some true) (e21_Full : PySem.W.findIn K (.ref CFull) "__class__" = some (some (.builtin "object.__class__"))) (e22_Full : PySem.W.mroIn K CFull (.type "object") = some true) (e23_Full : PySem.W.subIn K (.ref CFull) (.ref CListError) = some true)
    {eANoEntry eBNoEntry : Str} {eNNoEntry eFNoEntry eDNoEntry eENoEntry : Addr} {ebNoEntry esbNoEntry : List Value} {esnNoEntry : List Str} {eabNoEntry : Bool} {ecolNoEntry : Option Bool} {eddNoEntry : Option Addr} {em0NoEntry em1NoEntry em2NoEntry em3NoEntry em5NoEntry : Option Value} {eocNoEntry edcNoEntry epmNoEntry ectNoEntry eclNoEntry eczNoEntry : Value} {eodNoEntry eanNoEntry ecdNoEntry ecyNoEntry : Option Addr} {eslNoEntry ecsNoEntry ecxNoEntry : Array (Option Value)} {evsNoEntry : Array Value} {efiNoEntry : Str} {etfNoEntry : Tok}
      (e1_NoEntry : K.lookup CNoEntry = some (excClassObj eANoEntry eBNoEntry CNoEntry eNNoEntry ebNoEntry [.ref CListError, .type "ValueError", .type "Exception", .type "BaseException", .type "object"] true esnNoEntry esbNoEntry eabNoEntry ecolNoEntry eddNoEntry em0NoEntry em1NoEntry em2NoEntry em3NoEntry em5NoEntry "ValueError.__new__"))
      (e2_NoEntry : PySem.W.findIn K (.ref CNoEntry) "__setattr__" = some (some (.builtin "object.__setattr__"))) (e3_NoEntry : PySem.W.findIn K (.ref CNoEntry) "__getattribute__" = some (some (.builtin "BaseException.__getattribute__"))) (e4_NoEntry : PySem.W.findIn K (.ref CNoEntry) "__getattr__" = some none) (e5_NoEntry : PySem.W.findIn K (.ref CNoEntry) "entry" = some none)
      (e6_NoEntry : PySem.W.findIn K (.ref CNoEntry) "__init__" = some (some (.ref eFNoEntry))) (e7_NoEntry : PySem.W.typeIn K (.ref eFNoEntry) = some (.type "function")) (e8_NoEntry : PySem.W.keepIn K (.ref CNoEntry) = true) (e9_NoEntry : PySem.W.subIn K (.ref CNoEntry) (.type "BaseException") = some true) (e10_NoEntry : PySem.W.typeIn K (.ref CNoEntry) = some (.type "type")) (e11_NoEntry : PySem.W.hasDictIn K CNoEntry = true)
      (e12_NoEntry : K.lookup eFNoEntry = some ⟨eocNoEntry, eodNoEntry, .func (PySem.W.ksFn "__init__" "NoEntry.__init__" (Er.xA "entry" ⟨21, 17, 21, 21⟩ ⟨21, 23, 21, 28⟩) (Er.xB "entry" ⟨22, 8, 22, 13⟩ ⟨22, 8, 22, 15⟩ ⟨22, 8, 22, 24⟩ ⟨22, 25, 22, 30⟩ ⟨22, 8, 22, 31⟩ ⟨22, 8, 22, 31⟩ ⟨23, 8, 23, 12⟩ ⟨23, 8, 23, 18⟩ ⟨23, 21, 23, 26⟩ ⟨23, 8, 23, 26⟩) (Er.xS "entry") .none .none edcNoEntry epmNoEntry eanNoEntry (.ref eDNoEntry) ectNoEntry eENoEntry), eslNoEntry⟩) (e13_NoEntry : PySem.W.codeIn K (.ref eDNoEntry) "NoEntry.__init__" = true)
      (e14_NoEntry : K.lookup eDNoEntry = some ⟨eclNoEntry, ecdNoEntry, .fields evsNoEntry, ecsNoEntry⟩) (e15_NoEntry : evsNoEntry[2]? = some (.str efiNoEntry etfNoEntry)) (e16_NoEntry : ((l.prog.main.file : Str) == efiNoEntry) = true) (e17_NoEntry : K.lookup eENoEntry = some ⟨eczNoEntry, ecyNoEntry, .cell (some (.ref CNoEntry)), ecxNoEntry⟩)
      (e18_NoEntry : PySem.W.mroIn K CNoEntry (.ref CNoEntry) = some true) (e19_NoEntry : PySem.W.ks_superIn K CNoEntry CNoEntry "__init__" = some (some (.builtin "ValueError.__init__"))) (e20_NoEntry : PySem.W.subIn K (.ref CNoEntry) (.type "ValueError") = some true) (e21_NoEntry : PySem.W.findIn K (.ref CNoEntry) "__class__" = some (some (.builtin "object.__class__"))) (e22_NoEntry : PySem.W.mroIn K CNoEntry (.type "object") = some true) (e23_NoEntry : PySem.W.subIn K (.ref CNoEntry) (.ref CListError) = some true)
    {eAThere eBThere : Str} {eNThere eFThere eDThere eEThere : Addr} {ebThere esbThere : List Value} {esnThere : List Str} {eabThere : Bool} {ecolThere : Option Bool} {eddThere : Option Addr} {em0There em1There em2There em3There em5There : Option Value} {eocThere edcThere epmThere ectThere eclThere eczThere : Value} {eodThere eanThere ecdThere ecyThere : Option Addr} {eslThere ecsThere ecxThere : Array (Option Value)} {evsThere : Array Value} {efiThere : Str} {etfThere : Tok}
      (e1_There : K.lookup CThere = some (excClassObj eAThere eBThere CThere eNThere ebThere [.ref CListError, .type "ValueError", .type "Exception", .type "BaseException", .type "object"] true esnThere esbThere eabThere ecolThere eddThere em0There em1There em2There em3There em5There "ValueError.__new__"))
      (e2_There : PySem.W.findIn K (.ref CThere) "__setattr__" = some (some (.builtin "object.__setattr__"))) (e3_There : PySem.W.findIn K (.ref CThere) "__getattribute__" = some (some (.builtin "BaseException.__getattribute__"))) (e4_There : PySem.W.findIn K (.ref CThere) "__getattr__" = some none) (e5_There : PySem.W.findIn K (.ref CThere) "name" = some none)
      (e6_There : PySem.W.findIn K (.ref CThere) "__init__" = some (some (.ref eFThere))) (e7_There : PySem.W.typeIn K (.ref eFThere) = some (.type "function")) (e8_There : PySem.W.keepIn K (.ref CThere) = true) (e9_There : PySem.W.subIn K (.ref CThere) (.type "BaseException") = some true) (e10_There : PySem.W.typeIn K (.ref CThere) = some (.type "type")) (e11_There : PySem.W.hasDictIn K CThere = true)
      (e12_There : K.lookup eFThere = some ⟨eocThere, eodThere, .func (PySem.W.ksFn "__init__" "There.__init__" (Er.xA "name" ⟨26, 17, 26, 21⟩ ⟨26, 23, 26, 27⟩) (Er.xB "name" ⟨27, 8, 27, 13⟩ ⟨27, 8, 27, 15⟩ ⟨27, 8, 27, 24⟩ ⟨27, 25, 27, 29⟩ ⟨27, 8, 27, 30⟩ ⟨27, 8, 27, 30⟩ ⟨28, 8, 28, 12⟩ ⟨28, 8, 28, 17⟩ ⟨28, 20, 28, 24⟩ ⟨28, 8, 28, 24⟩) (Er.xS "name") .none .none edcThere epmThere eanThere (.ref eDThere) ectThere eEThere), eslThere⟩) (e13_There : PySem.W.codeIn K (.ref eDThere) "There.__init__" = true)
      (e14_There : K.lookup eDThere = some ⟨eclThere, ecdThere, .fields evsThere, ecsThere⟩) (e15_There : evsThere[2]? = some (.str efiThere etfThere)) (e16_There : ((l.prog.main.file : Str) == efiThere) = true) (e17_There : K.lookup eEThere = some ⟨eczThere, ecyThere, .cell (some (.ref CThere)), ecxThere⟩)
      (e18_There : PySem.W.mroIn K CThere (.ref CThere) = some true) (e19_There : PySem.W.ks_superIn K CThere CThere "__init__" = some (some (.builtin "ValueError.__init__"))) (e20_There : PySem.W.subIn K (.ref CThere) (.type "ValueError") = some true) (e21_There : PySem.W.findIn K (.ref CThere) "__class__" = some (some (.builtin "object.__class__"))) (e22_There : PySem.W.mroIn K CThere (.type "object") = some true) (e23_There : PySem.W.subIn K (.ref CThere) (.ref CListError) = some true)
    {eATooMany eBTooMany : Str} {eNTooMany eFTooMany eDTooMany eETooMany : Addr} {ebTooMany esbTooMany : List Value} {esnTooMany : List Str} {eabTooMany : Bool} {ecolTooMany : Option Bool} {eddTooMany : Option Addr} {em0TooMany em1TooMany em2TooMany em3TooMany em5TooMany : Option Value} {eocTooMany edcTooMany epmTooMany ectTooMany eclTooMany eczTooMany : Value} {eodTooMany eanTooMany ecdTooMany ecyTooMany : Option Addr} {eslTooMany ecsTooMany ecxTooMany : Array (Option Value)} {evsTooMany : Array Value} {efiTooMany : Str} {etfTooMany : Tok}
      (e1_TooMany : K.lookup CTooMany = some (excClassObj eATooMany eBTooMany CTooMany eNTooMany ebTooMany [.ref CListError, .type "ValueError", .type "Exception", .type "BaseException", .type "object"] true esnTooMany esbTooMany eabTooMany ecolTooMany eddTooMany em0TooMany em1TooMany em2TooMany em3TooMany em5TooMany "ValueError.__new__"))
      (e2_TooMany : PySem.W.findIn K (.ref CTooMany) "__setattr__" = some (some (.builtin "object.__setattr__"))) (e3_TooMany : PySem.W.findIn K (.ref CTooMany) "__getattribute__" = some (some (.builtin "BaseException.__getattribute__"))) (e4_TooMany : PySem.W.findIn K (.ref CTooMany) "__getattr__" = some none) (e5_TooMany : PySem.W.findIn K (.ref CTooMany) "limit" = some none)
      (e6_TooMany : PySem.W.findIn K (.ref CTooMany) "__init__" = some (some (.ref eFTooMany))) (e7_TooMany : PySem.W.typeIn K (.ref eFTooMany) = some (.type "function")) (e8_TooMany : PySem.W.keepIn K (.ref CTooMany) = true) (e9_TooMany : PySem.W.subIn K (.ref CTooMany) (.type "BaseException") = some true) (e10_TooMany : PySem.W.typeIn K (.ref CTooMany) = some (.type "type")) (e11_TooMany : PySem.W.hasDictIn K CTooMany = true)
      (e12_TooMany : K.lookup eFTooMany = some ⟨eocTooMany, eodTooMany, .func (PySem.W.ksFn "__init__" "TooMany.__init__" (Er.xA "limit" ⟨31, 17, 31, 21⟩ ⟨31, 23, 31, 28⟩) (Er.xB "limit" ⟨32, 8, 32, 13⟩ ⟨32, 8, 32, 15⟩ ⟨32, 8, 32, 24⟩ ⟨32, 25, 32, 30⟩ ⟨32, 8, 32, 31⟩ ⟨32, 8, 32, 31⟩ ⟨33, 8, 33, 12⟩ ⟨33, 8, 33, 18⟩ ⟨33, 21, 33, 26⟩ ⟨33, 8, 33, 26⟩) (Er.xS "limit") .none .none edcTooMany epmTooMany eanTooMany (.ref eDTooMany) ectTooMany eETooMany), eslTooMany⟩) (e13_TooMany : PySem.W.codeIn K (.ref eDTooMany) "TooMany.__init__" = true)
      (e14_TooMany : K.lookup eDTooMany = some ⟨eclTooMany, ecdTooMany, .fields evsTooMany, ecsTooMany⟩) (e15_TooMany : evsTooMany[2]? = some (.str efiTooMany etfTooMany)) (e16_TooMany : ((l.prog.main.file : Str) == efiTooMany) = true) (e17_TooMany : K.lookup eETooMany = some ⟨eczTooMany, ecyTooMany, .cell (some (.ref CTooMany)), ecxTooMany⟩)
      (e18_TooMany : PySem.W.mroIn K CTooMany (.ref CTooMany) = some true) (e19_TooMany : PySem.W.ks_superIn K CTooMany CTooMany "__init__" = some (some (.builtin "ValueError.__init__"))) (e20_TooMany : PySem.W.subIn K (.ref CTooMany) (.type "ValueError") = some true) (e21_TooMany : PySem.W.findIn K (.ref CTooMany) "__class__" = some (some (.builtin "object.__class__"))) (e22_TooMany : PySem.W.mroIn K CTooMany (.type "object") = some true) (e23_TooMany : PySem.W.subIn K (.ref CTooMany) (.ref CListError) = some true)
    {eABadFacts eBBadFacts : Str} {eNBadFacts eFBadFacts eDBadFacts eEBadFacts : Addr} {ebBadFacts esbBadFacts : List Value} {esnBadFacts : List Str} {eabBadFacts : Bool} {ecolBadFacts : Option Bool} {eddBadFacts : Option Addr} {em0BadFacts em1BadFacts em2BadFacts em3BadFacts em5BadFacts : Option Value} {eocBadFacts edcBadFacts epmBadFacts ectBadFacts eclBadFacts eczBadFacts : Value} {eodBadFacts eanBadFacts ecdBadFacts ecyBadFacts : Option Addr} {eslBadFacts ecsBadFacts ecxBadFacts : Array (Option Value)} {evsBadFacts : Array Value} {efiBadFacts : Str} {etfBadFacts : Tok}
      (e1_BadFacts : K.lookup CBadFacts = some (excClassObj eABadFacts eBBadFacts CBadFacts eNBadFacts ebBadFacts [.ref CListError, .type "ValueError", .type "Exception", .type "BaseException", .type "object"] true esnBadFacts esbBadFacts eabBadFacts ecolBadFacts eddBadFacts em0BadFacts em1BadFacts em2BadFacts em3BadFacts em5BadFacts "ValueError.__new__"))
      (e2_BadFacts : PySem.W.findIn K (.ref CBadFacts) "__setattr__" = some (some (.builtin "object.__setattr__"))) (e3_BadFacts : PySem.W.findIn K (.ref CBadFacts) "__getattribute__" = some (some (.builtin "BaseException.__getattribute__"))) (e4_BadFacts : PySem.W.findIn K (.ref CBadFacts) "__getattr__" = some none) (e5_BadFacts : PySem.W.findIn K (.ref CBadFacts) "name" = some none)
      (e6_BadFacts : PySem.W.findIn K (.ref CBadFacts) "__init__" = some (some (.ref eFBadFacts))) (e7_BadFacts : PySem.W.typeIn K (.ref eFBadFacts) = some (.type "function")) (e8_BadFacts : PySem.W.keepIn K (.ref CBadFacts) = true) (e9_BadFacts : PySem.W.subIn K (.ref CBadFacts) (.type "BaseException") = some true) (e10_BadFacts : PySem.W.typeIn K (.ref CBadFacts) = some (.type "type")) (e11_BadFacts : PySem.W.hasDictIn K CBadFacts = true)
      (e12_BadFacts : K.lookup eFBadFacts = some ⟨eocBadFacts, eodBadFacts, .func (PySem.W.ksFn "__init__" "BadFacts.__init__" (Er.xA "name" ⟨36, 17, 36, 21⟩ ⟨36, 23, 36, 27⟩) (Er.xB "name" ⟨37, 8, 37, 13⟩ ⟨37, 8, 37, 15⟩ ⟨37, 8, 37, 24⟩ ⟨37, 25, 37, 29⟩ ⟨37, 8, 37, 30⟩ ⟨37, 8, 37, 30⟩ ⟨38, 8, 38, 12⟩ ⟨38, 8, 38, 17⟩ ⟨38, 20, 38, 24⟩ ⟨38, 8, 38, 24⟩) (Er.xS "name") .none .none edcBadFacts epmBadFacts eanBadFacts (.ref eDBadFacts) ectBadFacts eEBadFacts), eslBadFacts⟩) (e13_BadFacts : PySem.W.codeIn K (.ref eDBadFacts) "BadFacts.__init__" = true)
      (e14_BadFacts : K.lookup eDBadFacts = some ⟨eclBadFacts, ecdBadFacts, .fields evsBadFacts, ecsBadFacts⟩) (e15_BadFacts : evsBadFacts[2]? = some (.str efiBadFacts etfBadFacts)) (e16_BadFacts : ((l.prog.main.file : Str) == efiBadFacts) = true) (e17_BadFacts : K.lookup eEBadFacts = some ⟨eczBadFacts, ecyBadFacts, .cell (some (.ref CBadFacts)), ecxBadFacts⟩)
      (e18_BadFacts : PySem.W.mroIn K CBadFacts (.ref CBadFacts) = some true) (e19_BadFacts : PySem.W.ks_superIn K CBadFacts CBadFacts "__init__" = some (some (.builtin "ValueError.__init__"))) (e20_BadFacts : PySem.W.subIn K (.ref CBadFacts) (.type "ValueError") = some true) (e21_BadFacts : PySem.W.findIn K (.ref CBadFacts) "__class__" = some (some (.builtin "object.__class__"))) (e22_BadFacts : PySem.W.mroIn K CBadFacts (.type "object") = some true) (e23_BadFacts : PySem.W.subIn K (.ref CBadFacts) (.ref CListError) = some true)
    {eANoAnswer eBNoAnswer : Str} {eNNoAnswer eFNoAnswer eDNoAnswer eENoAnswer : Addr} {ebNoAnswer esbNoAnswer : List Value} {esnNoAnswer : List Str} {eabNoAnswer : Bool} {ecolNoAnswer : Option Bool} {eddNoAnswer : Option Addr} {em0NoAnswer em1NoAnswer em2NoAnswer em3NoAnswer em5NoAnswer : Option Value} {eocNoAnswer edcNoAnswer epmNoAnswer ectNoAnswer eclNoAnswer eczNoAnswer : Value} {eodNoAnswer eanNoAnswer ecdNoAnswer ecyNoAnswer : Option Addr} {eslNoAnswer ecsNoAnswer ecxNoAnswer : Array (Option Value)} {evsNoAnswer : Array Value} {efiNoAnswer : Str} {etfNoAnswer : Tok}
      (e1_NoAnswer : K.lookup CNoAnswer = some (excClassObj eANoAnswer eBNoAnswer CNoAnswer eNNoAnswer ebNoAnswer [.ref CListError, .type "ValueError", .type "Exception", .type "BaseException", .type "object"] true esnNoAnswer esbNoAnswer eabNoAnswer ecolNoAnswer eddNoAnswer em0NoAnswer em1NoAnswer em2NoAnswer em3NoAnswer em5NoAnswer "ValueError.__new__"))
      (e2_NoAnswer : PySem.W.findIn K (.ref CNoAnswer) "__setattr__" = some (some (.builtin "object.__setattr__"))) (e3_NoAnswer : PySem.W.findIn K (.ref CNoAnswer) "__getattribute__" = some (some (.builtin "BaseException.__getattribute__"))) (e4_NoAnswer : PySem.W.findIn K (.ref CNoAnswer) "__getattr__" = some none) (e5_NoAnswer : PySem.W.findIn K (.ref CNoAnswer) "answer" = some none)
      (e6_NoAnswer : PySem.W.findIn K (.ref CNoAnswer) "__init__" = some (some (.ref eFNoAnswer))) (e7_NoAnswer : PySem.W.typeIn K (.ref eFNoAnswer) = some (.type "function")) (e8_NoAnswer : PySem.W.keepIn K (.ref CNoAnswer) = true) (e9_NoAnswer : PySem.W.subIn K (.ref CNoAnswer) (.type "BaseException") = some true) (e10_NoAnswer : PySem.W.typeIn K (.ref CNoAnswer) = some (.type "type")) (e11_NoAnswer : PySem.W.hasDictIn K CNoAnswer = true)
      (e12_NoAnswer : K.lookup eFNoAnswer = some ⟨eocNoAnswer, eodNoAnswer, .func (PySem.W.ksFn "__init__" "NoAnswer.__init__" (Er.xA "answer" ⟨41, 17, 41, 21⟩ ⟨41, 23, 41, 29⟩) (Er.xB "answer" ⟨42, 8, 42, 13⟩ ⟨42, 8, 42, 15⟩ ⟨42, 8, 42, 24⟩ ⟨42, 25, 42, 31⟩ ⟨42, 8, 42, 32⟩ ⟨42, 8, 42, 32⟩ ⟨43, 8, 43, 12⟩ ⟨43, 8, 43, 19⟩ ⟨43, 22, 43, 28⟩ ⟨43, 8, 43, 28⟩) (Er.xS "answer") .none .none edcNoAnswer epmNoAnswer eanNoAnswer (.ref eDNoAnswer) ectNoAnswer eENoAnswer), eslNoAnswer⟩) (e13_NoAnswer : PySem.W.codeIn K (.ref eDNoAnswer) "NoAnswer.__init__" = true)
      (e14_NoAnswer : K.lookup eDNoAnswer = some ⟨eclNoAnswer, ecdNoAnswer, .fields evsNoAnswer, ecsNoAnswer⟩) (e15_NoAnswer : evsNoAnswer[2]? = some (.str efiNoAnswer etfNoAnswer)) (e16_NoAnswer : ((l.prog.main.file : Str) == efiNoAnswer) = true) (e17_NoAnswer : K.lookup eENoAnswer = some ⟨eczNoAnswer, ecyNoAnswer, .cell (some (.ref CNoAnswer)), ecxNoAnswer⟩)
      (e18_NoAnswer : PySem.W.mroIn K CNoAnswer (.ref CNoAnswer) = some true) (e19_NoAnswer : PySem.W.ks_superIn K CNoAnswer CNoAnswer "__init__" = some (some (.builtin "ValueError.__init__"))) (e20_NoAnswer : PySem.W.subIn K (.ref CNoAnswer) (.type "ValueError") = some true) (e21_NoAnswer : PySem.W.findIn K (.ref CNoAnswer) "__class__" = some (some (.builtin "object.__class__"))) (e22_NoAnswer : PySem.W.mroIn K CNoAnswer (.type "object") = some true) (e23_NoAnswer : PySem.W.subIn K (.ref CNoAnswer) (.ref CListError) = some true)
    {eANoHouse eBNoHouse : Str} {eNNoHouse eFNoHouse eDNoHouse eENoHouse : Addr} {ebNoHouse esbNoHouse : List Value} {esnNoHouse : List Str} {eabNoHouse : Bool} {ecolNoHouse : Option Bool} {eddNoHouse : Option Addr} {em0NoHouse em1NoHouse em2NoHouse em3NoHouse em5NoHouse : Option Value} {eocNoHouse edcNoHouse epmNoHouse ectNoHouse eclNoHouse eczNoHouse : Value} {eodNoHouse eanNoHouse ecdNoHouse ecyNoHouse : Option Addr} {eslNoHouse ecsNoHouse ecxNoHouse : Array (Option Value)} {evsNoHouse : Array Value} {efiNoHouse : Str} {etfNoHouse : Tok}
      (e1_NoHouse : K.lookup CNoHouse = some (excClassObj eANoHouse eBNoHouse CNoHouse eNNoHouse ebNoHouse [.ref CListError, .type "ValueError", .type "Exception", .type "BaseException", .type "object"] true esnNoHouse esbNoHouse eabNoHouse ecolNoHouse eddNoHouse em0NoHouse em1NoHouse em2NoHouse em3NoHouse em5NoHouse "ValueError.__new__"))
      (e2_NoHouse : PySem.W.findIn K (.ref CNoHouse) "__setattr__" = some (some (.builtin "object.__setattr__"))) (e3_NoHouse : PySem.W.findIn K (.ref CNoHouse) "__getattribute__" = some (some (.builtin "BaseException.__getattribute__"))) (e4_NoHouse : PySem.W.findIn K (.ref CNoHouse) "__getattr__" = some none) (e5_NoHouse : PySem.W.findIn K (.ref CNoHouse) "house" = some none)
      (e6_NoHouse : PySem.W.findIn K (.ref CNoHouse) "__init__" = some (some (.ref eFNoHouse))) (e7_NoHouse : PySem.W.typeIn K (.ref eFNoHouse) = some (.type "function")) (e8_NoHouse : PySem.W.keepIn K (.ref CNoHouse) = true) (e9_NoHouse : PySem.W.subIn K (.ref CNoHouse) (.type "BaseException") = some true) (e10_NoHouse : PySem.W.typeIn K (.ref CNoHouse) = some (.type "type")) (e11_NoHouse : PySem.W.hasDictIn K CNoHouse = true)
      (e12_NoHouse : K.lookup eFNoHouse = some ⟨eocNoHouse, eodNoHouse, .func (PySem.W.ksFn "__init__" "NoHouse.__init__" (Er.xA "house" ⟨46, 17, 46, 21⟩ ⟨46, 23, 46, 28⟩) (Er.xB "house" ⟨47, 8, 47, 13⟩ ⟨47, 8, 47, 15⟩ ⟨47, 8, 47, 24⟩ ⟨47, 25, 47, 30⟩ ⟨47, 8, 47, 31⟩ ⟨47, 8, 47, 31⟩ ⟨48, 8, 48, 12⟩ ⟨48, 8, 48, 18⟩ ⟨48, 21, 48, 26⟩ ⟨48, 8, 48, 26⟩) (Er.xS "house") .none .none edcNoHouse epmNoHouse eanNoHouse (.ref eDNoHouse) ectNoHouse eENoHouse), eslNoHouse⟩) (e13_NoHouse : PySem.W.codeIn K (.ref eDNoHouse) "NoHouse.__init__" = true)
      (e14_NoHouse : K.lookup eDNoHouse = some ⟨eclNoHouse, ecdNoHouse, .fields evsNoHouse, ecsNoHouse⟩) (e15_NoHouse : evsNoHouse[2]? = some (.str efiNoHouse etfNoHouse)) (e16_NoHouse : ((l.prog.main.file : Str) == efiNoHouse) = true) (e17_NoHouse : K.lookup eENoHouse = some ⟨eczNoHouse, ecyNoHouse, .cell (some (.ref CNoHouse)), ecxNoHouse⟩)
      (e18_NoHouse : PySem.W.mroIn K CNoHouse (.ref CNoHouse) = some true) (e19_NoHouse : PySem.W.ks_superIn K CNoHouse CNoHouse "__init__" = some (some (.builtin "ValueError.__init__"))) (e20_NoHouse : PySem.W.subIn K (.ref CNoHouse) (.type "ValueError") = some true) (e21_NoHouse : PySem.W.findIn K (.ref CNoHouse) "__class__" = some (some (.builtin "object.__class__"))) (e22_NoHouse : PySem.W.mroIn K CNoHouse (.type "object") = some true) (e23_NoHouse : PySem.W.subIn K (.ref CNoHouse) (.ref CListError) = some true)
    {eABadChange eBBadChange : Str} {eNBadChange eFBadChange eDBadChange eEBadChange : Addr} {ebBadChange esbBadChange : List Value} {esnBadChange : List Str} {eabBadChange : Bool} {ecolBadChange : Option Bool} {eddBadChange : Option Addr} {em0BadChange em1BadChange em2BadChange em3BadChange em5BadChange : Option Value} {eocBadChange edcBadChange epmBadChange ectBadChange eclBadChange eczBadChange : Value} {eodBadChange eanBadChange ecdBadChange ecyBadChange : Option Addr} {eslBadChange ecsBadChange ecxBadChange : Array (Option Value)} {evsBadChange : Array Value} {efiBadChange : Str} {etfBadChange : Tok}
      (e1_BadChange : K.lookup CBadChange = some (excClassObj eABadChange eBBadChange CBadChange eNBadChange ebBadChange [.ref CListError, .type "ValueError", .type "Exception", .type "BaseException", .type "object"] true esnBadChange esbBadChange eabBadChange ecolBadChange eddBadChange em0BadChange em1BadChange em2BadChange em3BadChange em5BadChange "ValueError.__new__"))
      (e2_BadChange : PySem.W.findIn K (.ref CBadChange) "__setattr__" = some (some (.builtin "object.__setattr__"))) (e3_BadChange : PySem.W.findIn K (.ref CBadChange) "__getattribute__" = some (some (.builtin "BaseException.__getattribute__"))) (e4_BadChange : PySem.W.findIn K (.ref CBadChange) "__getattr__" = some none) (e5_BadChange : PySem.W.findIn K (.ref CBadChange) "at" = some none)
      (e6_BadChange : PySem.W.findIn K (.ref CBadChange) "__init__" = some (some (.ref eFBadChange))) (e7_BadChange : PySem.W.typeIn K (.ref eFBadChange) = some (.type "function")) (e8_BadChange : PySem.W.keepIn K (.ref CBadChange) = true) (e9_BadChange : PySem.W.subIn K (.ref CBadChange) (.type "BaseException") = some true) (e10_BadChange : PySem.W.typeIn K (.ref CBadChange) = some (.type "type")) (e11_BadChange : PySem.W.hasDictIn K CBadChange = true)
      (e12_BadChange : K.lookup eFBadChange = some ⟨eocBadChange, eodBadChange, .func (PySem.W.ksFn "__init__" "BadChange.__init__" (Er.xA "at" ⟨51, 17, 51, 21⟩ ⟨51, 23, 51, 25⟩) (Er.xB "at" ⟨52, 8, 52, 13⟩ ⟨52, 8, 52, 15⟩ ⟨52, 8, 52, 24⟩ ⟨52, 25, 52, 27⟩ ⟨52, 8, 52, 28⟩ ⟨52, 8, 52, 28⟩ ⟨53, 8, 53, 12⟩ ⟨53, 8, 53, 15⟩ ⟨53, 18, 53, 20⟩ ⟨53, 8, 53, 20⟩) (Er.xS "at") .none .none edcBadChange epmBadChange eanBadChange (.ref eDBadChange) ectBadChange eEBadChange), eslBadChange⟩) (e13_BadChange : PySem.W.codeIn K (.ref eDBadChange) "BadChange.__init__" = true)
      (e14_BadChange : K.lookup eDBadChange = some ⟨eclBadChange, ecdBadChange, .fields evsBadChange, ecsBadChange⟩) (e15_BadChange : evsBadChange[2]? = some (.str efiBadChange etfBadChange)) (e16_BadChange : ((l.prog.main.file : Str) == efiBadChange) = true) (e17_BadChange : K.lookup eEBadChange = some ⟨eczBadChange, ecyBadChange, .cell (some (.ref CBadChange)), ecxBadChange⟩)
      (e18_BadChange : PySem.W.mroIn K CBadChange (.ref CBadChange) = some true) (e19_BadChange : PySem.W.ks_superIn K CBadChange CBadChange "__init__" = some (some (.builtin "ValueError.__init__"))) (e20_BadChange : PySem.W.subIn K (.ref CBadChange) (.type "ValueError") = some true) (e21_BadChange : PySem.W.findIn K (.ref CBadChange) "__class__" = some (some (.builtin "object.__class__"))) (e22_BadChange : PySem.W.mroIn K CBadChange (.type "object") = some true) (e23_BadChange : PySem.W.subIn K (.ref CBadChange) (.ref CListError) = some true)
    {eANoAsk eBNoAsk : Str} {eNNoAsk eFNoAsk eDNoAsk eENoAsk : Addr} {ebNoAsk esbNoAsk : List Value} {esnNoAsk : List Str} {eabNoAsk : Bool} {ecolNoAsk : Option Bool} {eddNoAsk : Option Addr} {em0NoAsk em1NoAsk em2NoAsk em3NoAsk em5NoAsk : Option Value} {eocNoAsk edcNoAsk epmNoAsk ectNoAsk eclNoAsk eczNoAsk : Value} {eodNoAsk eanNoAsk ecdNoAsk ecyNoAsk : Option Addr} {eslNoAsk ecsNoAsk ecxNoAsk : Array (Option Value)} {evsNoAsk : Array Value} {efiNoAsk : Str} {etfNoAsk : Tok}
      (e1_NoAsk : K.lookup CNoAsk = some (excClassObj eANoAsk eBNoAsk CNoAsk eNNoAsk ebNoAsk [.ref CListError, .type "ValueError", .type "Exception", .type "BaseException", .type "object"] true esnNoAsk esbNoAsk eabNoAsk ecolNoAsk eddNoAsk em0NoAsk em1NoAsk em2NoAsk em3NoAsk em5NoAsk "ValueError.__new__"))
      (e2_NoAsk : PySem.W.findIn K (.ref CNoAsk) "__setattr__" = some (some (.builtin "object.__setattr__"))) (e3_NoAsk : PySem.W.findIn K (.ref CNoAsk) "__getattribute__" = some (some (.builtin "BaseException.__getattribute__"))) (e4_NoAsk : PySem.W.findIn K (.ref CNoAsk) "__getattr__" = some none) (e5_NoAsk : PySem.W.findIn K (.ref CNoAsk) "at" = some none)
      (e6_NoAsk : PySem.W.findIn K (.ref CNoAsk) "__init__" = some (some (.ref eFNoAsk))) (e7_NoAsk : PySem.W.typeIn K (.ref eFNoAsk) = some (.type "function")) (e8_NoAsk : PySem.W.keepIn K (.ref CNoAsk) = true) (e9_NoAsk : PySem.W.subIn K (.ref CNoAsk) (.type "BaseException") = some true) (e10_NoAsk : PySem.W.typeIn K (.ref CNoAsk) = some (.type "type")) (e11_NoAsk : PySem.W.hasDictIn K CNoAsk = true)
      (e12_NoAsk : K.lookup eFNoAsk = some ⟨eocNoAsk, eodNoAsk, .func (PySem.W.ksFn "__init__" "NoAsk.__init__" (Er.xA "at" ⟨62, 17, 62, 21⟩ ⟨62, 23, 62, 25⟩) (Er.xB "at" ⟨63, 8, 63, 13⟩ ⟨63, 8, 63, 15⟩ ⟨63, 8, 63, 24⟩ ⟨63, 25, 63, 27⟩ ⟨63, 8, 63, 28⟩ ⟨63, 8, 63, 28⟩ ⟨64, 8, 64, 12⟩ ⟨64, 8, 64, 15⟩ ⟨64, 18, 64, 20⟩ ⟨64, 8, 64, 20⟩) (Er.xS "at") .none .none edcNoAsk epmNoAsk eanNoAsk (.ref eDNoAsk) ectNoAsk eENoAsk), eslNoAsk⟩) (e13_NoAsk : PySem.W.codeIn K (.ref eDNoAsk) "NoAsk.__init__" = true)
      (e14_NoAsk : K.lookup eDNoAsk = some ⟨eclNoAsk, ecdNoAsk, .fields evsNoAsk, ecsNoAsk⟩) (e15_NoAsk : evsNoAsk[2]? = some (.str efiNoAsk etfNoAsk)) (e16_NoAsk : ((l.prog.main.file : Str) == efiNoAsk) = true) (e17_NoAsk : K.lookup eENoAsk = some ⟨eczNoAsk, ecyNoAsk, .cell (some (.ref CNoAsk)), ecxNoAsk⟩)
      (e18_NoAsk : PySem.W.mroIn K CNoAsk (.ref CNoAsk) = some true) (e19_NoAsk : PySem.W.ks_superIn K CNoAsk CNoAsk "__init__" = some (some (.builtin "ValueError.__init__"))) (e20_NoAsk : PySem.W.subIn K (.ref CNoAsk) (.type "ValueError") = some true) (e21_NoAsk : PySem.W.findIn K (.ref CNoAsk) "__class__" = some (some (.builtin "object.__class__"))) (e22_NoAsk : PySem.W.mroIn K CNoAsk (.type "object") = some true) (e23_NoAsk : PySem.W.subIn K (.ref CNoAsk) (.ref CListError) = some true)
    {eABroken eBBroken : Str} {eNBroken eFBroken eDBroken eEBroken : Addr} {ebBroken esbBroken : List Value} {esnBroken : List Str} {eabBroken : Bool} {ecolBroken : Option Bool} {eddBroken : Option Addr} {em0Broken em1Broken em2Broken em3Broken em5Broken : Option Value} {eocBroken edcBroken epmBroken ectBroken eclBroken eczBroken : Value} {eodBroken eanBroken ecdBroken ecyBroken : Option Addr} {eslBroken ecsBroken ecxBroken : Array (Option Value)} {evsBroken : Array Value} {efiBroken : Str} {etfBroken : Tok}
      (e1_Broken : K.lookup CBroken = some (excClassObj eABroken eBBroken CBroken eNBroken ebBroken [.ref CListError, .type "ValueError", .type "Exception", .type "BaseException", .type "object"] true esnBroken esbBroken eabBroken ecolBroken eddBroken em0Broken em1Broken em2Broken em3Broken em5Broken "ValueError.__new__"))
      (e2_Broken : PySem.W.findIn K (.ref CBroken) "__setattr__" = some (some (.builtin "object.__setattr__"))) (e3_Broken : PySem.W.findIn K (.ref CBroken) "__getattribute__" = some (some (.builtin "BaseException.__getattribute__"))) (e4_Broken : PySem.W.findIn K (.ref CBroken) "__getattr__" = some none) (e5_Broken : PySem.W.findIn K (.ref CBroken) "at" = some none)
      (e6_Broken : PySem.W.findIn K (.ref CBroken) "__init__" = some (some (.ref eFBroken))) (e7_Broken : PySem.W.typeIn K (.ref eFBroken) = some (.type "function")) (e8_Broken : PySem.W.keepIn K (.ref CBroken) = true) (e9_Broken : PySem.W.subIn K (.ref CBroken) (.type "BaseException") = some true) (e10_Broken : PySem.W.typeIn K (.ref CBroken) = some (.type "type")) (e11_Broken : PySem.W.hasDictIn K CBroken = true)
      (e12_Broken : K.lookup eFBroken = some ⟨eocBroken, eodBroken, .func (PySem.W.ksFn "__init__" "Broken.__init__" (Er.xA "at" ⟨76, 17, 76, 21⟩ ⟨76, 23, 76, 25⟩) (Er.xB "at" ⟨77, 8, 77, 13⟩ ⟨77, 8, 77, 15⟩ ⟨77, 8, 77, 24⟩ ⟨77, 25, 77, 27⟩ ⟨77, 8, 77, 28⟩ ⟨77, 8, 77, 28⟩ ⟨78, 8, 78, 12⟩ ⟨78, 8, 78, 15⟩ ⟨78, 18, 78, 20⟩ ⟨78, 8, 78, 20⟩) (Er.xS "at") .none .none edcBroken epmBroken eanBroken (.ref eDBroken) ectBroken eEBroken), eslBroken⟩) (e13_Broken : PySem.W.codeIn K (.ref eDBroken) "Broken.__init__" = true)
      (e14_Broken : K.lookup eDBroken = some ⟨eclBroken, ecdBroken, .fields evsBroken, ecsBroken⟩) (e15_Broken : evsBroken[2]? = some (.str efiBroken etfBroken)) (e16_Broken : ((l.prog.main.file : Str) == efiBroken) = true) (e17_Broken : K.lookup eEBroken = some ⟨eczBroken, ecyBroken, .cell (some (.ref CBroken)), ecxBroken⟩)
      (e18_Broken : PySem.W.mroIn K CBroken (.ref CBroken) = some true) (e19_Broken : PySem.W.ks_superIn K CBroken CBroken "__init__" = some (some (.builtin "ValueError.__init__"))) (e20_Broken : PySem.W.subIn K (.ref CBroken) (.type "ValueError") = some true) (e21_Broken : PySem.W.findIn K (.ref CBroken) "__class__" = some (some (.builtin "object.__class__"))) (e22_Broken : PySem.W.mroIn K CBroken (.type "object") = some true) (e23_Broken : PySem.W.subIn K (.ref CBroken) (.ref CListError) = some true)
    {eAHopeless eBHopeless : Str} {eNHopeless eFHopeless eDHopeless eEHopeless : Addr} {ebHopeless esbHopeless : List Value} {esnHopeless : List Str} {eabHopeless : Bool} {ecolHopeless : Option Bool} {eddHopeless : Option Addr} {em0Hopeless em1Hopeless em2Hopeless em3Hopeless em5Hopeless : Option Value} {eocHopeless edcHopeless epmHopeless ectHopeless eclHopeless eczHopeless : Value} {eodHopeless eanHopeless ecdHopeless ecyHopeless : Option Addr} {eslHopeless ecsHopeless ecxHopeless : Array (Option Value)} {evsHopeless : Array Value} {efiHopeless : Str} {etfHopeless : Tok}
      (e1_Hopeless : K.lookup CHopeless = some (excClassObj eAHopeless eBHopeless CHopeless eNHopeless ebHopeless [.ref CListError, .type "ValueError", .type "Exception", .type "BaseException", .type "object"] true esnHopeless esbHopeless eabHopeless ecolHopeless eddHopeless em0Hopeless em1Hopeless em2Hopeless em3Hopeless em5Hopeless "ValueError.__new__"))
      (e2_Hopeless : PySem.W.findIn K (.ref CHopeless) "__setattr__" = some (some (.builtin "object.__setattr__"))) (e3_Hopeless : PySem.W.findIn K (.ref CHopeless) "__getattribute__" = some (some (.builtin "BaseException.__getattribute__"))) (e4_Hopeless : PySem.W.findIn K (.ref CHopeless) "__getattr__" = some none) (e5_Hopeless : PySem.W.findIn K (.ref CHopeless) "many" = some none)
      (e24_Hopeless : PySem.W.findIn K (.ref CHopeless) "demand" = some none) (e25_Hopeless : PySem.W.findIn K (.ref CHopeless) "answer" = some none) (e6_Hopeless : PySem.W.findIn K (.ref CHopeless) "__init__" = some (some (.ref eFHopeless))) (e7_Hopeless : PySem.W.typeIn K (.ref eFHopeless) = some (.type "function")) (e8_Hopeless : PySem.W.keepIn K (.ref CHopeless) = true) (e9_Hopeless : PySem.W.subIn K (.ref CHopeless) (.type "BaseException") = some true) (e10_Hopeless : PySem.W.typeIn K (.ref CHopeless) = some (.type "type")) (e11_Hopeless : PySem.W.hasDictIn K CHopeless = true)
      (e12_Hopeless : K.lookup eFHopeless = some ⟨eocHopeless, eodHopeless, .func (PySem.W.ksFn "__init__" "Hopeless.__init__" (Er.yA ⟨67, 17, 67, 21⟩ ⟨67, 23, 67, 27⟩ ⟨67, 29, 67, 35⟩ ⟨67, 37, 67, 43⟩) (Er.yB ⟨⟨68, 8, 68, 13⟩, ⟨68, 8, 68, 15⟩, ⟨68, 8, 68, 24⟩, ⟨68, 25, 68, 29⟩, ⟨68, 31, 68, 37⟩, ⟨68, 39, 68, 45⟩, ⟨68, 8, 68, 46⟩, ⟨68, 8, 68, 46⟩, ⟨69, 8, 69, 12⟩, ⟨69, 8, 69, 17⟩, ⟨69, 20, 69, 24⟩, ⟨69, 8, 69, 24⟩, ⟨70, 8, 70, 12⟩, ⟨70, 8, 70, 19⟩, ⟨70, 22, 70, 28⟩, ⟨70, 8, 70, 28⟩, ⟨71, 8, 71, 12⟩, ⟨71, 8, 71, 19⟩, ⟨71, 22, 71, 28⟩, ⟨71, 8, 71, 28⟩⟩) Er.yS .none .none edcHopeless epmHopeless eanHopeless (.ref eDHopeless) ectHopeless eEHopeless), eslHopeless⟩) (e13_Hopeless : PySem.W.codeIn K (.ref eDHopeless) "Hopeless.__init__" = true)
      (e14_Hopeless : K.lookup eDHopeless = some ⟨eclHopeless, ecdHopeless, .fields evsHopeless, ecsHopeless⟩) (e15_Hopeless : evsHopeless[2]? = some (.str efiHopeless etfHopeless)) (e16_Hopeless : ((l.prog.main.file : Str) == efiHopeless) = true) (e17_Hopeless : K.lookup eEHopeless = some ⟨eczHopeless, ecyHopeless, .cell (some (.ref CHopeless)), ecxHopeless⟩)
      (e18_Hopeless : PySem.W.mroIn K CHopeless (.ref CHopeless) = some true) (e19_Hopeless : PySem.W.ks_superIn K CHopeless CHopeless "__init__" = some (some (.builtin "ValueError.__init__"))) (e20_Hopeless : PySem.W.subIn K (.ref CHopeless) (.type "ValueError") = some true) (e21_Hopeless : PySem.W.findIn K (.ref CHopeless) "__class__" = some (some (.builtin "object.__class__"))) (e22_Hopeless : PySem.W.mroIn K CHopeless (.type "object") = some true) (e23_Hopeless : PySem.W.subIn K (.ref CHopeless) (.ref CListError) = some true)
    (eS1 : PySem.W.nsIn K mainGlobals "super" = some none) (eS2 : (l.prog.main.scope.names.lookup ("super" : Str)).isSome = false) (eS3 : PySem.W.nsIn K cStatics "thirdparty.any" = some none) (eS4 : PySem.W.subIn K (.ref CListError) (.type "BaseException") = some true) (eS5 : PySem.W.hasDictIn K CListError = true) (eS6 : PySem.W.typeIn K (.ref CListError) = some (.type "type"))
    (z_len : PySem.W.nsIn K mainGlobals "len" = some none) (z_int : PySem.W.nsIn K mainGlobals "int" = some none) (z_abs : PySem.W.nsIn K mainGlobals "abs" = some none) (z_tuple : PySem.W.nsIn K mainGlobals "tuple" = some none) (z_list : PySem.W.nsIn K mainGlobals "list" = some none) (z_repr : PySem.W.nsIn K mainGlobals "repr" = some none) (z_range : PySem.W.nsIn K mainGlobals "range" = some none) (z_sorted : PySem.W.nsIn K mainGlobals "sorted" = some none) (z_sum : PySem.W.nsIn K mainGlobals "sum" = some none) (z_all : PySem.W.nsIn K mainGlobals "all" = some none) (z_any : PySem.W.nsIn K mainGlobals "any" = some none) (z_min : PySem.W.nsIn K mainGlobals "min" = some none) (z_max : PySem.W.nsIn K mainGlobals "max" = some none) (z_set : PySem.W.nsIn K mainGlobals "set" = some none) (z_dict : PySem.W.nsIn K mainGlobals "dict" = some none) (z_zip : PySem.W.nsIn K mainGlobals "zip" = some none) (z_enumerate : PySem.W.nsIn K mainGlobals "enumerate" = some none) (z_reversed : PySem.W.nsIn K mainGlobals "reversed" = some none) (z_str : PySem.W.nsIn K mainGlobals "str" = some none) (z_type : PySem.W.nsIn K mainGlobals "type" = some none) (z_isinstance : PySem.W.nsIn K mainGlobals "isinstance" = some none) (z_bool : PySem.W.nsIn K mainGlobals "bool" = some none)  (zc_ListError : PySem.W.nsIn K mainGlobals "ListError" = some (some (.ref CListError))) (zc_Wrong : PySem.W.nsIn K mainGlobals "Wrong" = some (some (.ref CWrong))) (zc_NoName : PySem.W.nsIn K mainGlobals "NoName" = some (some (.ref CNoName))) (zc_Full : PySem.W.nsIn K mainGlobals "Full" = some (some (.ref CFull))) (zc_NoEntry : PySem.W.nsIn K mainGlobals "NoEntry" = some (some (.ref CNoEntry))) (zc_There : PySem.W.nsIn K mainGlobals "There" = some (some (.ref CThere))) (zc_TooMany : PySem.W.nsIn K mainGlobals "TooMany" = some (some (.ref CTooMany))) (zc_BadFacts : PySem.W.nsIn K mainGlobals "BadFacts" = some (some (.ref CBadFacts))) (zc_NoAnswer : PySem.W.nsIn K mainGlobals "NoAnswer" = some (some (.ref CNoAnswer))) (zc_NoHouse : PySem.W.nsIn K mainGlobals "NoHouse" = some (some (.ref CNoHouse))) (zc_BadChange : PySem.W.nsIn K mainGlobals "BadChange" = some (some (.ref CBadChange))) (zc_NoAsk : PySem.W.nsIn K mainGlobals "NoAsk" = some (some (.ref CNoAsk))) (zc_Broken : PySem.W.nsIn K mainGlobals "Broken" = some (some (.ref CBroken))) (zc_Hopeless : PySem.W.nsIn K mainGlobals "Hopeless" = some (some (.ref CHopeless))) (o2 : PySem.W.specialIn K (.builtin "object.__class__") "__get__" = some (some (.builtin "getset_descriptor.__get__"))) (o3 : PySem.W.takesIn K (.builtin "object.__class__") = some true) (zc_NoStep : PySem.W.nsIn K mainGlobals "NoStep" = some (some (.ref CNoStep))) (zc_Late : PySem.W.nsIn K mainGlobals "Late" = some (some (.ref CLate))) (zc_Nothing : PySem.W.nsIn K mainGlobals "Nothing" = some (some (.ref CNothing))) (zc_NoDeed : PySem.W.nsIn K mainGlobals "NoDeed" = some (some (.ref CNoDeed))) (zc_NoText : PySem.W.nsIn K mainGlobals "NoText" = some (some (.ref CNoText))) (zc_NoCommand : PySem.W.nsIn K mainGlobals "NoCommand" = some (some (.ref CNoCommand))) (e3_NoStep : PySem.W.findIn K (.ref CNoStep) "__getattribute__" = some (some (.builtin "BaseException.__getattribute__"))) (e4_NoStep : PySem.W.findIn K (.ref CNoStep) "__getattr__" = some none) (e9_NoStep : PySem.W.subIn K (.ref CNoStep) (.type "BaseException") = some true) (e11_NoStep : PySem.W.hasDictIn K CNoStep = true) (e21_NoStep : PySem.W.findIn K (.ref CNoStep) "__class__" = some (some (.builtin "object.__class__"))) (e22_NoStep : PySem.W.mroIn K CNoStep (.type "object") = some true) {uANoStep uBNoStep : Str} {uNNoStep : Addr} {ubNoStep usbNoStep : List Value} {usnNoStep : List Str} {uabNoStep : Bool} {ucolNoStep : Option Bool} {uddNoStep udNoStep : Option Addr} {u0NoStep u1NoStep u2NoStep u3NoStep u5NoStep : Option Value} {ucNoStep : Value} {uesNoStep : Array DictEntry} {uepNoStep : Nat} {uslNoStep : Array (Option Value)} (e1_NoStep : K.lookup CNoStep = some (excClassObj uANoStep uBNoStep CNoStep uNNoStep ubNoStep [.ref CListError, .type "ValueError", .type "Exception", .type "BaseException", .type "object"] true usnNoStep usbNoStep uabNoStep ucolNoStep uddNoStep u0NoStep u1NoStep u2NoStep u3NoStep u5NoStep "ValueError.__new__")) (e50_NoStep : K.lookup uNNoStep = some ⟨ucNoStep, udNoStep, .dict uesNoStep uepNoStep, uslNoStep⟩) (e51_NoStep : strKeys uesNoStep = true) (e52_NoStep : PySem.W.nsIn K uNNoStep "__init__" = some none) (e31_NoStep : PySem.W.keepIn K (.ref CNoStep) = true) (e3_Late : PySem.W.findIn K (.ref CLate) "__getattribute__" = some (some (.builtin "BaseException.__getattribute__"))) (e4_Late : PySem.W.findIn K (.ref CLate) "__getattr__" = some none) (e9_Late : PySem.W.subIn K (.ref CLate) (.type "BaseException") = some true) (e11_Late : PySem.W.hasDictIn K CLate = true) (e21_Late : PySem.W.findIn K (.ref CLate) "__class__" = some (some (.builtin "object.__class__"))) (e22_Late : PySem.W.mroIn K CLate (.type "object") = some true) {uALate uBLate : Str} {uNLate : Addr} {ubLate usbLate : List Value} {usnLate : List Str} {uabLate : Bool} {ucolLate : Option Bool} {uddLate udLate : Option Addr} {u0Late u1Late u2Late u3Late u5Late : Option Value} {ucLate : Value} {uesLate : Array DictEntry} {uepLate : Nat} {uslLate : Array (Option Value)} (e1_Late : K.lookup CLate = some (excClassObj uALate uBLate CLate uNLate ubLate [.ref CListError, .type "ValueError", .type "Exception", .type "BaseException", .type "object"] true usnLate usbLate uabLate ucolLate uddLate u0Late u1Late u2Late u3Late u5Late "ValueError.__new__")) (e50_Late : K.lookup uNLate = some ⟨ucLate, udLate, .dict uesLate uepLate, uslLate⟩) (e51_Late : strKeys uesLate = true) (e52_Late : PySem.W.nsIn K uNLate "__init__" = some none) (e31_Late : PySem.W.keepIn K (.ref CLate) = true) (e3_Nothing : PySem.W.findIn K (.ref CNothing) "__getattribute__" = some (some (.builtin "BaseException.__getattribute__"))) (e4_Nothing : PySem.W.findIn K (.ref CNothing) "__getattr__" = some none) (e9_Nothing : PySem.W.subIn K (.ref CNothing) (.type "BaseException") = some true) (e11_Nothing : PySem.W.hasDictIn K CNothing = true) (e21_Nothing : PySem.W.findIn K (.ref CNothing) "__class__" = some (some (.builtin "object.__class__"))) (e22_Nothing : PySem.W.mroIn K CNothing (.type "object") = some true) {uANothing uBNothing : Str} {uNNothing : Addr} {ubNothing usbNothing : List Value} {usnNothing : List Str} {uabNothing : Bool} {ucolNothing : Option Bool} {uddNothing udNothing : Option Addr} {u0Nothing u1Nothing u2Nothing u3Nothing u5Nothing : Option Value} {ucNothing : Value} {uesNothing : Array DictEntry} {uepNothing : Nat} {uslNothing : Array (Option Value)} (e1_Nothing : K.lookup CNothing = some (excClassObj uANothing uBNothing CNothing uNNothing ubNothing [.ref CListError, .type "ValueError", .type "Exception", .type "BaseException", .type "object"] true usnNothing usbNothing uabNothing ucolNothing uddNothing u0Nothing u1Nothing u2Nothing u3Nothing u5Nothing "ValueError.__new__")) (e50_Nothing : K.lookup uNNothing = some ⟨ucNothing, udNothing, .dict uesNothing uepNothing, uslNothing⟩) (e51_Nothing : strKeys uesNothing = true) (e52_Nothing : PySem.W.nsIn K uNNothing "__init__" = some none) (e31_Nothing : PySem.W.keepIn K (.ref CNothing) = true) (e3_NoDeed : PySem.W.findIn K (.ref CNoDeed) "__getattribute__" = some (some (.builtin "BaseException.__getattribute__"))) (e4_NoDeed : PySem.W.findIn K (.ref CNoDeed) "__getattr__" = some none) (e9_NoDeed : PySem.W.subIn K (.ref CNoDeed) (.type "BaseException") = some true) (e11_NoDeed : PySem.W.hasDictIn K CNoDeed = true) (e21_NoDeed : PySem.W.findIn K (.ref CNoDeed) "__class__" = some (some (.builtin "object.__class__"))) (e22_NoDeed : PySem.W.mroIn K CNoDeed (.type "object") = some true) {uANoDeed uBNoDeed : Str} {uNNoDeed : Addr} {ubNoDeed usbNoDeed : List Value} {usnNoDeed : List Str} {uabNoDeed : Bool} {ucolNoDeed : Option Bool} {uddNoDeed udNoDeed : Option Addr} {u0NoDeed u1NoDeed u2NoDeed u3NoDeed u5NoDeed : Option Value} {ucNoDeed : Value} {uesNoDeed : Array DictEntry} {uepNoDeed : Nat} {uslNoDeed : Array (Option Value)} (e1_NoDeed : K.lookup CNoDeed = some (excClassObj uANoDeed uBNoDeed CNoDeed uNNoDeed ubNoDeed [.ref CListError, .type "ValueError", .type "Exception", .type "BaseException", .type "object"] true usnNoDeed usbNoDeed uabNoDeed ucolNoDeed uddNoDeed u0NoDeed u1NoDeed u2NoDeed u3NoDeed u5NoDeed "ValueError.__new__")) (e50_NoDeed : K.lookup uNNoDeed = some ⟨ucNoDeed, udNoDeed, .dict uesNoDeed uepNoDeed, uslNoDeed⟩) (e51_NoDeed : strKeys uesNoDeed = true) (e52_NoDeed : PySem.W.nsIn K uNNoDeed "__init__" = some none) (e31_NoDeed : PySem.W.keepIn K (.ref CNoDeed) = true) (e3_NoText : PySem.W.findIn K (.ref CNoText) "__getattribute__" = some (some (.builtin "BaseException.__getattribute__"))) (e4_NoText : PySem.W.findIn K (.ref CNoText) "__getattr__" = some none) (e9_NoText : PySem.W.subIn K (.ref CNoText) (.type "BaseException") = some true) (e11_NoText : PySem.W.hasDictIn K CNoText = true) (e21_NoText : PySem.W.findIn K (.ref CNoText) "__class__" = some (some (.builtin "object.__class__"))) (e22_NoText : PySem.W.mroIn K CNoText (.type "object") = some true) {uANoText uBNoText : Str} {uNNoText : Addr} {ubNoText usbNoText : List Value} {usnNoText : List Str} {uabNoText : Bool} {ucolNoText : Option Bool} {uddNoText udNoText : Option Addr} {u0NoText u1NoText u2NoText u3NoText u5NoText : Option Value} {ucNoText : Value} {uesNoText : Array DictEntry} {uepNoText : Nat} {uslNoText : Array (Option Value)} (e1_NoText : K.lookup CNoText = some (excClassObj uANoText uBNoText CNoText uNNoText ubNoText [.ref CListError, .type "ValueError", .type "Exception", .type "BaseException", .type "object"] true usnNoText usbNoText uabNoText ucolNoText uddNoText u0NoText u1NoText u2NoText u3NoText u5NoText "ValueError.__new__")) (e50_NoText : K.lookup uNNoText = some ⟨ucNoText, udNoText, .dict uesNoText uepNoText, uslNoText⟩) (e51_NoText : strKeys uesNoText = true) (e52_NoText : PySem.W.nsIn K uNNoText "__init__" = some none) (e31_NoText : PySem.W.keepIn K (.ref CNoText) = true) (e3_NoCommand : PySem.W.findIn K (.ref CNoCommand) "__getattribute__" = some (some (.builtin "BaseException.__getattribute__"))) (e4_NoCommand : PySem.W.findIn K (.ref CNoCommand) "__getattr__" = some none) (e9_NoCommand : PySem.W.subIn K (.ref CNoCommand) (.type "BaseException") = some true) (e11_NoCommand : PySem.W.hasDictIn K CNoCommand = true) (e21_NoCommand : PySem.W.findIn K (.ref CNoCommand) "__class__" = some (some (.builtin "object.__class__"))) (e22_NoCommand : PySem.W.mroIn K CNoCommand (.type "object") = some true) {uANoCommand uBNoCommand : Str} {uNNoCommand : Addr} {ubNoCommand usbNoCommand : List Value} {usnNoCommand : List Str} {uabNoCommand : Bool} {ucolNoCommand : Option Bool} {uddNoCommand udNoCommand : Option Addr} {u0NoCommand u1NoCommand u2NoCommand u3NoCommand u5NoCommand : Option Value} {ucNoCommand : Value} {uesNoCommand : Array DictEntry} {uepNoCommand : Nat} {uslNoCommand : Array (Option Value)} (e1_NoCommand : K.lookup CNoCommand = some (excClassObj uANoCommand uBNoCommand CNoCommand uNNoCommand ubNoCommand [.ref CListError, .type "ValueError", .type "Exception", .type "BaseException", .type "object"] true usnNoCommand usbNoCommand uabNoCommand ucolNoCommand uddNoCommand u0NoCommand u1NoCommand u2NoCommand u3NoCommand u5NoCommand "ValueError.__new__")) (e50_NoCommand : K.lookup uNNoCommand = some ⟨ucNoCommand, udNoCommand, .dict uesNoCommand uepNoCommand, uslNoCommand⟩) (e51_NoCommand : strKeys uesNoCommand = true) (e52_NoCommand : PySem.W.nsIn K uNNoCommand "__init__" = some none) (e31_NoCommand : PySem.W.keepIn K (.ref CNoCommand) = true) (e3_ListError : PySem.W.findIn K (.ref CListError) "__getattribute__" = some (some (.builtin "BaseException.__getattribute__"))) (e4_ListError : PySem.W.findIn K (.ref CListError) "__getattr__" = some none) (e9_ListError : PySem.W.subIn K (.ref CListError) (.type "BaseException") = some true) (e11_ListError : PySem.W.hasDictIn K CListError = true) (e21_ListError : PySem.W.findIn K (.ref CListError) "__class__" = some (some (.builtin "object.__class__"))) (e22_ListError : PySem.W.mroIn K CListError (.type "object") = some true) {uAListError uBListError : Str} {uNListError : Addr} {ubListError usbListError : List Value} {usnListError : List Str} {uabListError : Bool} {ucolListError : Option Bool} {uddListError udListError : Option Addr} {u0ListError u1ListError u2ListError u3ListError u5ListError : Option Value} {ucListError : Value} {uesListError : Array DictEntry} {uepListError : Nat} {uslListError : Array (Option Value)} (e1_ListError : K.lookup CListError = some (excClassObj uAListError uBListError CListError uNListError ubListError [.type "ValueError", .type "Exception", .type "BaseException", .type "object"] true usnListError usbListError uabListError ucolListError uddListError u0ListError u1ListError u2ListError u3ListError u5ListError "ValueError.__new__")) (e50_ListError : K.lookup uNListError = some ⟨ucListError, udListError, .dict uesListError uepListError, uslListError⟩) (e51_ListError : strKeys uesListError = true) (e52_ListError : PySem.W.nsIn K uNListError "__init__" = some none) (e31_ListError : PySem.W.keepIn K (.ref CListError) = true) (e40_ListError_Wrong : PySem.W.kitOne K (.ref CListError) (.ref CWrong) = some false) (e40_ListError_NoName : PySem.W.kitOne K (.ref CListError) (.ref CNoName) = some false) (e40_ListError_Full : PySem.W.kitOne K (.ref CListError) (.ref CFull) = some false) (e40_ListError_NoEntry : PySem.W.kitOne K (.ref CListError) (.ref CNoEntry) = some false) (e40_ListError_There : PySem.W.kitOne K (.ref CListError) (.ref CThere) = some false) (e40_ListError_TooMany : PySem.W.kitOne K (.ref CListError) (.ref CTooMany) = some false) (e40_ListError_BadFacts : PySem.W.kitOne K (.ref CListError) (.ref CBadFacts) = some false) (e40_ListError_NoAnswer : PySem.W.kitOne K (.ref CListError) (.ref CNoAnswer) = some false) (e40_ListError_NoHouse : PySem.W.kitOne K (.ref CListError) (.ref CNoHouse) = some false) (e40_ListError_BadChange : PySem.W.kitOne K (.ref CListError) (.ref CBadChange) = some false) (e40_ListError_NoAsk : PySem.W.kitOne K (.ref CListError) (.ref CNoAsk) = some false) (e40_ListError_Broken : PySem.W.kitOne K (.ref CListError) (.ref CBroken) = some false) (e40_ListError_Hopeless : PySem.W.kitOne K (.ref CListError) (.ref CHopeless) = some false) (e40_ListError_NoStep : PySem.W.kitOne K (.ref CListError) (.ref CNoStep) = some false) (e40_ListError_Late : PySem.W.kitOne K (.ref CListError) (.ref CLate) = some false) (e40_ListError_Nothing : PySem.W.kitOne K (.ref CListError) (.ref CNothing) = some false) (e40_ListError_NoDeed : PySem.W.kitOne K (.ref CListError) (.ref CNoDeed) = some false) (e40_ListError_NoText : PySem.W.kitOne K (.ref CListError) (.ref CNoText) = some false) (e40_ListError_NoCommand : PySem.W.kitOne K (.ref CListError) (.ref CNoCommand) = some false) (e40_Wrong_NoName : PySem.W.kitOne K (.ref CWrong) (.ref CNoName) = some false) (e40_Wrong_Full : PySem.W.kitOne K (.ref CWrong) (.ref CFull) = some false) (e40_Wrong_NoEntry : PySem.W.kitOne K (.ref CWrong) (.ref CNoEntry) = some false) (e40_Wrong_There : PySem.W.kitOne K (.ref CWrong) (.ref CThere) = some false) (e40_Wrong_TooMany : PySem.W.kitOne K (.ref CWrong) (.ref CTooMany) = some false) (e40_Wrong_BadFacts : PySem.W.kitOne K (.ref CWrong) (.ref CBadFacts) = some false) (e40_Wrong_NoAnswer : PySem.W.kitOne K (.ref CWrong) (.ref CNoAnswer) = some false) (e40_Wrong_NoHouse : PySem.W.kitOne K (.ref CWrong) (.ref CNoHouse) = some false) (e40_Wrong_BadChange : PySem.W.kitOne K (.ref CWrong) (.ref CBadChange) = some false) (e40_Wrong_NoAsk : PySem.W.kitOne K (.ref CWrong) (.ref CNoAsk) = some false) (e40_Wrong_Broken : PySem.W.kitOne K (.ref CWrong) (.ref CBroken) = some false) (e40_Wrong_Hopeless : PySem.W.kitOne K (.ref CWrong) (.ref CHopeless) = some false) (e40_Wrong_NoStep : PySem.W.kitOne K (.ref CWrong) (.ref CNoStep) = some false) (e40_Wrong_Late : PySem.W.kitOne K (.ref CWrong) (.ref CLate) = some false) (e40_Wrong_Nothing : PySem.W.kitOne K (.ref CWrong) (.ref CNothing) = some false) (e40_Wrong_NoDeed : PySem.W.kitOne K (.ref CWrong) (.ref CNoDeed) = some false) (e40_Wrong_NoText : PySem.W.kitOne K (.ref CWrong) (.ref CNoText) = some false) (e40_Wrong_NoCommand : PySem.W.kitOne K (.ref CWrong) (.ref CNoCommand) = some false) (e40_NoName_Wrong : PySem.W.kitOne K (.ref CNoName) (.ref CWrong) = some false) (e40_NoName_Full : PySem.W.kitOne K (.ref CNoName) (.ref CFull) = some false) (e40_NoName_NoEntry : PySem.W.kitOne K (.ref CNoName) (.ref CNoEntry) = some false) (e40_NoName_There : PySem.W.kitOne K (.ref CNoName) (.ref CThere) = some false) (e40_NoName_TooMany : PySem.W.kitOne K (.ref CNoName) (.ref CTooMany) = some false) (e40_NoName_BadFacts : PySem.W.kitOne K (.ref CNoName) (.ref CBadFacts) = some false) (e40_NoName_NoAnswer : PySem.W.kitOne K (.ref CNoName) (.ref CNoAnswer) = some false) (e40_NoName_NoHouse : PySem.W.kitOne K (.ref CNoName) (.ref CNoHouse) = some false) (e40_NoName_BadChange : PySem.W.kitOne K (.ref CNoName) (.ref CBadChange) = some false) (e40_NoName_NoAsk : PySem.W.kitOne K (.ref CNoName) (.ref CNoAsk) = some false) (e40_NoName_Broken : PySem.W.kitOne K (.ref CNoName) (.ref CBroken) = some false) (e40_NoName_Hopeless : PySem.W.kitOne K (.ref CNoName) (.ref CHopeless) = some false) (e40_NoName_NoStep : PySem.W.kitOne K (.ref CNoName) (.ref CNoStep) = some false) (e40_NoName_Late : PySem.W.kitOne K (.ref CNoName) (.ref CLate) = some false) (e40_NoName_Nothing : PySem.W.kitOne K (.ref CNoName) (.ref CNothing) = some false) (e40_NoName_NoDeed : PySem.W.kitOne K (.ref CNoName) (.ref CNoDeed) = some false) (e40_NoName_NoText : PySem.W.kitOne K (.ref CNoName) (.ref CNoText) = some false) (e40_NoName_NoCommand : PySem.W.kitOne K (.ref CNoName) (.ref CNoCommand) = some false) (e40_Full_Wrong : PySem.W.kitOne K (.ref CFull) (.ref CWrong) = some false) (e40_Full_NoName : PySem.W.kitOne K (.ref CFull) (.ref CNoName) = some false) (e40_Full_NoEntry : PySem.W.kitOne K (.ref CFull) (.ref CNoEntry) = some false) (e40_Full_There : PySem.W.kitOne K (.ref CFull) (.ref CThere) = some false) (e40_Full_TooMany : PySem.W.kitOne K (.ref CFull) (.ref CTooMany) = some false) (e40_Full_BadFacts : PySem.W.kitOne K (.ref CFull) (.ref CBadFacts) = some false) (e40_Full_NoAnswer : PySem.W.kitOne K (.ref CFull) (.ref CNoAnswer) = some false) (e40_Full_NoHouse : PySem.W.kitOne K (.ref CFull) (.ref CNoHouse) = some false) (e40_Full_BadChange : PySem.W.kitOne K (.ref CFull) (.ref CBadChange) = some false) (e40_Full_NoAsk : PySem.W.kitOne K (.ref CFull) (.ref CNoAsk) = some false) (e40_Full_Broken : PySem.W.kitOne K (.ref CFull) (.ref CBroken) = some false) (e40_Full_Hopeless : PySem.W.kitOne K (.ref CFull) (.ref CHopeless) = some false) (e40_Full_NoStep : PySem.W.kitOne K (.ref CFull) (.ref CNoStep) = some false) (e40_Full_Late : PySem.W.kitOne K (.ref CFull) (.ref CLate) = some false) (e40_Full_Nothing : PySem.W.kitOne K (.ref CFull) (.ref CNothing) = some false) (e40_Full_NoDeed : PySem.W.kitOne K (.ref CFull) (.ref CNoDeed) = some false) (e40_Full_NoText : PySem.W.kitOne K (.ref CFull) (.ref CNoText) = some false) (e40_Full_NoCommand : PySem.W.kitOne K (.ref CFull) (.ref CNoCommand) = some false) (e40_NoEntry_Wrong : PySem.W.kitOne K (.ref CNoEntry) (.ref CWrong) = some false) (e40_NoEntry_NoName : PySem.W.kitOne K (.ref CNoEntry) (.ref CNoName) = some false) (e40_NoEntry_Full : PySem.W.kitOne K (.ref CNoEntry) (.ref CFull) = some false) (e40_NoEntry_There : PySem.W.kitOne K (.ref CNoEntry) (.ref CThere) = some false) (e40_NoEntry_TooMany : PySem.W.kitOne K (.ref CNoEntry) (.ref CTooMany) = some false) (e40_NoEntry_BadFacts : PySem.W.kitOne K (.ref CNoEntry) (.ref CBadFacts) = some false) (e40_NoEntry_NoAnswer : PySem.W.kitOne K (.ref CNoEntry) (.ref CNoAnswer) = some false) (e40_NoEntry_NoHouse : PySem.W.kitOne K (.ref CNoEntry) (.ref CNoHouse) = some false) (e40_NoEntry_BadChange : PySem.W.kitOne K (.ref CNoEntry) (.ref CBadChange) = some false) (e40_NoEntry_NoAsk : PySem.W.kitOne K (.ref CNoEntry) (.ref CNoAsk) = some false) (e40_NoEntry_Broken : PySem.W.kitOne K (.ref CNoEntry) (.ref CBroken) = some false) (e40_NoEntry_Hopeless : PySem.W.kitOne K (.ref CNoEntry) (.ref CHopeless) = some false) (e40_NoEntry_NoStep : PySem.W.kitOne K (.ref CNoEntry) (.ref CNoStep) = some false) (e40_NoEntry_Late : PySem.W.kitOne K (.ref CNoEntry) (.ref CLate) = some false) (e40_NoEntry_Nothing : PySem.W.kitOne K (.ref CNoEntry) (.ref CNothing) = some false) (e40_NoEntry_NoDeed : PySem.W.kitOne K (.ref CNoEntry) (.ref CNoDeed) = some false) (e40_NoEntry_NoText : PySem.W.kitOne K (.ref CNoEntry) (.ref CNoText) = some false) (e40_NoEntry_NoCommand : PySem.W.kitOne K (.ref CNoEntry) (.ref CNoCommand) = some false) (e40_There_Wrong : PySem.W.kitOne K (.ref CThere) (.ref CWrong) = some false) (e40_There_NoName : PySem.W.kitOne K (.ref CThere) (.ref CNoName) = some false) (e40_There_Full : PySem.W.kitOne K (.ref CThere) (.ref CFull) = some false) (e40_There_NoEntry : PySem.W.kitOne K (.ref CThere) (.ref CNoEntry) = some false) (e40_There_TooMany : PySem.W.kitOne K (.ref CThere) (.ref CTooMany) = some false) (e40_There_BadFacts : PySem.W.kitOne K (.ref CThere) (.ref CBadFacts) = some false) (e40_There_NoAnswer : PySem.W.kitOne K (.ref CThere) (.ref CNoAnswer) = some false) (e40_There_NoHouse : PySem.W.kitOne K (.ref CThere) (.ref CNoHouse) = some false) (e40_There_BadChange : PySem.W.kitOne K (.ref CThere) (.ref CBadChange) = some false) (e40_There_NoAsk : PySem.W.kitOne K (.ref CThere) (.ref CNoAsk) = some false) (e40_There_Broken : PySem.W.kitOne K (.ref CThere) (.ref CBroken) = some false) (e40_There_Hopeless : PySem.W.kitOne K (.ref CThere) (.ref CHopeless) = some false) (e40_There_NoStep : PySem.W.kitOne K (.ref CThere) (.ref CNoStep) = some false) (e40_There_Late : PySem.W.kitOne K (.ref CThere) (.ref CLate) = some false) (e40_There_Nothing : PySem.W.kitOne K (.ref CThere) (.ref CNothing) = some false) (e40_There_NoDeed : PySem.W.kitOne K (.ref CThere) (.ref CNoDeed) = some false) (e40_There_NoText : PySem.W.kitOne K (.ref CThere) (.ref CNoText) = some false) (e40_There_NoCommand : PySem.W.kitOne K (.ref CThere) (.ref CNoCommand) = some false) (e40_TooMany_Wrong : PySem.W.kitOne K (.ref CTooMany) (.ref CWrong) = some false) (e40_TooMany_NoName : PySem.W.kitOne K (.ref CTooMany) (.ref CNoName) = some false) (e40_TooMany_Full : PySem.W.kitOne K (.ref CTooMany) (.ref CFull) = some false) (e40_TooMany_NoEntry : PySem.W.kitOne K (.ref CTooMany) (.ref CNoEntry) = some false) (e40_TooMany_There : PySem.W.kitOne K (.ref CTooMany) (.ref CThere) = some false) (e40_TooMany_BadFacts : PySem.W.kitOne K (.ref CTooMany) (.ref CBadFacts) = some false) (e40_TooMany_NoAnswer : PySem.W.kitOne K (.ref CTooMany) (.ref CNoAnswer) = some false) (e40_TooMany_NoHouse : PySem.W.kitOne K (.ref CTooMany) (.ref CNoHouse) = some false) (e40_TooMany_BadChange : PySem.W.kitOne K (.ref CTooMany) (.ref CBadChange) = some false) (e40_TooMany_NoAsk : PySem.W.kitOne K (.ref CTooMany) (.ref CNoAsk) = some false) (e40_TooMany_Broken : PySem.W.kitOne K (.ref CTooMany) (.ref CBroken) = some false) (e40_TooMany_Hopeless : PySem.W.kitOne K (.ref CTooMany) (.ref CHopeless) = some false) (e40_TooMany_NoStep : PySem.W.kitOne K (.ref CTooMany) (.ref CNoStep) = some false) (e40_TooMany_Late : PySem.W.kitOne K (.ref CTooMany) (.ref CLate) = some false) (e40_TooMany_Nothing : PySem.W.kitOne K (.ref CTooMany) (.ref CNothing) = some false) (e40_TooMany_NoDeed : PySem.W.kitOne K (.ref CTooMany) (.ref CNoDeed) = some false) (e40_TooMany_NoText : PySem.W.kitOne K (.ref CTooMany) (.ref CNoText) = some false) (e40_TooMany_NoCommand : PySem.W.kitOne K (.ref CTooMany) (.ref CNoCommand) = some false) (e40_BadFacts_Wrong : PySem.W.kitOne K (.ref CBadFacts) (.ref CWrong) = some false) (e40_BadFacts_NoName : PySem.W.kitOne K (.ref CBadFacts) (.ref CNoName) = some false) (e40_BadFacts_Full : PySem.W.kitOne K (.ref CBadFacts) (.ref CFull) = some false) (e40_BadFacts_NoEntry : PySem.W.kitOne K (.ref CBadFacts) (.ref CNoEntry) = some false) (e40_BadFacts_There : PySem.W.kitOne K (.ref CBadFacts) (.ref CThere) = some false) (e40_BadFacts_TooMany : PySem.W.kitOne K (.ref CBadFacts) (.ref CTooMany) = some false) (e40_BadFacts_NoAnswer : PySem.W.kitOne K (.ref CBadFacts) (.ref CNoAnswer) = some false) (e40_BadFacts_NoHouse : PySem.W.kitOne K (.ref CBadFacts) (.ref CNoHouse) = some false) (e40_BadFacts_BadChange : PySem.W.kitOne K (.ref CBadFacts) (.ref CBadChange) = some false) (e40_BadFacts_NoAsk : PySem.W.kitOne K (.ref CBadFacts) (.ref CNoAsk) = some false) (e40_BadFacts_Broken : PySem.W.kitOne K (.ref CBadFacts) (.ref CBroken) = some false) (e40_BadFacts_Hopeless : PySem.W.kitOne K (.ref CBadFacts) (.ref CHopeless) = some false) (e40_BadFacts_NoStep : PySem.W.kitOne K (.ref CBadFacts) (.ref CNoStep) = some false) (e40_BadFacts_Late : PySem.W.kitOne K (.ref CBadFacts) (.ref CLate) = some false) (e40_BadFacts_Nothing : PySem.W.kitOne K (.ref CBadFacts) (.ref CNothing) = some false) (e40_BadFacts_NoDeed : PySem.W.kitOne K (.ref CBadFacts) (.ref CNoDeed) = some false) (e40_BadFacts_NoText : PySem.W.kitOne K (.ref CBadFacts) (.ref CNoText) = some false) (e40_BadFacts_NoCommand : PySem.W.kitOne K (.ref CBadFacts) (.ref CNoCommand) = some false) (e40_NoAnswer_Wrong : PySem.W.kitOne K (.ref CNoAnswer) (.ref CWrong) = some false) (e40_NoAnswer_NoName : PySem.W.kitOne K (.ref CNoAnswer) (.ref CNoName) = some false) (e40_NoAnswer_Full : PySem.W.kitOne K (.ref CNoAnswer) (.ref CFull) = some false) (e40_NoAnswer_NoEntry : PySem.W.kitOne K (.ref CNoAnswer) (.ref CNoEntry) = some false) (e40_NoAnswer_There : PySem.W.kitOne K (.ref CNoAnswer) (.ref CThere) = some false) (e40_NoAnswer_TooMany : PySem.W.kitOne K (.ref CNoAnswer) (.ref CTooMany) = some false) (e40_NoAnswer_BadFacts : PySem.W.kitOne K (.ref CNoAnswer) (.ref CBadFacts) = some false) (e40_NoAnswer_NoHouse : PySem.W.kitOne K (.ref CNoAnswer) (.ref CNoHouse) = some false) (e40_NoAnswer_BadChange : PySem.W.kitOne K (.ref CNoAnswer) (.ref CBadChange) = some false) (e40_NoAnswer_NoAsk : PySem.W.kitOne K (.ref CNoAnswer) (.ref CNoAsk) = some false) (e40_NoAnswer_Broken : PySem.W.kitOne K (.ref CNoAnswer) (.ref CBroken) = some false) (e40_NoAnswer_Hopeless : PySem.W.kitOne K (.ref CNoAnswer) (.ref CHopeless) = some false) (e40_NoAnswer_NoStep : PySem.W.kitOne K (.ref CNoAnswer) (.ref CNoStep) = some false) (e40_NoAnswer_Late : PySem.W.kitOne K (.ref CNoAnswer) (.ref CLate) = some false) (e40_NoAnswer_Nothing : PySem.W.kitOne K (.ref CNoAnswer) (.ref CNothing) = some false) (e40_NoAnswer_NoDeed : PySem.W.kitOne K (.ref CNoAnswer) (.ref CNoDeed) = some false) (e40_NoAnswer_NoText : PySem.W.kitOne K (.ref CNoAnswer) (.ref CNoText) = some false) (e40_NoAnswer_NoCommand : PySem.W.kitOne K (.ref CNoAnswer) (.ref CNoCommand) = some false) (e40_NoHouse_Wrong : PySem.W.kitOne K (.ref CNoHouse) (.ref CWrong) = some false) (e40_NoHouse_NoName : PySem.W.kitOne K (.ref CNoHouse) (.ref CNoName) = some false) (e40_NoHouse_Full : PySem.W.kitOne K (.ref CNoHouse) (.ref CFull) = some false) (e40_NoHouse_NoEntry : PySem.W.kitOne K (.ref CNoHouse) (.ref CNoEntry) = some false) (e40_NoHouse_There : PySem.W.kitOne K (.ref CNoHouse) (.ref CThere) = some false) (e40_NoHouse_TooMany : PySem.W.kitOne K (.ref CNoHouse) (.ref CTooMany) = some false) (e40_NoHouse_BadFacts : PySem.W.kitOne K (.ref CNoHouse) (.ref CBadFacts) = some false) (e40_NoHouse_NoAnswer : PySem.W.kitOne K (.ref CNoHouse) (.ref CNoAnswer) = some false) (e40_NoHouse_BadChange : PySem.W.kitOne K (.ref CNoHouse) (.ref CBadChange) = some false) (e40_NoHouse_NoAsk : PySem.W.kitOne K (.ref CNoHouse) (.ref CNoAsk) = some false) (e40_NoHouse_Broken : PySem.W.kitOne K (.ref CNoHouse) (.ref CBroken) = some false) (e40_NoHouse_Hopeless : PySem.W.kitOne K (.ref CNoHouse) (.ref CHopeless) = some false) (e40_NoHouse_NoStep : PySem.W.kitOne K (.ref CNoHouse) (.ref CNoStep) = some false) (e40_NoHouse_Late : PySem.W.kitOne K (.ref CNoHouse) (.ref CLate) = some false) (e40_NoHouse_Nothing : PySem.W.kitOne K (.ref CNoHouse) (.ref CNothing) = some false) (e40_NoHouse_NoDeed : PySem.W.kitOne K (.ref CNoHouse) (.ref CNoDeed) = some false) (e40_NoHouse_NoText : PySem.W.kitOne K (.ref CNoHouse) (.ref CNoText) = some false) (e40_NoHouse_NoCommand : PySem.W.kitOne K (.ref CNoHouse) (.ref CNoCommand) = some false) (e40_BadChange_Wrong : PySem.W.kitOne K (.ref CBadChange) (.ref CWrong) = some false) (e40_BadChange_NoName : PySem.W.kitOne K (.ref CBadChange) (.ref CNoName) = some false) (e40_BadChange_Full : PySem.W.kitOne K (.ref CBadChange) (.ref CFull) = some false) (e40_BadChange_NoEntry : PySem.W.kitOne K (.ref CBadChange) (.ref CNoEntry) = some false) (e40_BadChange_There : PySem.W.kitOne K (.ref CBadChange) (.ref CThere) = some false) (e40_BadChange_TooMany : PySem.W.kitOne K (.ref CBadChange) (.ref CTooMany) = some false) (e40_BadChange_BadFacts : PySem.W.kitOne K (.ref CBadChange) (.ref CBadFacts) = some false) (e40_BadChange_NoAnswer : PySem.W.kitOne K (.ref CBadChange) (.ref CNoAnswer) = some false) (e40_BadChange_NoHouse : PySem.W.kitOne K (.ref CBadChange) (.ref CNoHouse) = some false) (e40_BadChange_NoAsk : PySem.W.kitOne K (.ref CBadChange) (.ref CNoAsk) = some false) (e40_BadChange_Broken : PySem.W.kitOne K (.ref CBadChange) (.ref CBroken) = some false) (e40_BadChange_Hopeless : PySem.W.kitOne K (.ref CBadChange) (.ref CHopeless) = some false) (e40_BadChange_NoStep : PySem.W.kitOne K (.ref CBadChange) (.ref CNoStep) = some false) (e40_BadChange_Late : PySem.W.kitOne K (.ref CBadChange) (.ref CLate) = some false) (e40_BadChange_Nothing : PySem.W.kitOne K (.ref CBadChange) (.ref CNothing) = some false) (e40_BadChange_NoDeed : PySem.W.kitOne K (.ref CBadChange) (.ref CNoDeed) = some false) (e40_BadChange_NoText : PySem.W.kitOne K (.ref CBadChange) (.ref CNoText) = some false) (e40_BadChange_NoCommand : PySem.W.kitOne K (.ref CBadChange) (.ref CNoCommand) = some false) (e40_NoAsk_Wrong : PySem.W.kitOne K (.ref CNoAsk) (.ref CWrong) = some false) (e40_NoAsk_NoName : PySem.W.kitOne K (.ref CNoAsk) (.ref CNoName) = some false) (e40_NoAsk_Full : PySem.W.kitOne K (.ref CNoAsk) (.ref CFull) = some false) (e40_NoAsk_NoEntry : PySem.W.kitOne K (.ref CNoAsk) (.ref CNoEntry) = some false) (e40_NoAsk_There : PySem.W.kitOne K (.ref CNoAsk) (.ref CThere) = some false) (e40_NoAsk_TooMany : PySem.W.kitOne K (.ref CNoAsk) (.ref CTooMany) = some false) (e40_NoAsk_BadFacts : PySem.W.kitOne K (.ref CNoAsk) (.ref CBadFacts) = some false) (e40_NoAsk_NoAnswer : PySem.W.kitOne K (.ref CNoAsk) (.ref CNoAnswer) = some false) (e40_NoAsk_NoHouse : PySem.W.kitOne K (.ref CNoAsk) (.ref CNoHouse) = some false) (e40_NoAsk_BadChange : PySem.W.kitOne K (.ref CNoAsk) (.ref CBadChange) = some false) (e40_NoAsk_Broken : PySem.W.kitOne K (.ref CNoAsk) (.ref CBroken) = some false) (e40_NoAsk_Hopeless : PySem.W.kitOne K (.ref CNoAsk) (.ref CHopeless) = some false) (e40_NoAsk_NoStep : PySem.W.kitOne K (.ref CNoAsk) (.ref CNoStep) = some false) (e40_NoAsk_Late : PySem.W.kitOne K (.ref CNoAsk) (.ref CLate) = some false) (e40_NoAsk_Nothing : PySem.W.kitOne K (.ref CNoAsk) (.ref CNothing) = some false) (e40_NoAsk_NoDeed : PySem.W.kitOne K (.ref CNoAsk) (.ref CNoDeed) = some false) (e40_NoAsk_NoText : PySem.W.kitOne K (.ref CNoAsk) (.ref CNoText) = some false) (e40_NoAsk_NoCommand : PySem.W.kitOne K (.ref CNoAsk) (.ref CNoCommand) = some false) (e40_Broken_Wrong : PySem.W.kitOne K (.ref CBroken) (.ref CWrong) = some false) (e40_Broken_NoName : PySem.W.kitOne K (.ref CBroken) (.ref CNoName) = some false) (e40_Broken_Full : PySem.W.kitOne K (.ref CBroken) (.ref CFull) = some false) (e40_Broken_NoEntry : PySem.W.kitOne K (.ref CBroken) (.ref CNoEntry) = some false) (e40_Broken_There : PySem.W.kitOne K (.ref CBroken) (.ref CThere) = some false) (e40_Broken_TooMany : PySem.W.kitOne K (.ref CBroken) (.ref CTooMany) = some false) (e40_Broken_BadFacts : PySem.W.kitOne K (.ref CBroken) (.ref CBadFacts) = some false) (e40_Broken_NoAnswer : PySem.W.kitOne K (.ref CBroken) (.ref CNoAnswer) = some false) (e40_Broken_NoHouse : PySem.W.kitOne K (.ref CBroken) (.ref CNoHouse) = some false) (e40_Broken_BadChange : PySem.W.kitOne K (.ref CBroken) (.ref CBadChange) = some false) (e40_Broken_NoAsk : PySem.W.kitOne K (.ref CBroken) (.ref CNoAsk) = some false) (e40_Broken_Hopeless : PySem.W.kitOne K (.ref CBroken) (.ref CHopeless) = some false) (e40_Broken_NoStep : PySem.W.kitOne K (.ref CBroken) (.ref CNoStep) = some false) (e40_Broken_Late : PySem.W.kitOne K (.ref CBroken) (.ref CLate) = some false) (e40_Broken_Nothing : PySem.W.kitOne K (.ref CBroken) (.ref CNothing) = some false) (e40_Broken_NoDeed : PySem.W.kitOne K (.ref CBroken) (.ref CNoDeed) = some false) (e40_Broken_NoText : PySem.W.kitOne K (.ref CBroken) (.ref CNoText) = some false) (e40_Broken_NoCommand : PySem.W.kitOne K (.ref CBroken) (.ref CNoCommand) = some false) (e40_Hopeless_Wrong : PySem.W.kitOne K (.ref CHopeless) (.ref CWrong) = some false) (e40_Hopeless_NoName : PySem.W.kitOne K (.ref CHopeless) (.ref CNoName) = some false) (e40_Hopeless_Full : PySem.W.kitOne K (.ref CHopeless) (.ref CFull) = some false) (e40_Hopeless_NoEntry : PySem.W.kitOne K (.ref CHopeless) (.ref CNoEntry) = some false) (e40_Hopeless_There : PySem.W.kitOne K (.ref CHopeless) (.ref CThere) = some false) (e40_Hopeless_TooMany : PySem.W.kitOne K (.ref CHopeless) (.ref CTooMany) = some false) (e40_Hopeless_BadFacts : PySem.W.kitOne K (.ref CHopeless) (.ref CBadFacts) = some false) (e40_Hopeless_NoAnswer : PySem.W.kitOne K (.ref CHopeless) (.ref CNoAnswer) = some false) (e40_Hopeless_NoHouse : PySem.W.kitOne K (.ref CHopeless) (.ref CNoHouse) = some false) (e40_Hopeless_BadChange : PySem.W.kitOne K (.ref CHopeless) (.ref CBadChange) = some false) (e40_Hopeless_NoAsk : PySem.W.kitOne K (.ref CHopeless) (.ref CNoAsk) = some false) (e40_Hopeless_Broken : PySem.W.kitOne K (.ref CHopeless) (.ref CBroken) = some false) (e40_Hopeless_NoStep : PySem.W.kitOne K (.ref CHopeless) (.ref CNoStep) = some false) (e40_Hopeless_Late : PySem.W.kitOne K (.ref CHopeless) (.ref CLate) = some false) (e40_Hopeless_Nothing : PySem.W.kitOne K (.ref CHopeless) (.ref CNothing) = some false) (e40_Hopeless_NoDeed : PySem.W.kitOne K (.ref CHopeless) (.ref CNoDeed) = some false) (e40_Hopeless_NoText : PySem.W.kitOne K (.ref CHopeless) (.ref CNoText) = some false) (e40_Hopeless_NoCommand : PySem.W.kitOne K (.ref CHopeless) (.ref CNoCommand) = some false) (e40_NoStep_Wrong : PySem.W.kitOne K (.ref CNoStep) (.ref CWrong) = some false) (e40_NoStep_NoName : PySem.W.kitOne K (.ref CNoStep) (.ref CNoName) = some false) (e40_NoStep_Full : PySem.W.kitOne K (.ref CNoStep) (.ref CFull) = some false) (e40_NoStep_NoEntry : PySem.W.kitOne K (.ref CNoStep) (.ref CNoEntry) = some false) (e40_NoStep_There : PySem.W.kitOne K (.ref CNoStep) (.ref CThere) = some false) (e40_NoStep_TooMany : PySem.W.kitOne K (.ref CNoStep) (.ref CTooMany) = some false) (e40_NoStep_BadFacts : PySem.W.kitOne K (.ref CNoStep) (.ref CBadFacts) = some false) (e40_NoStep_NoAnswer : PySem.W.kitOne K (.ref CNoStep) (.ref CNoAnswer) = some false) (e40_NoStep_NoHouse : PySem.W.kitOne K (.ref CNoStep) (.ref CNoHouse) = some false) (e40_NoStep_BadChange : PySem.W.kitOne K (.ref CNoStep) (.ref CBadChange) = some false) (e40_NoStep_NoAsk : PySem.W.kitOne K (.ref CNoStep) (.ref CNoAsk) = some false) (e40_NoStep_Broken : PySem.W.kitOne K (.ref CNoStep) (.ref CBroken) = some false) (e40_NoStep_Hopeless : PySem.W.kitOne K (.ref CNoStep) (.ref CHopeless) = some false) (e40_NoStep_Late : PySem.W.kitOne K (.ref CNoStep) (.ref CLate) = some false) (e40_NoStep_Nothing : PySem.W.kitOne K (.ref CNoStep) (.ref CNothing) = some false) (e40_NoStep_NoDeed : PySem.W.kitOne K (.ref CNoStep) (.ref CNoDeed) = some false) (e40_NoStep_NoText : PySem.W.kitOne K (.ref CNoStep) (.ref CNoText) = some false) (e40_NoStep_NoCommand : PySem.W.kitOne K (.ref CNoStep) (.ref CNoCommand) = some false) (e40_Late_Wrong : PySem.W.kitOne K (.ref CLate) (.ref CWrong) = some false) (e40_Late_NoName : PySem.W.kitOne K (.ref CLate) (.ref CNoName) = some false) (e40_Late_Full : PySem.W.kitOne K (.ref CLate) (.ref CFull) = some false) (e40_Late_NoEntry : PySem.W.kitOne K (.ref CLate) (.ref CNoEntry) = some false) (e40_Late_There : PySem.W.kitOne K (.ref CLate) (.ref CThere) = some false) (e40_Late_TooMany : PySem.W.kitOne K (.ref CLate) (.ref CTooMany) = some false) (e40_Late_BadFacts : PySem.W.kitOne K (.ref CLate) (.ref CBadFacts) = some false) (e40_Late_NoAnswer : PySem.W.kitOne K (.ref CLate) (.ref CNoAnswer) = some false) (e40_Late_NoHouse : PySem.W.kitOne K (.ref CLate) (.ref CNoHouse) = some false) (e40_Late_BadChange : PySem.W.kitOne K (.ref CLate) (.ref CBadChange) = some false) (e40_Late_NoAsk : PySem.W.kitOne K (.ref CLate) (.ref CNoAsk) = some false) (e40_Late_Broken : PySem.W.kitOne K (.ref CLate) (.ref CBroken) = some false) (e40_Late_Hopeless : PySem.W.kitOne K (.ref CLate) (.ref CHopeless) = some false) (e40_Late_NoStep : PySem.W.kitOne K (.ref CLate) (.ref CNoStep) = some false) (e40_Late_Nothing : PySem.W.kitOne K (.ref CLate) (.ref CNothing) = some false) (e40_Late_NoDeed : PySem.W.kitOne K (.ref CLate) (.ref CNoDeed) = some false) (e40_Late_NoText : PySem.W.kitOne K (.ref CLate) (.ref CNoText) = some false) (e40_Late_NoCommand : PySem.W.kitOne K (.ref CLate) (.ref CNoCommand) = some false) (e40_Nothing_Wrong : PySem.W.kitOne K (.ref CNothing) (.ref CWrong) = some false) (e40_Nothing_NoName : PySem.W.kitOne K (.ref CNothing) (.ref CNoName) = some false) (e40_Nothing_Full : PySem.W.kitOne K (.ref CNothing) (.ref CFull) = some false) (e40_Nothing_NoEntry : PySem.W.kitOne K (.ref CNothing) (.ref CNoEntry) = some false) (e40_Nothing_There : PySem.W.kitOne K (.ref CNothing) (.ref CThere) = some false) (e40_Nothing_TooMany : PySem.W.kitOne K (.ref CNothing) (.ref CTooMany) = some false) (e40_Nothing_BadFacts : PySem.W.kitOne K (.ref CNothing) (.ref CBadFacts) = some false) (e40_Nothing_NoAnswer : PySem.W.kitOne K (.ref CNothing) (.ref CNoAnswer) = some false) (e40_Nothing_NoHouse : PySem.W.kitOne K (.ref CNothing) (.ref CNoHouse) = some false) (e40_Nothing_BadChange : PySem.W.kitOne K (.ref CNothing) (.ref CBadChange) = some false) (e40_Nothing_NoAsk : PySem.W.kitOne K (.ref CNothing) (.ref CNoAsk) = some false) (e40_Nothing_Broken : PySem.W.kitOne K (.ref CNothing) (.ref CBroken) = some false) (e40_Nothing_Hopeless : PySem.W.kitOne K (.ref CNothing) (.ref CHopeless) = some false) (e40_Nothing_NoStep : PySem.W.kitOne K (.ref CNothing) (.ref CNoStep) = some false) (e40_Nothing_Late : PySem.W.kitOne K (.ref CNothing) (.ref CLate) = some false) (e40_Nothing_NoDeed : PySem.W.kitOne K (.ref CNothing) (.ref CNoDeed) = some false) (e40_Nothing_NoText : PySem.W.kitOne K (.ref CNothing) (.ref CNoText) = some false) (e40_Nothing_NoCommand : PySem.W.kitOne K (.ref CNothing) (.ref CNoCommand) = some false) (e40_NoDeed_Wrong : PySem.W.kitOne K (.ref CNoDeed) (.ref CWrong) = some false) (e40_NoDeed_NoName : PySem.W.kitOne K (.ref CNoDeed) (.ref CNoName) = some false) (e40_NoDeed_Full : PySem.W.kitOne K (.ref CNoDeed) (.ref CFull) = some false) (e40_NoDeed_NoEntry : PySem.W.kitOne K (.ref CNoDeed) (.ref CNoEntry) = some false) (e40_NoDeed_There : PySem.W.kitOne K (.ref CNoDeed) (.ref CThere) = some false) (e40_NoDeed_TooMany : PySem.W.kitOne K (.ref CNoDeed) (.ref CTooMany) = some false) (e40_NoDeed_BadFacts : PySem.W.kitOne K (.ref CNoDeed) (.ref CBadFacts) = some false) (e40_NoDeed_NoAnswer : PySem.W.kitOne K (.ref CNoDeed) (.ref CNoAnswer) = some false) (e40_NoDeed_NoHouse : PySem.W.kitOne K (.ref CNoDeed) (.ref CNoHouse) = some false) (e40_NoDeed_BadChange : PySem.W.kitOne K (.ref CNoDeed) (.ref CBadChange) = some false) (e40_NoDeed_NoAsk : PySem.W.kitOne K (.ref CNoDeed) (.ref CNoAsk) = some false) (e40_NoDeed_Broken : PySem.W.kitOne K (.ref CNoDeed) (.ref CBroken) = some false) (e40_NoDeed_Hopeless : PySem.W.kitOne K (.ref CNoDeed) (.ref CHopeless) = some false) (e40_NoDeed_NoStep : PySem.W.kitOne K (.ref CNoDeed) (.ref CNoStep) = some false) (e40_NoDeed_Late : PySem.W.kitOne K (.ref CNoDeed) (.ref CLate) = some false) (e40_NoDeed_Nothing : PySem.W.kitOne K (.ref CNoDeed) (.ref CNothing) = some false) (e40_NoDeed_NoText : PySem.W.kitOne K (.ref CNoDeed) (.ref CNoText) = some false) (e40_NoDeed_NoCommand : PySem.W.kitOne K (.ref CNoDeed) (.ref CNoCommand) = some false) (e40_NoText_Wrong : PySem.W.kitOne K (.ref CNoText) (.ref CWrong) = some false) (e40_NoText_NoName : PySem.W.kitOne K (.ref CNoText) (.ref CNoName) = some false) (e40_NoText_Full : PySem.W.kitOne K (.ref CNoText) (.ref CFull) = some false) (e40_NoText_NoEntry : PySem.W.kitOne K (.ref CNoText) (.ref CNoEntry) = some false) (e40_NoText_There : PySem.W.kitOne K (.ref CNoText) (.ref CThere) = some false) (e40_NoText_TooMany : PySem.W.kitOne K (.ref CNoText) (.ref CTooMany) = some false) (e40_NoText_BadFacts : PySem.W.kitOne K (.ref CNoText) (.ref CBadFacts) = some false) (e40_NoText_NoAnswer : PySem.W.kitOne K (.ref CNoText) (.ref CNoAnswer) = some false) (e40_NoText_NoHouse : PySem.W.kitOne K (.ref CNoText) (.ref CNoHouse) = some false) (e40_NoText_BadChange : PySem.W.kitOne K (.ref CNoText) (.ref CBadChange) = some false) (e40_NoText_NoAsk : PySem.W.kitOne K (.ref CNoText) (.ref CNoAsk) = some false) (e40_NoText_Broken : PySem.W.kitOne K (.ref CNoText) (.ref CBroken) = some false) (e40_NoText_Hopeless : PySem.W.kitOne K (.ref CNoText) (.ref CHopeless) = some false) (e40_NoText_NoStep : PySem.W.kitOne K (.ref CNoText) (.ref CNoStep) = some false) (e40_NoText_Late : PySem.W.kitOne K (.ref CNoText) (.ref CLate) = some false) (e40_NoText_Nothing : PySem.W.kitOne K (.ref CNoText) (.ref CNothing) = some false) (e40_NoText_NoDeed : PySem.W.kitOne K (.ref CNoText) (.ref CNoDeed) = some false) (e40_NoText_NoCommand : PySem.W.kitOne K (.ref CNoText) (.ref CNoCommand) = some false) (e40_NoCommand_Wrong : PySem.W.kitOne K (.ref CNoCommand) (.ref CWrong) = some false) (e40_NoCommand_NoName : PySem.W.kitOne K (.ref CNoCommand) (.ref CNoName) = some false) (e40_NoCommand_Full : PySem.W.kitOne K (.ref CNoCommand) (.ref CFull) = some false) (e40_NoCommand_NoEntry : PySem.W.kitOne K (.ref CNoCommand) (.ref CNoEntry) = some false) (e40_NoCommand_There : PySem.W.kitOne K (.ref CNoCommand) (.ref CThere) = some false) (e40_NoCommand_TooMany : PySem.W.kitOne K (.ref CNoCommand) (.ref CTooMany) = some false) (e40_NoCommand_BadFacts : PySem.W.kitOne K (.ref CNoCommand) (.ref CBadFacts) = some false) (e40_NoCommand_NoAnswer : PySem.W.kitOne K (.ref CNoCommand) (.ref CNoAnswer) = some false) (e40_NoCommand_NoHouse : PySem.W.kitOne K (.ref CNoCommand) (.ref CNoHouse) = some false) (e40_NoCommand_BadChange : PySem.W.kitOne K (.ref CNoCommand) (.ref CBadChange) = some false) (e40_NoCommand_NoAsk : PySem.W.kitOne K (.ref CNoCommand) (.ref CNoAsk) = some false) (e40_NoCommand_Broken : PySem.W.kitOne K (.ref CNoCommand) (.ref CBroken) = some false) (e40_NoCommand_Hopeless : PySem.W.kitOne K (.ref CNoCommand) (.ref CHopeless) = some false) (e40_NoCommand_NoStep : PySem.W.kitOne K (.ref CNoCommand) (.ref CNoStep) = some false) (e40_NoCommand_Late : PySem.W.kitOne K (.ref CNoCommand) (.ref CLate) = some false) (e40_NoCommand_Nothing : PySem.W.kitOne K (.ref CNoCommand) (.ref CNothing) = some false) (e40_NoCommand_NoDeed : PySem.W.kitOne K (.ref CNoCommand) (.ref CNoDeed) = some false) (e40_NoCommand_NoText : PySem.W.kitOne K (.ref CNoCommand) (.ref CNoText) = some false) (e41_Wrong : PySem.W.kitOne K (.ref CWrong) (.ref CListError) = some true) (e42_Wrong : PySem.W.kitOne K (.ref CWrong) (.type "ValueError") = some true) (e41_NoName : PySem.W.kitOne K (.ref CNoName) (.ref CListError) = some true) (e42_NoName : PySem.W.kitOne K (.ref CNoName) (.type "ValueError") = some true) (e41_Full : PySem.W.kitOne K (.ref CFull) (.ref CListError) = some true) (e42_Full : PySem.W.kitOne K (.ref CFull) (.type "ValueError") = some true) (e41_NoEntry : PySem.W.kitOne K (.ref CNoEntry) (.ref CListError) = some true) (e42_NoEntry : PySem.W.kitOne K (.ref CNoEntry) (.type "ValueError") = some true) (e41_There : PySem.W.kitOne K (.ref CThere) (.ref CListError) = some true) (e42_There : PySem.W.kitOne K (.ref CThere) (.type "ValueError") = some true) (e41_TooMany : PySem.W.kitOne K (.ref CTooMany) (.ref CListError) = some true) (e42_TooMany : PySem.W.kitOne K (.ref CTooMany) (.type "ValueError") = some true) (e41_BadFacts : PySem.W.kitOne K (.ref CBadFacts) (.ref CListError) = some true) (e42_BadFacts : PySem.W.kitOne K (.ref CBadFacts) (.type "ValueError") = some true) (e41_NoAnswer : PySem.W.kitOne K (.ref CNoAnswer) (.ref CListError) = some true) (e42_NoAnswer : PySem.W.kitOne K (.ref CNoAnswer) (.type "ValueError") = some true) (e41_NoHouse : PySem.W.kitOne K (.ref CNoHouse) (.ref CListError) = some true) (e42_NoHouse : PySem.W.kitOne K (.ref CNoHouse) (.type "ValueError") = some true) (e41_BadChange : PySem.W.kitOne K (.ref CBadChange) (.ref CListError) = some true) (e42_BadChange : PySem.W.kitOne K (.ref CBadChange) (.type "ValueError") = some true) (e41_NoAsk : PySem.W.kitOne K (.ref CNoAsk) (.ref CListError) = some true) (e42_NoAsk : PySem.W.kitOne K (.ref CNoAsk) (.type "ValueError") = some true) (e41_Broken : PySem.W.kitOne K (.ref CBroken) (.ref CListError) = some true) (e42_Broken : PySem.W.kitOne K (.ref CBroken) (.type "ValueError") = some true) (e41_Hopeless : PySem.W.kitOne K (.ref CHopeless) (.ref CListError) = some true) (e42_Hopeless : PySem.W.kitOne K (.ref CHopeless) (.type "ValueError") = some true) (e41_NoStep : PySem.W.kitOne K (.ref CNoStep) (.ref CListError) = some true) (e42_NoStep : PySem.W.kitOne K (.ref CNoStep) (.type "ValueError") = some true) (e41_Late : PySem.W.kitOne K (.ref CLate) (.ref CListError) = some true) (e42_Late : PySem.W.kitOne K (.ref CLate) (.type "ValueError") = some true) (e41_Nothing : PySem.W.kitOne K (.ref CNothing) (.ref CListError) = some true) (e42_Nothing : PySem.W.kitOne K (.ref CNothing) (.type "ValueError") = some true) (e41_NoDeed : PySem.W.kitOne K (.ref CNoDeed) (.ref CListError) = some true) (e42_NoDeed : PySem.W.kitOne K (.ref CNoDeed) (.type "ValueError") = some true) (e41_NoText : PySem.W.kitOne K (.ref CNoText) (.ref CListError) = some true) (e42_NoText : PySem.W.kitOne K (.ref CNoText) (.type "ValueError") = some true) (e41_NoCommand : PySem.W.kitOne K (.ref CNoCommand) (.ref CListError) = some true) (e42_NoCommand : PySem.W.kitOne K (.ref CNoCommand) (.type "ValueError") = some true) (z_ValueError : PySem.W.nsIn K mainGlobals "ValueError" = some none) :
    ∃ fd : FuncData, (∀ (s : Shared) (v : Value), BindsTo s fd ⟨[v], []⟩ [("_law_script", v)]) ∧ ∀ base : Heap, K.In base → base.Ns mainGlobals mg → Gd.FnG l.prog w K mg base (L2.CX l.prog w) 5 fa fd ["_law_script"] (spLaw K) := by
  have e := hfa.symm.trans (PySem.W.mg_of X G a7)
  cases e
  have F0 := fun_mk (st := sBag) l0 c0 k0
  have b0 := F0.binds (ps := ["_law_script"]) fun _ _ _ _ _ _ us hl => match us, hl with | [_], _ => rfl
  have F1 := fun_mk (st := sTake) l1 c1 k1
  have b1 := F1.binds (ps := ["_law_bag_here", "_law_many"]) fun _ _ _ _ _ _ us hl => match us, hl with | [_, _], _ => rfl
  have F2 := fun_mk (st := sAlike) l2 c2 k2
  have b2 := F2.binds (ps := ["_law_found", "_law_right"]) fun _ _ _ _ _ _ us hl => match us, hl with | [_, _], _ => rfl
  have F3 := fun_mk (st := sLErrors) l3 c3 k3
  have b3 := F3.binds (ps := ["_law_x", "_law_y", "_law_z"]) fun _ _ _ _ _ _ us hl => match us, hl with | [_, _, _], _ => rfl
  have F4 := fun_mk (st := sLFlags) l4 c4 k4
  have b4 := F4.binds (ps := ["_law_e"]) fun _ _ _ _ _ _ us hl => match us, hl with | [_], _ => rfl
  have F5 := fun_mk (st := sLFields) l5 c5 k5
  have b5 := F5.binds (ps := ["_law_some"]) fun _ _ _ _ _ _ us hl => match us, hl with | [_], _ => rfl
  have F6 := fun_mk (st := sLValue) l6 c6 k6
  have b6 := F6.binds (ps := ["_law_bag_here"]) fun _ _ _ _ _ _ us hl => match us, hl with | [_], _ => rfl
  have F7 := fun_mk (st := sLaw) l7 c7 k7
  have B : Bi mg := ⟨PySem.W.mg_none_of X G z_len, PySem.W.mg_none_of X G z_int, PySem.W.mg_none_of X G z_abs, PySem.W.mg_none_of X G z_tuple, PySem.W.mg_none_of X G z_list, PySem.W.mg_none_of X G z_repr, PySem.W.mg_none_of X G z_range, PySem.W.mg_none_of X G z_sorted, PySem.W.mg_none_of X G z_sum, PySem.W.mg_none_of X G z_all, PySem.W.mg_none_of X G z_any, PySem.W.mg_none_of X G z_min, PySem.W.mg_none_of X G z_max, PySem.W.mg_none_of X G z_set, PySem.W.mg_none_of X G z_dict, PySem.W.mg_none_of X G z_zip, PySem.W.mg_none_of X G z_enumerate, PySem.W.mg_none_of X G z_reversed, PySem.W.mg_none_of X G z_str, PySem.W.mg_none_of X G z_type, PySem.W.mg_none_of X G z_isinstance, PySem.W.mg_none_of X G z_bool⟩
  obtain ⟨Γ, hΓ⟩ : ∃ Γ : Gam, Γ = ⟨K, fun c => if c = "Wrong" then some CWrong else (if c = "NoName" then some CNoName else (if c = "Full" then some CFull else (if c = "NoEntry" then some CNoEntry else (if c = "There" then some CThere else (if c = "TooMany" then some CTooMany else (if c = "BadFacts" then some CBadFacts else (if c = "NoAnswer" then some CNoAnswer else (if c = "NoHouse" then some CNoHouse else (if c = "BadChange" then some CBadChange else (if c = "NoAsk" then some CNoAsk else (if c = "Broken" then some CBroken else (if c = "Hopeless" then some CHopeless else (if c = "ListError" then some CListError else (if c = "NoStep" then some CNoStep else (if c = "Late" then some CLate else (if c = "Nothing" then some CNothing else (if c = "NoDeed" then some CNoDeed else (if c = "NoText" then some CNoText else (if c = "NoCommand" then some CNoCommand else (none)))))))))))))))))))), some none⟩ := ⟨_, rfl⟩
  have hK : Γ.K = K := by rw [hΓ]
  have g_ListError : Γ.cls "ListError" = some CListError := by rw [hΓ]; rfl
  have m_ListError : mg "ListError" = some (.ref CListError) := PySem.W.mg_of X G zc_ListError
  have z_err : Γ.err = some none := by rw [hΓ]
  have g_Wrong : Γ.cls "Wrong" = some CWrong := by rw [hΓ]; rfl
  have m_Wrong : mg "Wrong" = some (.ref CWrong) := PySem.W.mg_of X G zc_Wrong
  have E_Wrong : Er.ErrTxt l.prog K mg "Wrong" "place" CWrong eFWrong := ⟨m_Wrong, ⟨_, _, _, _, _, _, _, _, _, _, _, _, _, _, _, e1_Wrong, rfl⟩, e2_Wrong, e3_Wrong, e4_Wrong, e5_Wrong, e6_Wrong, e7_Wrong, e8_Wrong, e9_Wrong, e10_Wrong, e11_Wrong, ⟨_, _, _, _, _, _, _, _, _, _, _, _, _, _, _, _, _, _, _, _, _, _, rfl, e12_Wrong, e13_Wrong, ⟨_, _, _, _, _, _, e14_Wrong, e15_Wrong, e16_Wrong⟩, ⟨_, _, _, e17_Wrong⟩⟩, e18_Wrong, PySem.W.mg_none_of X G eS1, eS2, eS3, e19_Wrong, e20_Wrong, Er.fo_place⟩
  have X_Wrong : ExcC K CWrong := ⟨e3_Wrong, e4_Wrong, e9_Wrong, e11_Wrong, e21_Wrong, o2, o3, e22_Wrong⟩
  have Q_Wrong : PySem.W.exmOne K (.ref CWrong) (.ref CListError) = some true := PySem.W.exm_ref eS4 eS5 eS6 e23_Wrong
  have g_NoName : Γ.cls "NoName" = some CNoName := by rw [hΓ]; rfl
  have m_NoName : mg "NoName" = some (.ref CNoName) := PySem.W.mg_of X G zc_NoName
  have E_NoName : Er.ErrTxt l.prog K mg "NoName" "name" CNoName eFNoName := ⟨m_NoName, ⟨_, _, _, _, _, _, _, _, _, _, _, _, _, _, _, e1_NoName, rfl⟩, e2_NoName, e3_NoName, e4_NoName, e5_NoName, e6_NoName, e7_NoName, e8_NoName, e9_NoName, e10_NoName, e11_NoName, ⟨_, _, _, _, _, _, _, _, _, _, _, _, _, _, _, _, _, _, _, _, _, _, rfl, e12_NoName, e13_NoName, ⟨_, _, _, _, _, _, e14_NoName, e15_NoName, e16_NoName⟩, ⟨_, _, _, e17_NoName⟩⟩, e18_NoName, PySem.W.mg_none_of X G eS1, eS2, eS3, e19_NoName, e20_NoName, Er.fo_name⟩
  have X_NoName : ExcC K CNoName := ⟨e3_NoName, e4_NoName, e9_NoName, e11_NoName, e21_NoName, o2, o3, e22_NoName⟩
  have Q_NoName : PySem.W.exmOne K (.ref CNoName) (.ref CListError) = some true := PySem.W.exm_ref eS4 eS5 eS6 e23_NoName
  have g_Full : Γ.cls "Full" = some CFull := by rw [hΓ]; rfl
  have m_Full : mg "Full" = some (.ref CFull) := PySem.W.mg_of X G zc_Full
  have E_Full : Er.ErrTxt l.prog K mg "Full" "limit" CFull eFFull := ⟨m_Full, ⟨_, _, _, _, _, _, _, _, _, _, _, _, _, _, _, e1_Full, rfl⟩, e2_Full, e3_Full, e4_Full, e5_Full, e6_Full, e7_Full, e8_Full, e9_Full, e10_Full, e11_Full, ⟨_, _, _, _, _, _, _, _, _, _, _, _, _, _, _, _, _, _, _, _, _, _, rfl, e12_Full, e13_Full, ⟨_, _, _, _, _, _, e14_Full, e15_Full, e16_Full⟩, ⟨_, _, _, e17_Full⟩⟩, e18_Full, PySem.W.mg_none_of X G eS1, eS2, eS3, e19_Full, e20_Full, Er.fo_limit⟩
  have X_Full : ExcC K CFull := ⟨e3_Full, e4_Full, e9_Full, e11_Full, e21_Full, o2, o3, e22_Full⟩
  have Q_Full : PySem.W.exmOne K (.ref CFull) (.ref CListError) = some true := PySem.W.exm_ref eS4 eS5 eS6 e23_Full
  have g_NoEntry : Γ.cls "NoEntry" = some CNoEntry := by rw [hΓ]; rfl
  have m_NoEntry : mg "NoEntry" = some (.ref CNoEntry) := PySem.W.mg_of X G zc_NoEntry
  have E_NoEntry : Er.ErrTxt l.prog K mg "NoEntry" "entry" CNoEntry eFNoEntry := ⟨m_NoEntry, ⟨_, _, _, _, _, _, _, _, _, _, _, _, _, _, _, e1_NoEntry, rfl⟩, e2_NoEntry, e3_NoEntry, e4_NoEntry, e5_NoEntry, e6_NoEntry, e7_NoEntry, e8_NoEntry, e9_NoEntry, e10_NoEntry, e11_NoEntry, ⟨_, _, _, _, _, _, _, _, _, _, _, _, _, _, _, _, _, _, _, _, _, _, rfl, e12_NoEntry, e13_NoEntry, ⟨_, _, _, _, _, _, e14_NoEntry, e15_NoEntry, e16_NoEntry⟩, ⟨_, _, _, e17_NoEntry⟩⟩, e18_NoEntry, PySem.W.mg_none_of X G eS1, eS2, eS3, e19_NoEntry, e20_NoEntry, Er.fo_entry⟩
  have X_NoEntry : ExcC K CNoEntry := ⟨e3_NoEntry, e4_NoEntry, e9_NoEntry, e11_NoEntry, e21_NoEntry, o2, o3, e22_NoEntry⟩
  have Q_NoEntry : PySem.W.exmOne K (.ref CNoEntry) (.ref CListError) = some true := PySem.W.exm_ref eS4 eS5 eS6 e23_NoEntry
  have g_There : Γ.cls "There" = some CThere := by rw [hΓ]; rfl
  have m_There : mg "There" = some (.ref CThere) := PySem.W.mg_of X G zc_There
  have E_There : Er.ErrTxt l.prog K mg "There" "name" CThere eFThere := ⟨m_There, ⟨_, _, _, _, _, _, _, _, _, _, _, _, _, _, _, e1_There, rfl⟩, e2_There, e3_There, e4_There, e5_There, e6_There, e7_There, e8_There, e9_There, e10_There, e11_There, ⟨_, _, _, _, _, _, _, _, _, _, _, _, _, _, _, _, _, _, _, _, _, _, rfl, e12_There, e13_There, ⟨_, _, _, _, _, _, e14_There, e15_There, e16_There⟩, ⟨_, _, _, e17_There⟩⟩, e18_There, PySem.W.mg_none_of X G eS1, eS2, eS3, e19_There, e20_There, Er.fo_name⟩
  have X_There : ExcC K CThere := ⟨e3_There, e4_There, e9_There, e11_There, e21_There, o2, o3, e22_There⟩
  have Q_There : PySem.W.exmOne K (.ref CThere) (.ref CListError) = some true := PySem.W.exm_ref eS4 eS5 eS6 e23_There
  have g_TooMany : Γ.cls "TooMany" = some CTooMany := by rw [hΓ]; rfl
  have m_TooMany : mg "TooMany" = some (.ref CTooMany) := PySem.W.mg_of X G zc_TooMany
  have E_TooMany : Er.ErrTxt l.prog K mg "TooMany" "limit" CTooMany eFTooMany := ⟨m_TooMany, ⟨_, _, _, _, _, _, _, _, _, _, _, _, _, _, _, e1_TooMany, rfl⟩, e2_TooMany, e3_TooMany, e4_TooMany, e5_TooMany, e6_TooMany, e7_TooMany, e8_TooMany, e9_TooMany, e10_TooMany, e11_TooMany, ⟨_, _, _, _, _, _, _, _, _, _, _, _, _, _, _, _, _, _, _, _, _, _, rfl, e12_TooMany, e13_TooMany, ⟨_, _, _, _, _, _, e14_TooMany, e15_TooMany, e16_TooMany⟩, ⟨_, _, _, e17_TooMany⟩⟩, e18_TooMany, PySem.W.mg_none_of X G eS1, eS2, eS3, e19_TooMany, e20_TooMany, Er.fo_limit⟩
  have X_TooMany : ExcC K CTooMany := ⟨e3_TooMany, e4_TooMany, e9_TooMany, e11_TooMany, e21_TooMany, o2, o3, e22_TooMany⟩
  have Q_TooMany : PySem.W.exmOne K (.ref CTooMany) (.ref CListError) = some true := PySem.W.exm_ref eS4 eS5 eS6 e23_TooMany
  have g_BadFacts : Γ.cls "BadFacts" = some CBadFacts := by rw [hΓ]; rfl
  have m_BadFacts : mg "BadFacts" = some (.ref CBadFacts) := PySem.W.mg_of X G zc_BadFacts
  have E_BadFacts : Er.ErrTxt l.prog K mg "BadFacts" "name" CBadFacts eFBadFacts := ⟨m_BadFacts, ⟨_, _, _, _, _, _, _, _, _, _, _, _, _, _, _, e1_BadFacts, rfl⟩, e2_BadFacts, e3_BadFacts, e4_BadFacts, e5_BadFacts, e6_BadFacts, e7_BadFacts, e8_BadFacts, e9_BadFacts, e10_BadFacts, e11_BadFacts, ⟨_, _, _, _, _, _, _, _, _, _, _, _, _, _, _, _, _, _, _, _, _, _, rfl, e12_BadFacts, e13_BadFacts, ⟨_, _, _, _, _, _, e14_BadFacts, e15_BadFacts, e16_BadFacts⟩, ⟨_, _, _, e17_BadFacts⟩⟩, e18_BadFacts, PySem.W.mg_none_of X G eS1, eS2, eS3, e19_BadFacts, e20_BadFacts, Er.fo_name⟩
  have X_BadFacts : ExcC K CBadFacts := ⟨e3_BadFacts, e4_BadFacts, e9_BadFacts, e11_BadFacts, e21_BadFacts, o2, o3, e22_BadFacts⟩
  have Q_BadFacts : PySem.W.exmOne K (.ref CBadFacts) (.ref CListError) = some true := PySem.W.exm_ref eS4 eS5 eS6 e23_BadFacts
  have g_NoAnswer : Γ.cls "NoAnswer" = some CNoAnswer := by rw [hΓ]; rfl
  have m_NoAnswer : mg "NoAnswer" = some (.ref CNoAnswer) := PySem.W.mg_of X G zc_NoAnswer
  have E_NoAnswer : Er.ErrTxt l.prog K mg "NoAnswer" "answer" CNoAnswer eFNoAnswer := ⟨m_NoAnswer, ⟨_, _, _, _, _, _, _, _, _, _, _, _, _, _, _, e1_NoAnswer, rfl⟩, e2_NoAnswer, e3_NoAnswer, e4_NoAnswer, e5_NoAnswer, e6_NoAnswer, e7_NoAnswer, e8_NoAnswer, e9_NoAnswer, e10_NoAnswer, e11_NoAnswer, ⟨_, _, _, _, _, _, _, _, _, _, _, _, _, _, _, _, _, _, _, _, _, _, rfl, e12_NoAnswer, e13_NoAnswer, ⟨_, _, _, _, _, _, e14_NoAnswer, e15_NoAnswer, e16_NoAnswer⟩, ⟨_, _, _, e17_NoAnswer⟩⟩, e18_NoAnswer, PySem.W.mg_none_of X G eS1, eS2, eS3, e19_NoAnswer, e20_NoAnswer, Er.fo_answer⟩
  have X_NoAnswer : ExcC K CNoAnswer := ⟨e3_NoAnswer, e4_NoAnswer, e9_NoAnswer, e11_NoAnswer, e21_NoAnswer, o2, o3, e22_NoAnswer⟩
  have Q_NoAnswer : PySem.W.exmOne K (.ref CNoAnswer) (.ref CListError) = some true := PySem.W.exm_ref eS4 eS5 eS6 e23_NoAnswer
  have g_NoHouse : Γ.cls "NoHouse" = some CNoHouse := by rw [hΓ]; rfl
  have m_NoHouse : mg "NoHouse" = some (.ref CNoHouse) := PySem.W.mg_of X G zc_NoHouse
  have E_NoHouse : Er.ErrTxt l.prog K mg "NoHouse" "house" CNoHouse eFNoHouse := ⟨m_NoHouse, ⟨_, _, _, _, _, _, _, _, _, _, _, _, _, _, _, e1_NoHouse, rfl⟩, e2_NoHouse, e3_NoHouse, e4_NoHouse, e5_NoHouse, e6_NoHouse, e7_NoHouse, e8_NoHouse, e9_NoHouse, e10_NoHouse, e11_NoHouse, ⟨_, _, _, _, _, _, _, _, _, _, _, _, _, _, _, _, _, _, _, _, _, _, rfl, e12_NoHouse, e13_NoHouse, ⟨_, _, _, _, _, _, e14_NoHouse, e15_NoHouse, e16_NoHouse⟩, ⟨_, _, _, e17_NoHouse⟩⟩, e18_NoHouse, PySem.W.mg_none_of X G eS1, eS2, eS3, e19_NoHouse, e20_NoHouse, Er.fo_house⟩
  have X_NoHouse : ExcC K CNoHouse := ⟨e3_NoHouse, e4_NoHouse, e9_NoHouse, e11_NoHouse, e21_NoHouse, o2, o3, e22_NoHouse⟩
  have Q_NoHouse : PySem.W.exmOne K (.ref CNoHouse) (.ref CListError) = some true := PySem.W.exm_ref eS4 eS5 eS6 e23_NoHouse
  have g_BadChange : Γ.cls "BadChange" = some CBadChange := by rw [hΓ]; rfl
  have m_BadChange : mg "BadChange" = some (.ref CBadChange) := PySem.W.mg_of X G zc_BadChange
  have E_BadChange : Er.ErrTxt l.prog K mg "BadChange" "at" CBadChange eFBadChange := ⟨m_BadChange, ⟨_, _, _, _, _, _, _, _, _, _, _, _, _, _, _, e1_BadChange, rfl⟩, e2_BadChange, e3_BadChange, e4_BadChange, e5_BadChange, e6_BadChange, e7_BadChange, e8_BadChange, e9_BadChange, e10_BadChange, e11_BadChange, ⟨_, _, _, _, _, _, _, _, _, _, _, _, _, _, _, _, _, _, _, _, _, _, rfl, e12_BadChange, e13_BadChange, ⟨_, _, _, _, _, _, e14_BadChange, e15_BadChange, e16_BadChange⟩, ⟨_, _, _, e17_BadChange⟩⟩, e18_BadChange, PySem.W.mg_none_of X G eS1, eS2, eS3, e19_BadChange, e20_BadChange, Er.fo_at⟩
  have X_BadChange : ExcC K CBadChange := ⟨e3_BadChange, e4_BadChange, e9_BadChange, e11_BadChange, e21_BadChange, o2, o3, e22_BadChange⟩
  have Q_BadChange : PySem.W.exmOne K (.ref CBadChange) (.ref CListError) = some true := PySem.W.exm_ref eS4 eS5 eS6 e23_BadChange
  have g_NoAsk : Γ.cls "NoAsk" = some CNoAsk := by rw [hΓ]; rfl
  have m_NoAsk : mg "NoAsk" = some (.ref CNoAsk) := PySem.W.mg_of X G zc_NoAsk
  have E_NoAsk : Er.ErrTxt l.prog K mg "NoAsk" "at" CNoAsk eFNoAsk := ⟨m_NoAsk, ⟨_, _, _, _, _, _, _, _, _, _, _, _, _, _, _, e1_NoAsk, rfl⟩, e2_NoAsk, e3_NoAsk, e4_NoAsk, e5_NoAsk, e6_NoAsk, e7_NoAsk, e8_NoAsk, e9_NoAsk, e10_NoAsk, e11_NoAsk, ⟨_, _, _, _, _, _, _, _, _, _, _, _, _, _, _, _, _, _, _, _, _, _, rfl, e12_NoAsk, e13_NoAsk, ⟨_, _, _, _, _, _, e14_NoAsk, e15_NoAsk, e16_NoAsk⟩, ⟨_, _, _, e17_NoAsk⟩⟩, e18_NoAsk, PySem.W.mg_none_of X G eS1, eS2, eS3, e19_NoAsk, e20_NoAsk, Er.fo_at⟩
  have X_NoAsk : ExcC K CNoAsk := ⟨e3_NoAsk, e4_NoAsk, e9_NoAsk, e11_NoAsk, e21_NoAsk, o2, o3, e22_NoAsk⟩
  have Q_NoAsk : PySem.W.exmOne K (.ref CNoAsk) (.ref CListError) = some true := PySem.W.exm_ref eS4 eS5 eS6 e23_NoAsk
  have g_Broken : Γ.cls "Broken" = some CBroken := by rw [hΓ]; rfl
  have m_Broken : mg "Broken" = some (.ref CBroken) := PySem.W.mg_of X G zc_Broken
  have E_Broken : Er.ErrTxt l.prog K mg "Broken" "at" CBroken eFBroken := ⟨m_Broken, ⟨_, _, _, _, _, _, _, _, _, _, _, _, _, _, _, e1_Broken, rfl⟩, e2_Broken, e3_Broken, e4_Broken, e5_Broken, e6_Broken, e7_Broken, e8_Broken, e9_Broken, e10_Broken, e11_Broken, ⟨_, _, _, _, _, _, _, _, _, _, _, _, _, _, _, _, _, _, _, _, _, _, rfl, e12_Broken, e13_Broken, ⟨_, _, _, _, _, _, e14_Broken, e15_Broken, e16_Broken⟩, ⟨_, _, _, e17_Broken⟩⟩, e18_Broken, PySem.W.mg_none_of X G eS1, eS2, eS3, e19_Broken, e20_Broken, Er.fo_at⟩
  have X_Broken : ExcC K CBroken := ⟨e3_Broken, e4_Broken, e9_Broken, e11_Broken, e21_Broken, o2, o3, e22_Broken⟩
  have Q_Broken : PySem.W.exmOne K (.ref CBroken) (.ref CListError) = some true := PySem.W.exm_ref eS4 eS5 eS6 e23_Broken
  have g_Hopeless : Γ.cls "Hopeless" = some CHopeless := by rw [hΓ]; rfl
  have m_Hopeless : mg "Hopeless" = some (.ref CHopeless) := PySem.W.mg_of X G zc_Hopeless
  have E_Hopeless : Er.ErrTxt3 l.prog K mg "Hopeless" CHopeless eFHopeless := ⟨m_Hopeless, ⟨_, _, _, _, _, _, _, _, _, _, _, _, _, _, _, e1_Hopeless, rfl⟩, e2_Hopeless, e3_Hopeless, e4_Hopeless, e5_Hopeless, e24_Hopeless, e25_Hopeless, e6_Hopeless, e7_Hopeless, e8_Hopeless, e9_Hopeless, e10_Hopeless, e11_Hopeless, ⟨_, _, _, _, _, _, _, _, _, _, _, _, _, _, _, rfl, e12_Hopeless, e13_Hopeless, ⟨_, _, _, _, _, _, e14_Hopeless, e15_Hopeless, e16_Hopeless⟩, ⟨_, _, _, e17_Hopeless⟩⟩, e18_Hopeless, PySem.W.mg_none_of X G eS1, eS2, eS3, e19_Hopeless, e20_Hopeless⟩
  have X_Hopeless : ExcC K CHopeless := ⟨e3_Hopeless, e4_Hopeless, e9_Hopeless, e11_Hopeless, e21_Hopeless, o2, o3, e22_Hopeless⟩
  have Q_Hopeless : PySem.W.exmOne K (.ref CHopeless) (.ref CListError) = some true := PySem.W.exm_ref eS4 eS5 eS6 e23_Hopeless
  have g_NoStep : Γ.cls "NoStep" = some CNoStep := by rw [hΓ]; rfl
  have m_NoStep : mg "NoStep" = some (.ref CNoStep) := PySem.W.mg_of X G zc_NoStep
  have g_Late : Γ.cls "Late" = some CLate := by rw [hΓ]; rfl
  have m_Late : mg "Late" = some (.ref CLate) := PySem.W.mg_of X G zc_Late
  have g_Nothing : Γ.cls "Nothing" = some CNothing := by rw [hΓ]; rfl
  have m_Nothing : mg "Nothing" = some (.ref CNothing) := PySem.W.mg_of X G zc_Nothing
  have g_NoDeed : Γ.cls "NoDeed" = some CNoDeed := by rw [hΓ]; rfl
  have m_NoDeed : mg "NoDeed" = some (.ref CNoDeed) := PySem.W.mg_of X G zc_NoDeed
  have g_NoText : Γ.cls "NoText" = some CNoText := by rw [hΓ]; rfl
  have m_NoText : mg "NoText" = some (.ref CNoText) := PySem.W.mg_of X G zc_NoText
  have g_NoCommand : Γ.cls "NoCommand" = some CNoCommand := by rw [hΓ]; rfl
  have m_NoCommand : mg "NoCommand" = some (.ref CNoCommand) := PySem.W.mg_of X G zc_NoCommand
  have X_NoStep : ExcC K CNoStep := ⟨e3_NoStep, e4_NoStep, e9_NoStep, e11_NoStep, e21_NoStep, o2, o3, e22_NoStep⟩
  have X_Late : ExcC K CLate := ⟨e3_Late, e4_Late, e9_Late, e11_Late, e21_Late, o2, o3, e22_Late⟩
  have X_Nothing : ExcC K CNothing := ⟨e3_Nothing, e4_Nothing, e9_Nothing, e11_Nothing, e21_Nothing, o2, o3, e22_Nothing⟩
  have X_NoDeed : ExcC K CNoDeed := ⟨e3_NoDeed, e4_NoDeed, e9_NoDeed, e11_NoDeed, e21_NoDeed, o2, o3, e22_NoDeed⟩
  have X_NoText : ExcC K CNoText := ⟨e3_NoText, e4_NoText, e9_NoText, e11_NoText, e21_NoText, o2, o3, e22_NoText⟩
  have X_NoCommand : ExcC K CNoCommand := ⟨e3_NoCommand, e4_NoCommand, e9_NoCommand, e11_NoCommand, e21_NoCommand, o2, o3, e22_NoCommand⟩
  have X_ListError : ExcC K CListError := ⟨e3_ListError, e4_ListError, e9_ListError, e11_ListError, e21_ListError, o2, o3, e22_ListError⟩
  have EC : Ecs l.prog K mg Γ (fun n => if n = "ListError" then CListError else (if n = "Wrong" then CWrong else (if n = "NoName" then CNoName else (if n = "Full" then CFull else (if n = "NoEntry" then CNoEntry else (if n = "There" then CThere else (if n = "TooMany" then CTooMany else (if n = "BadFacts" then CBadFacts else (if n = "NoAnswer" then CNoAnswer else (if n = "NoHouse" then CNoHouse else (if n = "BadChange" then CBadChange else (if n = "NoAsk" then CNoAsk else (if n = "Broken" then CBroken else (if n = "Hopeless" then CHopeless else (if n = "NoStep" then CNoStep else (if n = "Late" then CLate else (if n = "Nothing" then CNothing else (if n = "NoDeed" then CNoDeed else (if n = "NoText" then CNoText else (if n = "NoCommand" then CNoCommand else (0))))))))))))))))))))) (fun n => if n = "Wrong" then eFWrong else (if n = "NoName" then eFNoName else (if n = "Full" then eFFull else (if n = "NoEntry" then eFNoEntry else (if n = "There" then eFThere else (if n = "TooMany" then eFTooMany else (if n = "BadFacts" then eFBadFacts else (if n = "NoAnswer" then eFNoAnswer else (if n = "NoHouse" then eFNoHouse else (if n = "BadChange" then eFBadChange else (if n = "NoAsk" then eFNoAsk else (if n = "Broken" then eFBroken else (if n = "Hopeless" then eFHopeless else (0)))))))))))))) := by
    refine ⟨z_err, ?_, E_Hopeless, ?_, ?_, ?_, ?_⟩
    · intro p hp
      simp only [ones, List.mem_cons, List.not_mem_nil, or_false] at hp
      rcases hp with rfl | rfl | rfl | rfl | rfl | rfl | rfl | rfl | rfl | rfl | rfl | rfl
      · exact E_Wrong
      · exact E_NoName
      · exact E_Full
      · exact E_NoEntry
      · exact E_There
      · exact E_TooMany
      · exact E_BadFacts
      · exact E_NoAnswer
      · exact E_NoHouse
      · exact E_BadChange
      · exact E_NoAsk
      · exact E_Broken
    · intro n hn
      simp only [nones, List.mem_cons, List.not_mem_nil, or_false] at hn
      rcases hn with rfl | rfl | rfl | rfl | rfl | rfl | rfl
      · exact ⟨excIn_base e1_ListError ⟨_, _, rfl⟩ (nsOk_of e50_ListError e51_ListError) e52_ListError, m_ListError, e31_ListError⟩
      · exact ⟨excIn_own e1_NoStep ⟨_, _, rfl⟩ (nsOk_of e50_NoStep e51_NoStep) e52_NoStep e1_ListError (nsOk_of e50_ListError e51_ListError) e52_ListError, m_NoStep, e31_NoStep⟩
      · exact ⟨excIn_own e1_Late ⟨_, _, rfl⟩ (nsOk_of e50_Late e51_Late) e52_Late e1_ListError (nsOk_of e50_ListError e51_ListError) e52_ListError, m_Late, e31_Late⟩
      · exact ⟨excIn_own e1_Nothing ⟨_, _, rfl⟩ (nsOk_of e50_Nothing e51_Nothing) e52_Nothing e1_ListError (nsOk_of e50_ListError e51_ListError) e52_ListError, m_Nothing, e31_Nothing⟩
      · exact ⟨excIn_own e1_NoDeed ⟨_, _, rfl⟩ (nsOk_of e50_NoDeed e51_NoDeed) e52_NoDeed e1_ListError (nsOk_of e50_ListError e51_ListError) e52_ListError, m_NoDeed, e31_NoDeed⟩
      · exact ⟨excIn_own e1_NoText ⟨_, _, rfl⟩ (nsOk_of e50_NoText e51_NoText) e52_NoText e1_ListError (nsOk_of e50_ListError e51_ListError) e52_ListError, m_NoText, e31_NoText⟩
      · exact ⟨excIn_own e1_NoCommand ⟨_, _, rfl⟩ (nsOk_of e50_NoCommand e51_NoCommand) e52_NoCommand e1_ListError (nsOk_of e50_ListError e51_ListError) e52_ListError, m_NoCommand, e31_NoCommand⟩
    · intro n hn
      simp only [errNs, List.mem_cons, List.not_mem_nil, or_false] at hn
      rcases hn with rfl | rfl | rfl | rfl | rfl | rfl | rfl | rfl | rfl | rfl | rfl | rfl | rfl | rfl | rfl | rfl | rfl | rfl | rfl | rfl
      · exact ⟨g_ListError, m_ListError, X_ListError⟩
      · exact ⟨g_Wrong, m_Wrong, X_Wrong⟩
      · exact ⟨g_NoName, m_NoName, X_NoName⟩
      · exact ⟨g_Full, m_Full, X_Full⟩
      · exact ⟨g_NoEntry, m_NoEntry, X_NoEntry⟩
      · exact ⟨g_There, m_There, X_There⟩
      · exact ⟨g_TooMany, m_TooMany, X_TooMany⟩
      · exact ⟨g_BadFacts, m_BadFacts, X_BadFacts⟩
      · exact ⟨g_NoAnswer, m_NoAnswer, X_NoAnswer⟩
      · exact ⟨g_NoHouse, m_NoHouse, X_NoHouse⟩
      · exact ⟨g_BadChange, m_BadChange, X_BadChange⟩
      · exact ⟨g_NoAsk, m_NoAsk, X_NoAsk⟩
      · exact ⟨g_Broken, m_Broken, X_Broken⟩
      · exact ⟨g_Hopeless, m_Hopeless, X_Hopeless⟩
      · exact ⟨g_NoStep, m_NoStep, X_NoStep⟩
      · exact ⟨g_Late, m_Late, X_Late⟩
      · exact ⟨g_Nothing, m_Nothing, X_Nothing⟩
      · exact ⟨g_NoDeed, m_NoDeed, X_NoDeed⟩
      · exact ⟨g_NoText, m_NoText, X_NoText⟩
      · exact ⟨g_NoCommand, m_NoCommand, X_NoCommand⟩
    · intro n hn m hm
      simp only [errNs, List.mem_cons, List.not_mem_nil, or_false] at hn hm
      rcases hn with rfl | rfl | rfl | rfl | rfl | rfl | rfl | rfl | rfl | rfl | rfl | rfl | rfl | rfl | rfl | rfl | rfl | rfl | rfl | rfl
      · rcases hm with rfl | rfl | rfl | rfl | rfl | rfl | rfl | rfl | rfl | rfl | rfl | rfl | rfl | rfl | rfl | rfl | rfl | rfl | rfl
        · exact e40_ListError_Wrong
        · exact e40_ListError_NoName
        · exact e40_ListError_Full
        · exact e40_ListError_NoEntry
        · exact e40_ListError_There
        · exact e40_ListError_TooMany
        · exact e40_ListError_BadFacts
        · exact e40_ListError_NoAnswer
        · exact e40_ListError_NoHouse
        · exact e40_ListError_BadChange
        · exact e40_ListError_NoAsk
        · exact e40_ListError_Broken
        · exact e40_ListError_Hopeless
        · exact e40_ListError_NoStep
        · exact e40_ListError_Late
        · exact e40_ListError_Nothing
        · exact e40_ListError_NoDeed
        · exact e40_ListError_NoText
        · exact e40_ListError_NoCommand
      · rcases hm with rfl | rfl | rfl | rfl | rfl | rfl | rfl | rfl | rfl | rfl | rfl | rfl | rfl | rfl | rfl | rfl | rfl | rfl | rfl
        · exact kit_self _ _
        · exact e40_Wrong_NoName
        · exact e40_Wrong_Full
        · exact e40_Wrong_NoEntry
        · exact e40_Wrong_There
        · exact e40_Wrong_TooMany
        · exact e40_Wrong_BadFacts
        · exact e40_Wrong_NoAnswer
        · exact e40_Wrong_NoHouse
        · exact e40_Wrong_BadChange
        · exact e40_Wrong_NoAsk
        · exact e40_Wrong_Broken
        · exact e40_Wrong_Hopeless
        · exact e40_Wrong_NoStep
        · exact e40_Wrong_Late
        · exact e40_Wrong_Nothing
        · exact e40_Wrong_NoDeed
        · exact e40_Wrong_NoText
        · exact e40_Wrong_NoCommand
      · rcases hm with rfl | rfl | rfl | rfl | rfl | rfl | rfl | rfl | rfl | rfl | rfl | rfl | rfl | rfl | rfl | rfl | rfl | rfl | rfl
        · exact e40_NoName_Wrong
        · exact kit_self _ _
        · exact e40_NoName_Full
        · exact e40_NoName_NoEntry
        · exact e40_NoName_There
        · exact e40_NoName_TooMany
        · exact e40_NoName_BadFacts
        · exact e40_NoName_NoAnswer
        · exact e40_NoName_NoHouse
        · exact e40_NoName_BadChange
        · exact e40_NoName_NoAsk
        · exact e40_NoName_Broken
        · exact e40_NoName_Hopeless
        · exact e40_NoName_NoStep
        · exact e40_NoName_Late
        · exact e40_NoName_Nothing
        · exact e40_NoName_NoDeed
        · exact e40_NoName_NoText
        · exact e40_NoName_NoCommand
      · rcases hm with rfl | rfl | rfl | rfl | rfl | rfl | rfl | rfl | rfl | rfl | rfl | rfl | rfl | rfl | rfl | rfl | rfl | rfl | rfl
        · exact e40_Full_Wrong
        · exact e40_Full_NoName
        · exact kit_self _ _
        · exact e40_Full_NoEntry
        · exact e40_Full_There
        · exact e40_Full_TooMany
        · exact e40_Full_BadFacts
        · exact e40_Full_NoAnswer
        · exact e40_Full_NoHouse
        · exact e40_Full_BadChange
        · exact e40_Full_NoAsk
        · exact e40_Full_Broken
        · exact e40_Full_Hopeless
        · exact e40_Full_NoStep
        · exact e40_Full_Late
        · exact e40_Full_Nothing
        · exact e40_Full_NoDeed
        · exact e40_Full_NoText
        · exact e40_Full_NoCommand
      · rcases hm with rfl | rfl | rfl | rfl | rfl | rfl | rfl | rfl | rfl | rfl | rfl | rfl | rfl | rfl | rfl | rfl | rfl | rfl | rfl
        · exact e40_NoEntry_Wrong
        · exact e40_NoEntry_NoName
        · exact e40_NoEntry_Full
        · exact kit_self _ _
        · exact e40_NoEntry_There
        · exact e40_NoEntry_TooMany
        · exact e40_NoEntry_BadFacts
        · exact e40_NoEntry_NoAnswer
        · exact e40_NoEntry_NoHouse
        · exact e40_NoEntry_BadChange
        · exact e40_NoEntry_NoAsk
        · exact e40_NoEntry_Broken
        · exact e40_NoEntry_Hopeless
        · exact e40_NoEntry_NoStep
        · exact e40_NoEntry_Late
        · exact e40_NoEntry_Nothing
        · exact e40_NoEntry_NoDeed
        · exact e40_NoEntry_NoText
        · exact e40_NoEntry_NoCommand
      · rcases hm with rfl | rfl | rfl | rfl | rfl | rfl | rfl | rfl | rfl | rfl | rfl | rfl | rfl | rfl | rfl | rfl | rfl | rfl | rfl
        · exact e40_There_Wrong
        · exact e40_There_NoName
        · exact e40_There_Full
        · exact e40_There_NoEntry
        · exact kit_self _ _
        · exact e40_There_TooMany
        · exact e40_There_BadFacts
        · exact e40_There_NoAnswer
        · exact e40_There_NoHouse
        · exact e40_There_BadChange
        · exact e40_There_NoAsk
        · exact e40_There_Broken
        · exact e40_There_Hopeless
        · exact e40_There_NoStep
        · exact e40_There_Late
        · exact e40_There_Nothing
        · exact e40_There_NoDeed
        · exact e40_There_NoText
        · exact e40_There_NoCommand
      · rcases hm with rfl | rfl | rfl | rfl | rfl | rfl | rfl | rfl | rfl | rfl | rfl | rfl | rfl | rfl | rfl | rfl | rfl | rfl | rfl
        · exact e40_TooMany_Wrong
        · exact e40_TooMany_NoName
        · exact e40_TooMany_Full
        · exact e40_TooMany_NoEntry
        · exact e40_TooMany_There
        · exact kit_self _ _
        · exact e40_TooMany_BadFacts
        · exact e40_TooMany_NoAnswer
        · exact e40_TooMany_NoHouse
        · exact e40_TooMany_BadChange
        · exact e40_TooMany_NoAsk
        · exact e40_TooMany_Broken
        · exact e40_TooMany_Hopeless
        · exact e40_TooMany_NoStep
        · exact e40_TooMany_Late
        · exact e40_TooMany_Nothing
        · exact e40_TooMany_NoDeed
        · exact e40_TooMany_NoText
        · exact e40_TooMany_NoCommand
      · rcases hm with rfl | rfl | rfl | rfl | rfl | rfl | rfl | rfl | rfl | rfl | rfl | rfl | rfl | rfl | rfl | rfl | rfl | rfl | rfl
        · exact e40_BadFacts_Wrong
        · exact e40_BadFacts_NoName
        · exact e40_BadFacts_Full
        · exact e40_BadFacts_NoEntry
        · exact e40_BadFacts_There
        · exact e40_BadFacts_TooMany
        · exact kit_self _ _
        · exact e40_BadFacts_NoAnswer
        · exact e40_BadFacts_NoHouse
        · exact e40_BadFacts_BadChange
        · exact e40_BadFacts_NoAsk
        · exact e40_BadFacts_Broken
        · exact e40_BadFacts_Hopeless
        · exact e40_BadFacts_NoStep
        · exact e40_BadFacts_Late
        · exact e40_BadFacts_Nothing
        · exact e40_BadFacts_NoDeed
        · exact e40_BadFacts_NoText
        · exact e40_BadFacts_NoCommand
      · rcases hm with rfl | rfl | rfl | rfl | rfl | rfl | rfl | rfl | rfl | rfl | rfl | rfl | rfl | rfl | rfl | rfl | rfl | rfl | rfl
        · exact e40_NoAnswer_Wrong
        · exact e40_NoAnswer_NoName
        · exact e40_NoAnswer_Full
        · exact e40_NoAnswer_NoEntry
        · exact e40_NoAnswer_There
        · exact e40_NoAnswer_TooMany
        · exact e40_NoAnswer_BadFacts
        · exact kit_self _ _
        · exact e40_NoAnswer_NoHouse
        · exact e40_NoAnswer_BadChange
        · exact e40_NoAnswer_NoAsk
        · exact e40_NoAnswer_Broken
        · exact e40_NoAnswer_Hopeless
        · exact e40_NoAnswer_NoStep
        · exact e40_NoAnswer_Late
        · exact e40_NoAnswer_Nothing
        · exact e40_NoAnswer_NoDeed
        · exact e40_NoAnswer_NoText
        · exact e40_NoAnswer_NoCommand
      · rcases hm with rfl | rfl | rfl | rfl | rfl | rfl | rfl | rfl | rfl | rfl | rfl | rfl | rfl | rfl | rfl | rfl | rfl | rfl | rfl
        · exact e40_NoHouse_Wrong
        · exact e40_NoHouse_NoName
        · exact e40_NoHouse_Full
        · exact e40_NoHouse_NoEntry
        · exact e40_NoHouse_There
        · exact e40_NoHouse_TooMany
        · exact e40_NoHouse_BadFacts
        · exact e40_NoHouse_NoAnswer
        · exact kit_self _ _
        · exact e40_NoHouse_BadChange
        · exact e40_NoHouse_NoAsk
        · exact e40_NoHouse_Broken
        · exact e40_NoHouse_Hopeless
        · exact e40_NoHouse_NoStep
        · exact e40_NoHouse_Late
        · exact e40_NoHouse_Nothing
        · exact e40_NoHouse_NoDeed
        · exact e40_NoHouse_NoText
        · exact e40_NoHouse_NoCommand
      · rcases hm with rfl | rfl | rfl | rfl | rfl | rfl | rfl | rfl | rfl | rfl | rfl | rfl | rfl | rfl | rfl | rfl | rfl | rfl | rfl
        · exact e40_BadChange_Wrong
        · exact e40_BadChange_NoName
        · exact e40_BadChange_Full
        · exact e40_BadChange_NoEntry
        · exact e40_BadChange_There
        · exact e40_BadChange_TooMany
        · exact e40_BadChange_BadFacts
        · exact e40_BadChange_NoAnswer
        · exact e40_BadChange_NoHouse
        · exact kit_self _ _
        · exact e40_BadChange_NoAsk
        · exact e40_BadChange_Broken
        · exact e40_BadChange_Hopeless
        · exact e40_BadChange_NoStep
        · exact e40_BadChange_Late
        · exact e40_BadChange_Nothing
        · exact e40_BadChange_NoDeed
        · exact e40_BadChange_NoText
        · exact e40_BadChange_NoCommand
      · rcases hm with rfl | rfl | rfl | rfl | rfl | rfl | rfl | rfl | rfl | rfl | rfl | rfl | rfl | rfl | rfl | rfl | rfl | rfl | rfl
        · exact e40_NoAsk_Wrong
        · exact e40_NoAsk_NoName
        · exact e40_NoAsk_Full
        · exact e40_NoAsk_NoEntry
        · exact e40_NoAsk_There
        · exact e40_NoAsk_TooMany
        · exact e40_NoAsk_BadFacts
        · exact e40_NoAsk_NoAnswer
        · exact e40_NoAsk_NoHouse
        · exact e40_NoAsk_BadChange
        · exact kit_self _ _
        · exact e40_NoAsk_Broken
        · exact e40_NoAsk_Hopeless
        · exact e40_NoAsk_NoStep
        · exact e40_NoAsk_Late
        · exact e40_NoAsk_Nothing
        · exact e40_NoAsk_NoDeed
        · exact e40_NoAsk_NoText
        · exact e40_NoAsk_NoCommand
      · rcases hm with rfl | rfl | rfl | rfl | rfl | rfl | rfl | rfl | rfl | rfl | rfl | rfl | rfl | rfl | rfl | rfl | rfl | rfl | rfl
        · exact e40_Broken_Wrong
        · exact e40_Broken_NoName
        · exact e40_Broken_Full
        · exact e40_Broken_NoEntry
        · exact e40_Broken_There
        · exact e40_Broken_TooMany
        · exact e40_Broken_BadFacts
        · exact e40_Broken_NoAnswer
        · exact e40_Broken_NoHouse
        · exact e40_Broken_BadChange
        · exact e40_Broken_NoAsk
        · exact kit_self _ _
        · exact e40_Broken_Hopeless
        · exact e40_Broken_NoStep
        · exact e40_Broken_Late
        · exact e40_Broken_Nothing
        · exact e40_Broken_NoDeed
        · exact e40_Broken_NoText
        · exact e40_Broken_NoCommand
      · rcases hm with rfl | rfl | rfl | rfl | rfl | rfl | rfl | rfl | rfl | rfl | rfl | rfl | rfl | rfl | rfl | rfl | rfl | rfl | rfl
        · exact e40_Hopeless_Wrong
        · exact e40_Hopeless_NoName
        · exact e40_Hopeless_Full
        · exact e40_Hopeless_NoEntry
        · exact e40_Hopeless_There
        · exact e40_Hopeless_TooMany
        · exact e40_Hopeless_BadFacts
        · exact e40_Hopeless_NoAnswer
        · exact e40_Hopeless_NoHouse
        · exact e40_Hopeless_BadChange
        · exact e40_Hopeless_NoAsk
        · exact e40_Hopeless_Broken
        · exact kit_self _ _
        · exact e40_Hopeless_NoStep
        · exact e40_Hopeless_Late
        · exact e40_Hopeless_Nothing
        · exact e40_Hopeless_NoDeed
        · exact e40_Hopeless_NoText
        · exact e40_Hopeless_NoCommand
      · rcases hm with rfl | rfl | rfl | rfl | rfl | rfl | rfl | rfl | rfl | rfl | rfl | rfl | rfl | rfl | rfl | rfl | rfl | rfl | rfl
        · exact e40_NoStep_Wrong
        · exact e40_NoStep_NoName
        · exact e40_NoStep_Full
        · exact e40_NoStep_NoEntry
        · exact e40_NoStep_There
        · exact e40_NoStep_TooMany
        · exact e40_NoStep_BadFacts
        · exact e40_NoStep_NoAnswer
        · exact e40_NoStep_NoHouse
        · exact e40_NoStep_BadChange
        · exact e40_NoStep_NoAsk
        · exact e40_NoStep_Broken
        · exact e40_NoStep_Hopeless
        · exact kit_self _ _
        · exact e40_NoStep_Late
        · exact e40_NoStep_Nothing
        · exact e40_NoStep_NoDeed
        · exact e40_NoStep_NoText
        · exact e40_NoStep_NoCommand
      · rcases hm with rfl | rfl | rfl | rfl | rfl | rfl | rfl | rfl | rfl | rfl | rfl | rfl | rfl | rfl | rfl | rfl | rfl | rfl | rfl
        · exact e40_Late_Wrong
        · exact e40_Late_NoName
        · exact e40_Late_Full
        · exact e40_Late_NoEntry
        · exact e40_Late_There
        · exact e40_Late_TooMany
        · exact e40_Late_BadFacts
        · exact e40_Late_NoAnswer
        · exact e40_Late_NoHouse
        · exact e40_Late_BadChange
        · exact e40_Late_NoAsk
        · exact e40_Late_Broken
        · exact e40_Late_Hopeless
        · exact e40_Late_NoStep
        · exact kit_self _ _
        · exact e40_Late_Nothing
        · exact e40_Late_NoDeed
        · exact e40_Late_NoText
        · exact e40_Late_NoCommand
      · rcases hm with rfl | rfl | rfl | rfl | rfl | rfl | rfl | rfl | rfl | rfl | rfl | rfl | rfl | rfl | rfl | rfl | rfl | rfl | rfl
        · exact e40_Nothing_Wrong
        · exact e40_Nothing_NoName
        · exact e40_Nothing_Full
        · exact e40_Nothing_NoEntry
        · exact e40_Nothing_There
        · exact e40_Nothing_TooMany
        · exact e40_Nothing_BadFacts
        · exact e40_Nothing_NoAnswer
        · exact e40_Nothing_NoHouse
        · exact e40_Nothing_BadChange
        · exact e40_Nothing_NoAsk
        · exact e40_Nothing_Broken
        · exact e40_Nothing_Hopeless
        · exact e40_Nothing_NoStep
        · exact e40_Nothing_Late
        · exact kit_self _ _
        · exact e40_Nothing_NoDeed
        · exact e40_Nothing_NoText
        · exact e40_Nothing_NoCommand
      · rcases hm with rfl | rfl | rfl | rfl | rfl | rfl | rfl | rfl | rfl | rfl | rfl | rfl | rfl | rfl | rfl | rfl | rfl | rfl | rfl
        · exact e40_NoDeed_Wrong
        · exact e40_NoDeed_NoName
        · exact e40_NoDeed_Full
        · exact e40_NoDeed_NoEntry
        · exact e40_NoDeed_There
        · exact e40_NoDeed_TooMany
        · exact e40_NoDeed_BadFacts
        · exact e40_NoDeed_NoAnswer
        · exact e40_NoDeed_NoHouse
        · exact e40_NoDeed_BadChange
        · exact e40_NoDeed_NoAsk
        · exact e40_NoDeed_Broken
        · exact e40_NoDeed_Hopeless
        · exact e40_NoDeed_NoStep
        · exact e40_NoDeed_Late
        · exact e40_NoDeed_Nothing
        · exact kit_self _ _
        · exact e40_NoDeed_NoText
        · exact e40_NoDeed_NoCommand
      · rcases hm with rfl | rfl | rfl | rfl | rfl | rfl | rfl | rfl | rfl | rfl | rfl | rfl | rfl | rfl | rfl | rfl | rfl | rfl | rfl
        · exact e40_NoText_Wrong
        · exact e40_NoText_NoName
        · exact e40_NoText_Full
        · exact e40_NoText_NoEntry
        · exact e40_NoText_There
        · exact e40_NoText_TooMany
        · exact e40_NoText_BadFacts
        · exact e40_NoText_NoAnswer
        · exact e40_NoText_NoHouse
        · exact e40_NoText_BadChange
        · exact e40_NoText_NoAsk
        · exact e40_NoText_Broken
        · exact e40_NoText_Hopeless
        · exact e40_NoText_NoStep
        · exact e40_NoText_Late
        · exact e40_NoText_Nothing
        · exact e40_NoText_NoDeed
        · exact kit_self _ _
        · exact e40_NoText_NoCommand
      · rcases hm with rfl | rfl | rfl | rfl | rfl | rfl | rfl | rfl | rfl | rfl | rfl | rfl | rfl | rfl | rfl | rfl | rfl | rfl | rfl
        · exact e40_NoCommand_Wrong
        · exact e40_NoCommand_NoName
        · exact e40_NoCommand_Full
        · exact e40_NoCommand_NoEntry
        · exact e40_NoCommand_There
        · exact e40_NoCommand_TooMany
        · exact e40_NoCommand_BadFacts
        · exact e40_NoCommand_NoAnswer
        · exact e40_NoCommand_NoHouse
        · exact e40_NoCommand_BadChange
        · exact e40_NoCommand_NoAsk
        · exact e40_NoCommand_Broken
        · exact e40_NoCommand_Hopeless
        · exact e40_NoCommand_NoStep
        · exact e40_NoCommand_Late
        · exact e40_NoCommand_Nothing
        · exact e40_NoCommand_NoDeed
        · exact e40_NoCommand_NoText
        · exact kit_self _ _
    · intro n hn
      simp only [errNs, List.mem_cons, List.not_mem_nil, or_false] at hn
      rcases hn with rfl | rfl | rfl | rfl | rfl | rfl | rfl | rfl | rfl | rfl | rfl | rfl | rfl | rfl | rfl | rfl | rfl | rfl | rfl
      · exact ⟨e41_Wrong, e42_Wrong⟩
      · exact ⟨e41_NoName, e42_NoName⟩
      · exact ⟨e41_Full, e42_Full⟩
      · exact ⟨e41_NoEntry, e42_NoEntry⟩
      · exact ⟨e41_There, e42_There⟩
      · exact ⟨e41_TooMany, e42_TooMany⟩
      · exact ⟨e41_BadFacts, e42_BadFacts⟩
      · exact ⟨e41_NoAnswer, e42_NoAnswer⟩
      · exact ⟨e41_NoHouse, e42_NoHouse⟩
      · exact ⟨e41_BadChange, e42_BadChange⟩
      · exact ⟨e41_NoAsk, e42_NoAsk⟩
      · exact ⟨e41_Broken, e42_Broken⟩
      · exact ⟨e41_Hopeless, e42_Hopeless⟩
      · exact ⟨e41_NoStep, e42_NoStep⟩
      · exact ⟨e41_Late, e42_Late⟩
      · exact ⟨e41_Nothing, e42_Nothing⟩
      · exact ⟨e41_NoDeed, e42_NoDeed⟩
      · exact ⟨e41_NoText, e42_NoText⟩
      · exact ⟨e41_NoCommand, e42_NoCommand⟩
  refine ⟨PySem.W.fnOf "law" "law" (defArgs sLaw) (defBody sLaw) (defScope sLaw) .none kV7 dc7 pm7 an7 cd7 ct7, fun s v => .of_eq rfl, fun base _ _ => ?_⟩
  have S__law_take : Fn l.prog w K mg base Γ 1 "_law_take" CTake := ⟨_, _, _, ok_take hK F1 B , PySem.W.mg_of X G a1, k1, b1⟩
  have S__law_alike : Fn l.prog w K mg base Γ 1 "_law_alike" CAlikeS := ⟨_, _, _, ok_alikeS hK F2 B , PySem.W.mg_of X G a2, k2, b2⟩
  have S__law_errors : Fn l.prog w K mg base Γ 1 "_law_errors" CErrs := ⟨_, _, _, ok_lerrors hK F3 B EC, PySem.W.mg_of X G a3, k3, b3⟩
  have S__law_flags : Fn l.prog w K mg base Γ 1 "_law_flags" CFlags := ⟨_, _, _, ok_lflags hK F4 B EC, PySem.W.mg_of X G a4, k4, b4⟩
  have S__law_fields : Fn l.prog w K mg base Γ 1 "_law_fields" CFields := ⟨_, _, _, ok_lfields hK F5 B EC, PySem.W.mg_of X G a5, k5, b5⟩
  have S__law_value : Fn l.prog w K mg base Γ 3 "_law_value" CValue := ⟨_, _, _, ok_lvalue hK F6 B S__law_take (by decide), PySem.W.mg_of X G a6, k6, b6⟩
  exact ok_law hK F7 B (ok_bag (k := 0) F0 B) (by decide) (PySem.W.mg_of X G a0) k0 b0 S__law_value (by decide) S__law_errors (by decide) S__law_flags (by decide) S__law_fields (by decide) S__law_alike (by decide) EC (PySem.W.mg_none_of X G z_ValueError)
end Lm

open PySem PySem.W PyProof.Rows
set_option maxRecDepth 100000 in
set_option maxHeartbeats 0 in
theorem PySem.Challenge.cw_listnames_k12_errors_apart_holds : PySem.Challenge.rw_listnames_k12_errors_apart.Holds := by
  w_on; o_law; k_head; (case hw => w_witness2)
  k_fill
  refine Gd.walk_ofG (l := PySem.Challenge.rw_listnames_k12_errors_apart) (n := 63) (k := 5) (x := "_law_script") (CX := fun w => L2.CX PySem.Challenge.rw_listnames_k12_errors_apart.prog w) (sp := fun w => Lm.spLaw _) rfl (by decide) rfl ⟨rfl, by decide, by decide⟩ (fun w h Y => PySem.W.kIn_of Y) ?F (fun _ _ a ns hl _ hS => ⟨a, ns, rfl, hS, hl, fun _ => rfl⟩) (fun _ _ _ _ _ h => Lm.cx_no h)
  case F =>
    intro w mg fa h KX G hmg
    refine' Lm.all_mk KX G hmg ?a0 ?l0 ?c0 ?k0 ?a1 ?l1 ?c1 ?k1 ?a2 ?l2 ?c2 ?k2 ?a3 ?l3 ?c3 ?k3 ?a4 ?l4 ?c4 ?k4 ?a5 ?l5 ?c5 ?k5 ?a6 ?l6 ?c6 ?k6 ?a7 ?l7 ?c7 ?k7 ?e1_Wrong ?e2_Wrong ?e3_Wrong ?e4_Wrong ?e5_Wrong ?e6_Wrong ?e7_Wrong ?e8_Wrong ?e9_Wrong ?e10_Wrong ?e11_Wrong ?e12_Wrong ?e13_Wrong ?e14_Wrong ?e15_Wrong ?e16_Wrong ?e17_Wrong ?e18_Wrong ?e19_Wrong ?e20_Wrong ?e21_Wrong ?e22_Wrong ?e23_Wrong ?e1_NoName ?e2_NoName ?e3_NoName ?e4_NoName ?e5_NoName ?e6_NoName ?e7_NoName ?e8_NoName ?e9_NoName ?e10_NoName ?e11_NoName ?e12_NoName ?e13_NoName ?e14_NoName ?e15_NoName ?e16_NoName ?e17_NoName ?e18_NoName ?e19_NoName ?e20_NoName ?e21_NoName ?e22_NoName ?e23_NoName ?e1_Full ?e2_Full ?e3_Full ?e4_Full ?e5_Full ?e6_Full ?e7_Full ?e8_Full ?e9_Full ?e10_Full ?e11_Full ?e12_Full ?e13_Full ?e14_Full ?e15_Full ?e16_Full ?e17_Full ?e18_Full ?e19_Full ?e20_Full ?e21_Full ?e22_Full ?e23_Full ?e1_NoEntry ?e2_NoEntry ?e3_NoEntry ?e4_NoEntry ?e5_NoEntry ?e6_NoEntry ?e7_NoEntry ?e8_NoEntry ?e9_NoEntry ?e10_NoEntry ?e11_NoEntry ?e12_NoEntry ?e13_NoEntry ?e14_NoEntry ?e15_NoEntry ?e16_NoEntry ?e17_NoEntry ?e18_NoEntry ?e19_NoEntry ?e20_NoEntry ?e21_NoEntry ?e22_NoEntry ?e23_NoEntry ?e1_There ?e2_There ?e3_There ?e4_There ?e5_There ?e6_There ?e7_There ?e8_There ?e9_There ?e10_There ?e11_There ?e12_There ?e13_There ?e14_There ?e15_There ?e16_There ?e17_There ?e18_There ?e19_There ?e20_There ?e21_There ?e22_There ?e23_There ?e1_TooMany ?e2_TooMany ?e3_TooMany ?e4_TooMany ?e5_TooMany ?e6_TooMany ?e7_TooMany ?e8_TooMany ?e9_TooMany ?e10_TooMany ?e11_TooMany ?e12_TooMany ?e13_TooMany ?e14_TooMany ?e15_TooMany ?e16_TooMany ?e17_TooMany ?e18_TooMany ?e19_TooMany ?e20_TooMany ?e21_TooMany ?e22_TooMany ?e23_TooMany ?e1_BadFacts ?e2_BadFacts ?e3_BadFacts ?e4_BadFacts ?e5_BadFacts ?e6_BadFacts ?e7_BadFacts ?e8_BadFacts ?e9_BadFacts ?e10_BadFacts ?e11_BadFacts ?e12_BadFacts ?e13_BadFacts ?e14_BadFacts ?e15_BadFacts ?e16_BadFacts ?e17_BadFacts ?e18_BadFacts ?e19_BadFacts ?e20_BadFacts ?e21_BadFacts ?e22_BadFacts ?e23_BadFacts ?e1_NoAnswer ?e2_NoAnswer ?e3_NoAnswer ?e4_NoAnswer ?e5_NoAnswer ?e6_NoAnswer ?e7_NoAnswer ?e8_NoAnswer ?e9_NoAnswer ?e10_NoAnswer ?e11_NoAnswer ?e12_NoAnswer ?e13_NoAnswer ?e14_NoAnswer ?e15_NoAnswer ?e16_NoAnswer ?e17_NoAnswer ?e18_NoAnswer ?e19_NoAnswer ?e20_NoAnswer ?e21_NoAnswer ?e22_NoAnswer ?e23_NoAnswer ?e1_NoHouse ?e2_NoHouse ?e3_NoHouse ?e4_NoHouse ?e5_NoHouse ?e6_NoHouse ?e7_NoHouse ?e8_NoHouse ?e9_NoHouse ?e10_NoHouse ?e11_NoHouse ?e12_NoHouse ?e13_NoHouse ?e14_NoHouse ?e15_NoHouse ?e16_NoHouse ?e17_NoHouse ?e18_NoHouse ?e19_NoHouse ?e20_NoHouse ?e21_NoHouse ?e22_NoHouse ?e23_NoHouse ?e1_BadChange ?e2_BadChange ?e3_BadChange ?e4_BadChange ?e5_BadChange ?e6_BadChange ?e7_BadChange ?e8_BadChange ?e9_BadChange ?e10_BadChange ?e11_BadChange ?e12_BadChange ?e13_BadChange ?e14_BadChange ?e15_BadChange ?e16_BadChange ?e17_BadChange ?e18_BadChange ?e19_BadChange ?e20_BadChange ?e21_BadChange ?e22_BadChange ?e23_BadChange ?e1_NoAsk ?e2_NoAsk ?e3_NoAsk ?e4_NoAsk ?e5_NoAsk ?e6_NoAsk ?e7_NoAsk ?e8_NoAsk ?e9_NoAsk ?e10_NoAsk ?e11_NoAsk ?e12_NoAsk ?e13_NoAsk ?e14_NoAsk ?e15_NoAsk ?e16_NoAsk ?e17_NoAsk ?e18_NoAsk ?e19_NoAsk ?e20_NoAsk ?e21_NoAsk ?e22_NoAsk ?e23_NoAsk ?e1_Broken ?e2_Broken ?e3_Broken ?e4_Broken ?e5_Broken ?e6_Broken ?e7_Broken ?e8_Broken ?e9_Broken ?e10_Broken ?e11_Broken ?e12_Broken ?e13_Broken ?e14_Broken ?e15_Broken ?e16_Broken ?e17_Broken ?e18_Broken ?e19_Broken ?e20_Broken ?e21_Broken ?e22_Broken ?e23_Broken ?e1_Hopeless ?e2_Hopeless ?e3_Hopeless ?e4_Hopeless ?e5_Hopeless ?e24_Hopeless ?e25_Hopeless ?e6_Hopeless ?e7_Hopeless ?e8_Hopeless ?e9_Hopeless ?e10_Hopeless ?e11_Hopeless ?e12_Hopeless ?e13_Hopeless ?e14_Hopeless ?e15_Hopeless ?e16_Hopeless ?e17_Hopeless ?e18_Hopeless ?e19_Hopeless ?e20_Hopeless ?e21_Hopeless ?e22_Hopeless ?e23_Hopeless ?eS1 ?eS2 ?eS3 ?eS4 ?eS5 ?eS6 ?z_len ?z_int ?z_abs ?z_tuple ?z_list ?z_repr ?z_range ?z_sorted ?z_sum ?z_all ?z_any ?z_min ?z_max ?z_set ?z_dict ?z_zip ?z_enumerate ?z_reversed ?z_str ?z_type ?z_isinstance ?z_bool ?zc_ListError ?zc_Wrong ?zc_NoName ?zc_Full ?zc_NoEntry ?zc_There ?zc_TooMany ?zc_BadFacts ?zc_NoAnswer ?zc_NoHouse ?zc_BadChange ?zc_NoAsk ?zc_Broken ?zc_Hopeless ?o2 ?o3 ?zc_NoStep ?zc_Late ?zc_Nothing ?zc_NoDeed ?zc_NoText ?zc_NoCommand ?e3_NoStep ?e4_NoStep ?e9_NoStep ?e11_NoStep ?e21_NoStep ?e22_NoStep ?e1_NoStep ?e50_NoStep ?e51_NoStep ?e52_NoStep ?e31_NoStep ?e3_Late ?e4_Late ?e9_Late ?e11_Late ?e21_Late ?e22_Late ?e1_Late ?e50_Late ?e51_Late ?e52_Late ?e31_Late ?e3_Nothing ?e4_Nothing ?e9_Nothing ?e11_Nothing ?e21_Nothing ?e22_Nothing ?e1_Nothing ?e50_Nothing ?e51_Nothing ?e52_Nothing ?e31_Nothing ?e3_NoDeed ?e4_NoDeed ?e9_NoDeed ?e11_NoDeed ?e21_NoDeed ?e22_NoDeed ?e1_NoDeed ?e50_NoDeed ?e51_NoDeed ?e52_NoDeed ?e31_NoDeed ?e3_NoText ?e4_NoText ?e9_NoText ?e11_NoText ?e21_NoText ?e22_NoText ?e1_NoText ?e50_NoText ?e51_NoText ?e52_NoText ?e31_NoText ?e3_NoCommand ?e4_NoCommand ?e9_NoCommand ?e11_NoCommand ?e21_NoCommand ?e22_NoCommand ?e1_NoCommand ?e50_NoCommand ?e51_NoCommand ?e52_NoCommand ?e31_NoCommand ?e3_ListError ?e4_ListError ?e9_ListError ?e11_ListError ?e21_ListError ?e22_ListError ?e1_ListError ?e50_ListError ?e51_ListError ?e52_ListError ?e31_ListError ?e40_ListError_Wrong ?e40_ListError_NoName ?e40_ListError_Full ?e40_ListError_NoEntry ?e40_ListError_There ?e40_ListError_TooMany ?e40_ListError_BadFacts ?e40_ListError_NoAnswer ?e40_ListError_NoHouse ?e40_ListError_BadChange ?e40_ListError_NoAsk ?e40_ListError_Broken ?e40_ListError_Hopeless ?e40_ListError_NoStep ?e40_ListError_Late ?e40_ListError_Nothing ?e40_ListError_NoDeed ?e40_ListError_NoText ?e40_ListError_NoCommand ?e40_Wrong_NoName ?e40_Wrong_Full ?e40_Wrong_NoEntry ?e40_Wrong_There ?e40_Wrong_TooMany ?e40_Wrong_BadFacts ?e40_Wrong_NoAnswer ?e40_Wrong_NoHouse ?e40_Wrong_BadChange ?e40_Wrong_NoAsk ?e40_Wrong_Broken ?e40_Wrong_Hopeless ?e40_Wrong_NoStep ?e40_Wrong_Late ?e40_Wrong_Nothing ?e40_Wrong_NoDeed ?e40_Wrong_NoText ?e40_Wrong_NoCommand ?e40_NoName_Wrong ?e40_NoName_Full ?e40_NoName_NoEntry ?e40_NoName_There ?e40_NoName_TooMany ?e40_NoName_BadFacts ?e40_NoName_NoAnswer ?e40_NoName_NoHouse ?e40_NoName_BadChange ?e40_NoName_NoAsk ?e40_NoName_Broken ?e40_NoName_Hopeless ?e40_NoName_NoStep ?e40_NoName_Late ?e40_NoName_Nothing ?e40_NoName_NoDeed ?e40_NoName_NoText ?e40_NoName_NoCommand ?e40_Full_Wrong ?e40_Full_NoName ?e40_Full_NoEntry ?e40_Full_There ?e40_Full_TooMany ?e40_Full_BadFacts ?e40_Full_NoAnswer ?e40_Full_NoHouse ?e40_Full_BadChange ?e40_Full_NoAsk ?e40_Full_Broken ?e40_Full_Hopeless ?e40_Full_NoStep ?e40_Full_Late ?e40_Full_Nothing ?e40_Full_NoDeed ?e40_Full_NoText ?e40_Full_NoCommand ?e40_NoEntry_Wrong ?e40_NoEntry_NoName ?e40_NoEntry_Full ?e40_NoEntry_There ?e40_NoEntry_TooMany ?e40_NoEntry_BadFacts ?e40_NoEntry_NoAnswer ?e40_NoEntry_NoHouse ?e40_NoEntry_BadChange ?e40_NoEntry_NoAsk ?e40_NoEntry_Broken ?e40_NoEntry_Hopeless ?e40_NoEntry_NoStep ?e40_NoEntry_Late ?e40_NoEntry_Nothing ?e40_NoEntry_NoDeed ?e40_NoEntry_NoText ?e40_NoEntry_NoCommand ?e40_There_Wrong ?e40_There_NoName ?e40_There_Full ?e40_There_NoEntry ?e40_There_TooMany ?e40_There_BadFacts ?e40_There_NoAnswer ?e40_There_NoHouse ?e40_There_BadChange ?e40_There_NoAsk ?e40_There_Broken ?e40_There_Hopeless ?e40_There_NoStep ?e40_There_Late ?e40_There_Nothing ?e40_There_NoDeed ?e40_There_NoText ?e40_There_NoCommand ?e40_TooMany_Wrong ?e40_TooMany_NoName ?e40_TooMany_Full ?e40_TooMany_NoEntry ?e40_TooMany_There ?e40_TooMany_BadFacts ?e40_TooMany_NoAnswer ?e40_TooMany_NoHouse ?e40_TooMany_BadChange ?e40_TooMany_NoAsk ?e40_TooMany_Broken ?e40_TooMany_Hopeless ?e40_TooMany_NoStep ?e40_TooMany_Late ?e40_TooMany_Nothing ?e40_TooMany_NoDeed ?e40_TooMany_NoText ?e40_TooMany_NoCommand ?e40_BadFacts_Wrong ?e40_BadFacts_NoName ?e40_BadFacts_Full ?e40_BadFacts_NoEntry ?e40_BadFacts_There ?e40_BadFacts_TooMany ?e40_BadFacts_NoAnswer ?e40_BadFacts_NoHouse ?e40_BadFacts_BadChange ?e40_BadFacts_NoAsk ?e40_BadFacts_Broken ?e40_BadFacts_Hopeless ?e40_BadFacts_NoStep ?e40_BadFacts_Late ?e40_BadFacts_Nothing ?e40_BadFacts_NoDeed ?e40_BadFacts_NoText ?e40_BadFacts_NoCommand ?e40_NoAnswer_Wrong ?e40_NoAnswer_NoName ?e40_NoAnswer_Full ?e40_NoAnswer_NoEntry ?e40_NoAnswer_There ?e40_NoAnswer_TooMany ?e40_NoAnswer_BadFacts ?e40_NoAnswer_NoHouse ?e40_NoAnswer_BadChange ?e40_NoAnswer_NoAsk ?e40_NoAnswer_Broken ?e40_NoAnswer_Hopeless ?e40_NoAnswer_NoStep ?e40_NoAnswer_Late ?e40_NoAnswer_Nothing ?e40_NoAnswer_NoDeed ?e40_NoAnswer_NoText ?e40_NoAnswer_NoCommand ?e40_NoHouse_Wrong ?e40_NoHouse_NoName ?e40_NoHouse_Full ?e40_NoHouse_NoEntry ?e40_NoHouse_There ?e40_NoHouse_TooMany ?e40_NoHouse_BadFacts ?e40_NoHouse_NoAnswer ?e40_NoHouse_BadChange ?e40_NoHouse_NoAsk ?e40_NoHouse_Broken ?e40_NoHouse_Hopeless ?e40_NoHouse_NoStep ?e40_NoHouse_Late ?e40_NoHouse_Nothing ?e40_NoHouse_NoDeed ?e40_NoHouse_NoText ?e40_NoHouse_NoCommand ?e40_BadChange_Wrong ?e40_BadChange_NoName ?e40_BadChange_Full ?e40_BadChange_NoEntry ?e40_BadChange_There ?e40_BadChange_TooMany ?e40_BadChange_BadFacts ?e40_BadChange_NoAnswer ?e40_BadChange_NoHouse ?e40_BadChange_NoAsk ?e40_BadChange_Broken ?e40_BadChange_Hopeless ?e40_BadChange_NoStep ?e40_BadChange_Late ?e40_BadChange_Nothing ?e40_BadChange_NoDeed ?e40_BadChange_NoText ?e40_BadChange_NoCommand ?e40_NoAsk_Wrong ?e40_NoAsk_NoName ?e40_NoAsk_Full ?e40_NoAsk_NoEntry ?e40_NoAsk_There ?e40_NoAsk_TooMany ?e40_NoAsk_BadFacts ?e40_NoAsk_NoAnswer ?e40_NoAsk_NoHouse ?e40_NoAsk_BadChange ?e40_NoAsk_Broken ?e40_NoAsk_Hopeless ?e40_NoAsk_NoStep ?e40_NoAsk_Late ?e40_NoAsk_Nothing ?e40_NoAsk_NoDeed ?e40_NoAsk_NoText ?e40_NoAsk_NoCommand ?e40_Broken_Wrong ?e40_Broken_NoName ?e40_Broken_Full ?e40_Broken_NoEntry ?e40_Broken_There ?e40_Broken_TooMany ?e40_Broken_BadFacts ?e40_Broken_NoAnswer ?e40_Broken_NoHouse ?e40_Broken_BadChange ?e40_Broken_NoAsk ?e40_Broken_Hopeless ?e40_Broken_NoStep ?e40_Broken_Late ?e40_Broken_Nothing ?e40_Broken_NoDeed ?e40_Broken_NoText ?e40_Broken_NoCommand ?e40_Hopeless_Wrong ?e40_Hopeless_NoName ?e40_Hopeless_Full ?e40_Hopeless_NoEntry ?e40_Hopeless_There ?e40_Hopeless_TooMany ?e40_Hopeless_BadFacts ?e40_Hopeless_NoAnswer ?e40_Hopeless_NoHouse ?e40_Hopeless_BadChange ?e40_Hopeless_NoAsk ?e40_Hopeless_Broken ?e40_Hopeless_NoStep ?e40_Hopeless_Late ?e40_Hopeless_Nothing ?e40_Hopeless_NoDeed ?e40_Hopeless_NoText ?e40_Hopeless_NoCommand ?e40_NoStep_Wrong ?e40_NoStep_NoName ?e40_NoStep_Full ?e40_NoStep_NoEntry ?e40_NoStep_There ?e40_NoStep_TooMany ?e40_NoStep_BadFacts ?e40_NoStep_NoAnswer ?e40_NoStep_NoHouse ?e40_NoStep_BadChange ?e40_NoStep_NoAsk ?e40_NoStep_Broken ?e40_NoStep_Hopeless ?e40_NoStep_Late ?e40_NoStep_Nothing ?e40_NoStep_NoDeed ?e40_NoStep_NoText ?e40_NoStep_NoCommand ?e40_Late_Wrong ?e40_Late_NoName ?e40_Late_Full ?e40_Late_NoEntry ?e40_Late_There ?e40_Late_TooMany ?e40_Late_BadFacts ?e40_Late_NoAnswer ?e40_Late_NoHouse ?e40_Late_BadChange ?e40_Late_NoAsk ?e40_Late_Broken ?e40_Late_Hopeless ?e40_Late_NoStep ?e40_Late_Nothing ?e40_Late_NoDeed ?e40_Late_NoText ?e40_Late_NoCommand ?e40_Nothing_Wrong ?e40_Nothing_NoName ?e40_Nothing_Full ?e40_Nothing_NoEntry ?e40_Nothing_There ?e40_Nothing_TooMany ?e40_Nothing_BadFacts ?e40_Nothing_NoAnswer ?e40_Nothing_NoHouse ?e40_Nothing_BadChange ?e40_Nothing_NoAsk ?e40_Nothing_Broken ?e40_Nothing_Hopeless ?e40_Nothing_NoStep ?e40_Nothing_Late ?e40_Nothing_NoDeed ?e40_Nothing_NoText ?e40_Nothing_NoCommand ?e40_NoDeed_Wrong ?e40_NoDeed_NoName ?e40_NoDeed_Full ?e40_NoDeed_NoEntry ?e40_NoDeed_There ?e40_NoDeed_TooMany ?e40_NoDeed_BadFacts ?e40_NoDeed_NoAnswer ?e40_NoDeed_NoHouse ?e40_NoDeed_BadChange ?e40_NoDeed_NoAsk ?e40_NoDeed_Broken ?e40_NoDeed_Hopeless ?e40_NoDeed_NoStep ?e40_NoDeed_Late ?e40_NoDeed_Nothing ?e40_NoDeed_NoText ?e40_NoDeed_NoCommand ?e40_NoText_Wrong ?e40_NoText_NoName ?e40_NoText_Full ?e40_NoText_NoEntry ?e40_NoText_There ?e40_NoText_TooMany ?e40_NoText_BadFacts ?e40_NoText_NoAnswer ?e40_NoText_NoHouse ?e40_NoText_BadChange ?e40_NoText_NoAsk ?e40_NoText_Broken ?e40_NoText_Hopeless ?e40_NoText_NoStep ?e40_NoText_Late ?e40_NoText_Nothing ?e40_NoText_NoDeed ?e40_NoText_NoCommand ?e40_NoCommand_Wrong ?e40_NoCommand_NoName ?e40_NoCommand_Full ?e40_NoCommand_NoEntry ?e40_NoCommand_There ?e40_NoCommand_TooMany ?e40_NoCommand_BadFacts ?e40_NoCommand_NoAnswer ?e40_NoCommand_NoHouse ?e40_NoCommand_BadChange ?e40_NoCommand_NoAsk ?e40_NoCommand_Broken ?e40_NoCommand_Hopeless ?e40_NoCommand_NoStep ?e40_NoCommand_Late ?e40_NoCommand_Nothing ?e40_NoCommand_NoDeed ?e40_NoCommand_NoText ?e41_Wrong ?e42_Wrong ?e41_NoName ?e42_NoName ?e41_Full ?e42_Full ?e41_NoEntry ?e42_NoEntry ?e41_There ?e42_There ?e41_TooMany ?e42_TooMany ?e41_BadFacts ?e42_BadFacts ?e41_NoAnswer ?e42_NoAnswer ?e41_NoHouse ?e42_NoHouse ?e41_BadChange ?e42_BadChange ?e41_NoAsk ?e42_NoAsk ?e41_Broken ?e42_Broken ?e41_Hopeless ?e42_Hopeless ?e41_NoStep ?e42_NoStep ?e41_Late ?e42_Late ?e41_Nothing ?e42_Nothing ?e41_NoDeed ?e42_NoDeed ?e41_NoText ?e42_NoText ?e41_NoCommand ?e42_NoCommand ?z_ValueError
    (case zc_ListError => k_is)
    (case zc_Wrong => k_is)
    (case zc_NoName => k_is)
    (case zc_Full => k_is)
    (case zc_NoEntry => k_is)
    (case zc_There => k_is)
    (case zc_TooMany => k_is)
    (case zc_BadFacts => k_is)
    (case zc_NoAnswer => k_is)
    (case zc_NoHouse => k_is)
    (case zc_BadChange => k_is)
    (case zc_NoAsk => k_is)
    (case zc_Broken => k_is)
    (case zc_Hopeless => k_is)
    (case zc_NoStep => k_is)
    (case zc_Late => k_is)
    (case zc_Nothing => k_is)
    (case zc_NoDeed => k_is)
    (case zc_NoText => k_is)
    (case zc_NoCommand => k_is)
    (case a0 => k_is)
    (case l0 => k_is)
    (case c0 => k_is)
    (case k0 => k_is)
    (case a1 => k_is)
    (case l1 => k_is)
    (case c1 => k_is)
    (case k1 => k_is)
    (case a2 => k_is)
    (case l2 => k_is)
    (case c2 => k_is)
    (case k2 => k_is)
    (case a3 => k_is)
    (case l3 => k_is)
    (case c3 => k_is)
    (case k3 => k_is)
    (case a4 => k_is)
    (case l4 => k_is)
    (case c4 => k_is)
    (case k4 => k_is)
    (case a5 => k_is)
    (case l5 => k_is)
    (case c5 => k_is)
    (case k5 => k_is)
    (case a6 => k_is)
    (case l6 => k_is)
    (case c6 => k_is)
    (case k6 => k_is)
    (case a7 => k_is)
    (case l7 => k_is)
    (case c7 => k_is)
    (case k7 => k_is)
    (case e1_Wrong => first | k_is | rfl | decide +kernel)
    (case e2_Wrong => first | k_is | rfl | decide +kernel)
    (case e3_Wrong => first | k_is | rfl | decide +kernel)
    (case e4_Wrong => first | k_is | rfl | decide +kernel)
    (case e5_Wrong => first | k_is | rfl | decide +kernel)
    (case e6_Wrong => first | k_is | rfl | decide +kernel)
    (case e7_Wrong => first | k_is | rfl | decide +kernel)
    (case e8_Wrong => first | k_is | rfl | decide +kernel)
    (case e9_Wrong => first | k_is | rfl | decide +kernel)
    (case e10_Wrong => first | k_is | rfl | decide +kernel)
    (case e11_Wrong => first | k_is | rfl | decide +kernel)
    (case e12_Wrong => first | k_is | rfl | decide +kernel)
    (case e13_Wrong => first | k_is | rfl | decide +kernel)
    (case e14_Wrong => first | k_is | rfl | decide +kernel)
    (case e15_Wrong => first | k_is | rfl | decide +kernel)
    (case e16_Wrong => first | k_is | rfl | decide +kernel)
    (case e17_Wrong => first | k_is | rfl | decide +kernel)
    (case e18_Wrong => first | k_is | rfl | decide +kernel)
    (case e19_Wrong => first | k_is | rfl | decide +kernel)
    (case e20_Wrong => first | k_is | rfl | decide +kernel)
    (case e21_Wrong => first | k_is | rfl | decide +kernel)
    (case e22_Wrong => first | k_is | rfl | decide +kernel)
    (case e23_Wrong => first | k_is | rfl | decide +kernel)
    (case e1_NoName => first | k_is | rfl | decide +kernel)
    (case e2_NoName => first | k_is | rfl | decide +kernel)
    (case e3_NoName => first | k_is | rfl | decide +kernel)
    (case e4_NoName => first | k_is | rfl | decide +kernel)
    (case e5_NoName => first | k_is | rfl | decide +kernel)
    (case e6_NoName => first | k_is | rfl | decide +kernel)
    (case e7_NoName => first | k_is | rfl | decide +kernel)
    (case e8_NoName => first | k_is | rfl | decide +kernel)
    (case e9_NoName => first | k_is | rfl | decide +kernel)
    (case e10_NoName => first | k_is | rfl | decide +kernel)
    (case e11_NoName => first | k_is | rfl | decide +kernel)
    (case e12_NoName => first | k_is | rfl | decide +kernel)
    (case e13_NoName => first | k_is | rfl | decide +kernel)
    (case e14_NoName => first | k_is | rfl | decide +kernel)
    (case e15_NoName => first | k_is | rfl | decide +kernel)
    (case e16_NoName => first | k_is | rfl | decide +kernel)
    (case e17_NoName => first | k_is | rfl | decide +kernel)
    (case e18_NoName => first | k_is | rfl | decide +kernel)
    (case e19_NoName => first | k_is | rfl | decide +kernel)
    (case e20_NoName => first | k_is | rfl | decide +kernel)
    (case e21_NoName => first | k_is | rfl | decide +kernel)
    (case e22_NoName => first | k_is | rfl | decide +kernel)
    (case e23_NoName => first | k_is | rfl | decide +kernel)
    (case e1_Full => first | k_is | rfl | decide +kernel)
    (case e2_Full => first | k_is | rfl | decide +kernel)
    (case e3_Full => first | k_is | rfl | decide +kernel)
    (case e4_Full => first | k_is | rfl | decide +kernel)
    (case e5_Full => first | k_is | rfl | decide +kernel)
    (case e6_Full => first | k_is | rfl | decide +kernel)
    (case e7_Full => first | k_is | rfl | decide +kernel)
    (case e8_Full => first | k_is | rfl | decide +kernel)
    (case e9_Full => first | k_is | rfl | decide +kernel)
    (case e10_Full => first | k_is | rfl | decide +kernel)
    (case e11_Full => first | k_is | rfl | decide +kernel)
    (case e12_Full => first | k_is | rfl | decide +kernel)
    (case e13_Full => first | k_is | rfl | decide +kernel)
    (case e14_Full => first | k_is | rfl | decide +kernel)
    (case e15_Full => first | k_is | rfl | decide +kernel)
    (case e16_Full => first | k_is | rfl | decide +kernel)
    (case e17_Full => first | k_is | rfl | decide +kernel)
    (case e18_Full => first | k_is | rfl | decide +kernel)
    (case e19_Full => first | k_is | rfl | decide +kernel)
    (case e20_Full => first | k_is | rfl | decide +kernel)
    (case e21_Full => first | k_is | rfl | decide +kernel)
    (case e22_Full => first | k_is | rfl | decide +kernel)
    (case e23_Full => first | k_is | rfl | decide +kernel)
    (case e1_NoEntry => first | k_is | rfl | decide +kernel)
    (case e2_NoEntry => first | k_is | rfl | decide +kernel)
    (case e3_NoEntry => first | k_is | rfl | decide +kernel)
    (case e4_NoEntry => first | k_is | rfl | decide +kernel)
    (case e5_NoEntry => first | k_is | rfl | decide +kernel)
    (case e6_NoEntry => first | k_is | rfl | decide +kernel)
    (case e7_NoEntry => first | k_is | rfl | decide +kernel)
    (case e8_NoEntry => first | k_is | rfl | decide +kernel)
    (case e9_NoEntry => first | k_is | rfl | decide +kernel)
    (case e10_NoEntry => first | k_is | rfl | decide +kernel)
    (case e11_NoEntry => first | k_is | rfl | decide +kernel)
    (case e12_NoEntry => first | k_is | rfl | decide +kernel)
    (case e13_NoEntry => first | k_is | rfl | decide +kernel)
    (case e14_NoEntry => first | k_is | rfl | decide +kernel)
    (case e15_NoEntry => first | k_is | rfl | decide +kernel)
    (case e16_NoEntry => first | k_is | rfl | decide +kernel)
    (case e17_NoEntry => first | k_is | rfl | decide +kernel)
    (case e18_NoEntry => first | k_is | rfl | decide +kernel)
    (case e19_NoEntry => first | k_is | rfl | decide +kernel)
    (case e20_NoEntry => first | k_is | rfl | decide +kernel)
    (case e21_NoEntry => first | k_is | rfl | decide +kernel)
    (case e22_NoEntry => first | k_is | rfl | decide +kernel)
    (case e23_NoEntry => first | k_is | rfl | decide +kernel)
    (case e1_There => first | k_is | rfl | decide +kernel)
    (case e2_There => first | k_is | rfl | decide +kernel)
    (case e3_There => first | k_is | rfl | decide +kernel)
    (case e4_There => first | k_is | rfl | decide +kernel)
    (case e5_There => first | k_is | rfl | decide +kernel)
    (case e6_There => first | k_is | rfl | decide +kernel)
    (case e7_There => first | k_is | rfl | decide +kernel)
    (case e8_There => first | k_is | rfl | decide +kernel)
    (case e9_There => first | k_is | rfl | decide +kernel)
    (case e10_There => first | k_is | rfl | decide +kernel)
    (case e11_There => first | k_is | rfl | decide +kernel)
    (case e12_There => first | k_is | rfl | decide +kernel)
    (case e13_There => first | k_is | rfl | decide +kernel)
    (case e14_There => first | k_is | rfl | decide +kernel)
    (case e15_There => first | k_is | rfl | decide +kernel)
    (case e16_There => first | k_is | rfl | decide +kernel)
    (case e17_There => first | k_is | rfl | decide +kernel)
    (case e18_There => first | k_is | rfl | decide +kernel)
    (case e19_There => first | k_is | rfl | decide +kernel)
    (case e20_There => first | k_is | rfl | decide +kernel)
    (case e21_There => first | k_is | rfl | decide +kernel)
    (case e22_There => first | k_is | rfl | decide +kernel)
    (case e23_There => first | k_is | rfl | decide +kernel)
    (case e1_TooMany => first | k_is | rfl | decide +kernel)
    (case e2_TooMany => first | k_is | rfl | decide +kernel)
    (case e3_TooMany => first | k_is | rfl | decide +kernel)
    (case e4_TooMany => first | k_is | rfl | decide +kernel)
    (case e5_TooMany => first | k_is | rfl | decide +kernel)
    (case e6_TooMany => first | k_is | rfl | decide +kernel)
    (case e7_TooMany => first | k_is | rfl | decide +kernel)
    (case e8_TooMany => first | k_is | rfl | decide +kernel)
    (case e9_TooMany => first | k_is | rfl | decide +kernel)
    (case e10_TooMany => first | k_is | rfl | decide +kernel)
    (case e11_TooMany => first | k_is | rfl | decide +kernel)
    (case e12_TooMany => first | k_is | rfl | decide +kernel)
    (case e13_TooMany => first | k_is | rfl | decide +kernel)
    (case e14_TooMany => first | k_is | rfl | decide +kernel)
    (case e15_TooMany => first | k_is | rfl | decide +kernel)
    (case e16_TooMany => first | k_is | rfl | decide +kernel)
    (case e17_TooMany => first | k_is | rfl | decide +kernel)
    (case e18_TooMany => first | k_is | rfl | decide +kernel)
    (case e19_TooMany => first | k_is | rfl | decide +kernel)
    (case e20_TooMany => first | k_is | rfl | decide +kernel)
    (case e21_TooMany => first | k_is | rfl | decide +kernel)
    (case e22_TooMany => first | k_is | rfl | decide +kernel)
    (case e23_TooMany => first | k_is | rfl | decide +kernel)
    (case e1_BadFacts => first | k_is | rfl | decide +kernel)
    (case e2_BadFacts => first | k_is | rfl | decide +kernel)
    (case e3_BadFacts => first | k_is | rfl | decide +kernel)
    (case e4_BadFacts => first | k_is | rfl | decide +kernel)
    (case e5_BadFacts => first | k_is | rfl | decide +kernel)
    (case e6_BadFacts => first | k_is | rfl | decide +kernel)
    (case e7_BadFacts => first | k_is | rfl | decide +kernel)
    (case e8_BadFacts => first | k_is | rfl | decide +kernel)
    (case e9_BadFacts => first | k_is | rfl | decide +kernel)
    (case e10_BadFacts => first | k_is | rfl | decide +kernel)
    (case e11_BadFacts => first | k_is | rfl | decide +kernel)
    (case e12_BadFacts => first | k_is | rfl | decide +kernel)
    (case e13_BadFacts => first | k_is | rfl | decide +kernel)
    (case e14_BadFacts => first | k_is | rfl | decide +kernel)
    (case e15_BadFacts => first | k_is | rfl | decide +kernel)
    (case e16_BadFacts => first | k_is | rfl | decide +kernel)
    (case e17_BadFacts => first | k_is | rfl | decide +kernel)
    (case e18_BadFacts => first | k_is | rfl | decide +kernel)
    (case e19_BadFacts => first | k_is | rfl | decide +kernel)
    (case e20_BadFacts => first | k_is | rfl | decide +kernel)
    (case e21_BadFacts => first | k_is | rfl | decide +kernel)
    (case e22_BadFacts => first | k_is | rfl | decide +kernel)
    (case e23_BadFacts => first | k_is | rfl | decide +kernel)
    (case e1_NoAnswer => first | k_is | rfl | decide +kernel)
    (case e2_NoAnswer => first | k_is | rfl | decide +kernel)
    (case e3_NoAnswer => first | k_is | rfl | decide +kernel)
    (case e4_NoAnswer => first | k_is | rfl | decide +kernel)
    (case e5_NoAnswer => first | k_is | rfl | decide +kernel)
    (case e6_NoAnswer => first | k_is | rfl | decide +kernel)
    (case e7_NoAnswer => first | k_is | rfl | decide +kernel)
    (case e8_NoAnswer => first | k_is | rfl | decide +kernel)
    (case e9_NoAnswer => first | k_is | rfl | decide +kernel)
    (case e10_NoAnswer => first | k_is | rfl | decide +kernel)
    (case e11_NoAnswer => first | k_is | rfl | decide +kernel)
    (case e12_NoAnswer => first | k_is | rfl | decide +kernel)
    (case e13_NoAnswer => first | k_is | rfl | decide +kernel)
    (case e14_NoAnswer => first | k_is | rfl | decide +kernel)
    (case e15_NoAnswer => first | k_is | rfl | decide +kernel)
    (case e16_NoAnswer => first | k_is | rfl | decide +kernel)
    (case e17_NoAnswer => first | k_is | rfl | decide +kernel)
    (case e18_NoAnswer => first | k_is | rfl | decide +kernel)
    (case e19_NoAnswer => first | k_is | rfl | decide +kernel)
    (case e20_NoAnswer => first | k_is | rfl | decide +kernel)
    (case e21_NoAnswer => first | k_is | rfl | decide +kernel)
    (case e22_NoAnswer => first | k_is | rfl | decide +kernel)
    (case e23_NoAnswer => first | k_is | rfl | decide +kernel)
    (case e1_NoHouse => first | k_is | rfl | decide +kernel)
    (case e2_NoHouse => first | k_is | rfl | decide +kernel)
    (case e3_NoHouse => first | k_is | rfl | decide +kernel)
    (case e4_NoHouse => first | k_is | rfl | decide +kernel)
    (case e5_NoHouse => first | k_is | rfl | decide +kernel)
    (case e6_NoHouse => first | k_is | rfl | decide +kernel)
    (case e7_NoHouse => first | k_is | rfl | decide +kernel)
    (case e8_NoHouse => first | k_is | rfl | decide +kernel)
    (case e9_NoHouse => first | k_is | rfl | decide +kernel)
    (case e10_NoHouse => first | k_is | rfl | decide +kernel)
    (case e11_NoHouse => first | k_is | rfl | decide +kernel)
    (case e12_NoHouse => first | k_is | rfl | decide +kernel)
    (case e13_NoHouse => first | k_is | rfl | decide +kernel)
    (case e14_NoHouse => first | k_is | rfl | decide +kernel)
    (case e15_NoHouse => first | k_is | rfl | decide +kernel)
    (case e16_NoHouse => first | k_is | rfl | decide +kernel)
    (case e17_NoHouse => first | k_is | rfl | decide +kernel)
    (case e18_NoHouse => first | k_is | rfl | decide +kernel)
    (case e19_NoHouse => first | k_is | rfl | decide +kernel)
    (case e20_NoHouse => first | k_is | rfl | decide +kernel)
    (case e21_NoHouse => first | k_is | rfl | decide +kernel)
    (case e22_NoHouse => first | k_is | rfl | decide +kernel)
    (case e23_NoHouse => first | k_is | rfl | decide +kernel)
    (case e1_BadChange => first | k_is | rfl | decide +kernel)
    (case e2_BadChange => first | k_is | rfl | decide +kernel)
    (case e3_BadChange => first | k_is | rfl | decide +kernel)
    (case e4_BadChange => first | k_is | rfl | decide +kernel)
    (case e5_BadChange => first | k_is | rfl | decide +kernel)
    (case e6_BadChange => first | k_is | rfl | decide +kernel)
    (case e7_BadChange => first | k_is | rfl | decide +kernel)
    (case e8_BadChange => first | k_is | rfl | decide +kernel)
    (case e9_BadChange => first | k_is | rfl | decide +kernel)
    (case e10_BadChange => first | k_is | rfl | decide +kernel)
    (case e11_BadChange => first | k_is | rfl | decide +kernel)
    (case e12_BadChange => first | k_is | rfl | decide +kernel)
    (case e13_BadChange => first | k_is | rfl | decide +kernel)
    (case e14_BadChange => first | k_is | rfl | decide +kernel)
    (case e15_BadChange => first | k_is | rfl | decide +kernel)
    (case e16_BadChange => first | k_is | rfl | decide +kernel)
    (case e17_BadChange => first | k_is | rfl | decide +kernel)
    (case e18_BadChange => first | k_is | rfl | decide +kernel)
    (case e19_BadChange => first | k_is | rfl | decide +kernel)
    (case e20_BadChange => first | k_is | rfl | decide +kernel)
    (case e21_BadChange => first | k_is | rfl | decide +kernel)
    (case e22_BadChange => first | k_is | rfl | decide +kernel)
    (case e23_BadChange => first | k_is | rfl | decide +kernel)
    (case e1_NoAsk => first | k_is | rfl | decide +kernel)
    (case e2_NoAsk => first | k_is | rfl | decide +kernel)
    (case e3_NoAsk => first | k_is | rfl | decide +kernel)
    (case e4_NoAsk => first | k_is | rfl | decide +kernel)
    (case e5_NoAsk => first | k_is | rfl | decide +kernel)
    (case e6_NoAsk => first | k_is | rfl | decide +kernel)
    (case e7_NoAsk => first | k_is | rfl | decide +kernel)
    (case e8_NoAsk => first | k_is | rfl | decide +kernel)
    (case e9_NoAsk => first | k_is | rfl | decide +kernel)
    (case e10_NoAsk => first | k_is | rfl | decide +kernel)
    (case e11_NoAsk => first | k_is | rfl | decide +kernel)
    (case e12_NoAsk => first | k_is | rfl | decide +kernel)
    (case e13_NoAsk => first | k_is | rfl | decide +kernel)
    (case e14_NoAsk => first | k_is | rfl | decide +kernel)
    (case e15_NoAsk => first | k_is | rfl | decide +kernel)
    (case e16_NoAsk => first | k_is | rfl | decide +kernel)
    (case e17_NoAsk => first | k_is | rfl | decide +kernel)
    (case e18_NoAsk => first | k_is | rfl | decide +kernel)
    (case e19_NoAsk => first | k_is | rfl | decide +kernel)
    (case e20_NoAsk => first | k_is | rfl | decide +kernel)
    (case e21_NoAsk => first | k_is | rfl | decide +kernel)
    (case e22_NoAsk => first | k_is | rfl | decide +kernel)
    (case e23_NoAsk => first | k_is | rfl | decide +kernel)
    (case e1_Broken => first | k_is | rfl | decide +kernel)
    (case e2_Broken => first | k_is | rfl | decide +kernel)
    (case e3_Broken => first | k_is | rfl | decide +kernel)
    (case e4_Broken => first | k_is | rfl | decide +kernel)
    (case e5_Broken => first | k_is | rfl | decide +kernel)
    (case e6_Broken => first | k_is | rfl | decide +kernel)
    (case e7_Broken => first | k_is | rfl | decide +kernel)
    (case e8_Broken => first | k_is | rfl | decide +kernel)
    (case e9_Broken => first | k_is | rfl | decide +kernel)
    (case e10_Broken => first | k_is | rfl | decide +kernel)
    (case e11_Broken => first | k_is | rfl | decide +kernel)
    (case e12_Broken => first | k_is | rfl | decide +kernel)
    (case e13_Broken => first | k_is | rfl | decide +kernel)
    (case e14_Broken => first | k_is | rfl | decide +kernel)
    (case e15_Broken => first | k_is | rfl | decide +kernel)
    (case e16_Broken => first | k_is | rfl | decide +kernel)
    (case e17_Broken => first | k_is | rfl | decide +kernel)
    (case e18_Broken => first | k_is | rfl | decide +kernel)
    (case e19_Broken => first | k_is | rfl | decide +kernel)
    (case e20_Broken => first | k_is | rfl | decide +kernel)
    (case e21_Broken => first | k_is | rfl | decide +kernel)
    (case e22_Broken => first | k_is | rfl | decide +kernel)
    (case e23_Broken => first | k_is | rfl | decide +kernel)
    (case e1_Hopeless => first | k_is | rfl | decide +kernel)
    (case e2_Hopeless => first | k_is | rfl | decide +kernel)
    (case e3_Hopeless => first | k_is | rfl | decide +kernel)
    (case e4_Hopeless => first | k_is | rfl | decide +kernel)
    (case e5_Hopeless => first | k_is | rfl | decide +kernel)
    (case e24_Hopeless => first | k_is | rfl | decide +kernel)
    (case e25_Hopeless => first | k_is | rfl | decide +kernel)
    (case e6_Hopeless => first | k_is | rfl | decide +kernel)
    (case e7_Hopeless => first | k_is | rfl | decide +kernel)
    (case e8_Hopeless => first | k_is | rfl | decide +kernel)
    (case e9_Hopeless => first | k_is | rfl | decide +kernel)
    (case e10_Hopeless => first | k_is | rfl | decide +kernel)
    (case e11_Hopeless => first | k_is | rfl | decide +kernel)
    (case e12_Hopeless => first | k_is | rfl | decide +kernel)
    (case e13_Hopeless => first | k_is | rfl | decide +kernel)
    (case e14_Hopeless => first | k_is | rfl | decide +kernel)
    (case e15_Hopeless => first | k_is | rfl | decide +kernel)
    (case e16_Hopeless => first | k_is | rfl | decide +kernel)
    (case e17_Hopeless => first | k_is | rfl | decide +kernel)
    (case e18_Hopeless => first | k_is | rfl | decide +kernel)
    (case e19_Hopeless => first | k_is | rfl | decide +kernel)
    (case e20_Hopeless => first | k_is | rfl | decide +kernel)
    (case e21_Hopeless => first | k_is | rfl | decide +kernel)
    (case e22_Hopeless => first | k_is | rfl | decide +kernel)
    (case e23_Hopeless => first | k_is | rfl | decide +kernel)
    (case eS1 => first | k_is | rfl | decide +kernel)
    (case eS2 => first | k_is | rfl | decide +kernel)
    (case eS3 => first | k_is | rfl | decide +kernel)
    (case eS4 => first | k_is | rfl | decide +kernel)
    (case eS5 => first | k_is | rfl | decide +kernel)
    (case eS6 => first | k_is | rfl | decide +kernel)
    (case z_len => k_is)
    (case z_int => k_is)
    (case z_abs => k_is)
    (case z_tuple => k_is)
    (case z_list => k_is)
    (case z_repr => k_is)
    (case z_range => k_is)
    (case z_sorted => k_is)
    (case z_sum => k_is)
    (case z_all => k_is)
    (case z_any => k_is)
    (case z_min => k_is)
    (case z_max => k_is)
    (case z_set => k_is)
    (case z_dict => k_is)
    (case z_zip => k_is)
    (case z_enumerate => k_is)
    (case z_reversed => k_is)
    (case z_str => k_is)
    (case z_type => k_is)
    (case z_isinstance => k_is)
    (case z_bool => k_is)
    (case o2 => k_is)
    (case o3 => k_is)
    (case e3_NoStep => first | k_is | rfl | decide +kernel)
    (case e4_NoStep => first | k_is | rfl | decide +kernel)
    (case e9_NoStep => first | k_is | rfl | decide +kernel)
    (case e11_NoStep => first | k_is | rfl | decide +kernel)
    (case e21_NoStep => first | k_is | rfl | decide +kernel)
    (case e22_NoStep => first | k_is | rfl | decide +kernel)
    (case e1_NoStep => first | k_is | rfl | decide +kernel)
    (case e50_NoStep => first | k_is | rfl | decide +kernel)
    (case e51_NoStep => first | k_is | rfl | decide +kernel)
    (case e52_NoStep => first | k_is | rfl | decide +kernel)
    (case e31_NoStep => first | k_is | rfl | decide +kernel)
    (case e3_Late => first | k_is | rfl | decide +kernel)
    (case e4_Late => first | k_is | rfl | decide +kernel)
    (case e9_Late => first | k_is | rfl | decide +kernel)
    (case e11_Late => first | k_is | rfl | decide +kernel)
    (case e21_Late => first | k_is | rfl | decide +kernel)
    (case e22_Late => first | k_is | rfl | decide +kernel)
    (case e1_Late => first | k_is | rfl | decide +kernel)
    (case e50_Late => first | k_is | rfl | decide +kernel)
    (case e51_Late => first | k_is | rfl | decide +kernel)
    (case e52_Late => first | k_is | rfl | decide +kernel)
    (case e31_Late => first | k_is | rfl | decide +kernel)
    (case e3_Nothing => first | k_is | rfl | decide +kernel)
    (case e4_Nothing => first | k_is | rfl | decide +kernel)
    (case e9_Nothing => first | k_is | rfl | decide +kernel)
    (case e11_Nothing => first | k_is | rfl | decide +kernel)
    (case e21_Nothing => first | k_is | rfl | decide +kernel)
    (case e22_Nothing => first | k_is | rfl | decide +kernel)
    (case e1_Nothing => first | k_is | rfl | decide +kernel)
    (case e50_Nothing => first | k_is | rfl | decide +kernel)
    (case e51_Nothing => first | k_is | rfl | decide +kernel)
    (case e52_Nothing => first | k_is | rfl | decide +kernel)
    (case e31_Nothing => first | k_is | rfl | decide +kernel)
    (case e3_NoDeed => first | k_is | rfl | decide +kernel)
    (case e4_NoDeed => first | k_is | rfl | decide +kernel)
    (case e9_NoDeed => first | k_is | rfl | decide +kernel)
    (case e11_NoDeed => first | k_is | rfl | decide +kernel)
    (case e21_NoDeed => first | k_is | rfl | decide +kernel)
    (case e22_NoDeed => first | k_is | rfl | decide +kernel)
    (case e1_NoDeed => first | k_is | rfl | decide +kernel)
    (case e50_NoDeed => first | k_is | rfl | decide +kernel)
    (case e51_NoDeed => first | k_is | rfl | decide +kernel)
    (case e52_NoDeed => first | k_is | rfl | decide +kernel)
    (case e31_NoDeed => first | k_is | rfl | decide +kernel)
    (case e3_NoText => first | k_is | rfl | decide +kernel)
    (case e4_NoText => first | k_is | rfl | decide +kernel)
    (case e9_NoText => first | k_is | rfl | decide +kernel)
    (case e11_NoText => first | k_is | rfl | decide +kernel)
    (case e21_NoText => first | k_is | rfl | decide +kernel)
    (case e22_NoText => first | k_is | rfl | decide +kernel)
    (case e1_NoText => first | k_is | rfl | decide +kernel)
    (case e50_NoText => first | k_is | rfl | decide +kernel)
    (case e51_NoText => first | k_is | rfl | decide +kernel)
    (case e52_NoText => first | k_is | rfl | decide +kernel)
    (case e31_NoText => first | k_is | rfl | decide +kernel)
    (case e3_NoCommand => first | k_is | rfl | decide +kernel)
    (case e4_NoCommand => first | k_is | rfl | decide +kernel)
    (case e9_NoCommand => first | k_is | rfl | decide +kernel)
    (case e11_NoCommand => first | k_is | rfl | decide +kernel)
    (case e21_NoCommand => first | k_is | rfl | decide +kernel)
    (case e22_NoCommand => first | k_is | rfl | decide +kernel)
    (case e1_NoCommand => first | k_is | rfl | decide +kernel)
    (case e50_NoCommand => first | k_is | rfl | decide +kernel)
    (case e51_NoCommand => first | k_is | rfl | decide +kernel)
    (case e52_NoCommand => first | k_is | rfl | decide +kernel)
    (case e31_NoCommand => first | k_is | rfl | decide +kernel)
    (case e3_ListError => first | k_is | rfl | decide +kernel)
    (case e4_ListError => first | k_is | rfl | decide +kernel)
    (case e9_ListError => first | k_is | rfl | decide +kernel)
    (case e11_ListError => first | k_is | rfl | decide +kernel)
    (case e21_ListError => first | k_is | rfl | decide +kernel)
    (case e22_ListError => first | k_is | rfl | decide +kernel)
    (case e1_ListError => first | k_is | rfl | decide +kernel)
    (case e50_ListError => first | k_is | rfl | decide +kernel)
    (case e51_ListError => first | k_is | rfl | decide +kernel)
    (case e52_ListError => first | k_is | rfl | decide +kernel)
    (case e31_ListError => first | k_is | rfl | decide +kernel)
    (case e40_ListError_Wrong => first | k_is | rfl | decide +kernel)
    (case e40_ListError_NoName => first | k_is | rfl | decide +kernel)
    (case e40_ListError_Full => first | k_is | rfl | decide +kernel)
    (case e40_ListError_NoEntry => first | k_is | rfl | decide +kernel)
    (case e40_ListError_There => first | k_is | rfl | decide +kernel)
    (case e40_ListError_TooMany => first | k_is | rfl | decide +kernel)
    (case e40_ListError_BadFacts => first | k_is | rfl | decide +kernel)
    (case e40_ListError_NoAnswer => first | k_is | rfl | decide +kernel)
    (case e40_ListError_NoHouse => first | k_is | rfl | decide +kernel)
    (case e40_ListError_BadChange => first | k_is | rfl | decide +kernel)
    (case e40_ListError_NoAsk => first | k_is | rfl | decide +kernel)
    (case e40_ListError_Broken => first | k_is | rfl | decide +kernel)
    (case e40_ListError_Hopeless => first | k_is | rfl | decide +kernel)
    (case e40_ListError_NoStep => first | k_is | rfl | decide +kernel)
    (case e40_ListError_Late => first | k_is | rfl | decide +kernel)
    (case e40_ListError_Nothing => first | k_is | rfl | decide +kernel)
    (case e40_ListError_NoDeed => first | k_is | rfl | decide +kernel)
    (case e40_ListError_NoText => first | k_is | rfl | decide +kernel)
    (case e40_ListError_NoCommand => first | k_is | rfl | decide +kernel)
    (case e40_Wrong_NoName => first | k_is | rfl | decide +kernel)
    (case e40_Wrong_Full => first | k_is | rfl | decide +kernel)
    (case e40_Wrong_NoEntry => first | k_is | rfl | decide +kernel)
    (case e40_Wrong_There => first | k_is | rfl | decide +kernel)
    (case e40_Wrong_TooMany => first | k_is | rfl | decide +kernel)
    (case e40_Wrong_BadFacts => first | k_is | rfl | decide +kernel)
    (case e40_Wrong_NoAnswer => first | k_is | rfl | decide +kernel)
    (case e40_Wrong_NoHouse => first | k_is | rfl | decide +kernel)
    (case e40_Wrong_BadChange => first | k_is | rfl | decide +kernel)
    (case e40_Wrong_NoAsk => first | k_is | rfl | decide +kernel)
    (case e40_Wrong_Broken => first | k_is | rfl | decide +kernel)
    (case e40_Wrong_Hopeless => first | k_is | rfl | decide +kernel)
    (case e40_Wrong_NoStep => first | k_is | rfl | decide +kernel)
    (case e40_Wrong_Late => first | k_is | rfl | decide +kernel)
    (case e40_Wrong_Nothing => first | k_is | rfl | decide +kernel)
    (case e40_Wrong_NoDeed => first | k_is | rfl | decide +kernel)
    (case e40_Wrong_NoText => first | k_is | rfl | decide +kernel)
    (case e40_Wrong_NoCommand => first | k_is | rfl | decide +kernel)
    (case e40_NoName_Wrong => first | k_is | rfl | decide +kernel)
    (case e40_NoName_Full => first | k_is | rfl | decide +kernel)
    (case e40_NoName_NoEntry => first | k_is | rfl | decide +kernel)
    (case e40_NoName_There => first | k_is | rfl | decide +kernel)
    (case e40_NoName_TooMany => first | k_is | rfl | decide +kernel)
    (case e40_NoName_BadFacts => first | k_is | rfl | decide +kernel)
    (case e40_NoName_NoAnswer => first | k_is | rfl | decide +kernel)
    (case e40_NoName_NoHouse => first | k_is | rfl | decide +kernel)
    (case e40_NoName_BadChange => first | k_is | rfl | decide +kernel)
    (case e40_NoName_NoAsk => first | k_is | rfl | decide +kernel)
    (case e40_NoName_Broken => first | k_is | rfl | decide +kernel)
    (case e40_NoName_Hopeless => first | k_is | rfl | decide +kernel)
    (case e40_NoName_NoStep => first | k_is | rfl | decide +kernel)
    (case e40_NoName_Late => first | k_is | rfl | decide +kernel)
    (case e40_NoName_Nothing => first | k_is | rfl | decide +kernel)
    (case e40_NoName_NoDeed => first | k_is | rfl | decide +kernel)
    (case e40_NoName_NoText => first | k_is | rfl | decide +kernel)
    (case e40_NoName_NoCommand => first | k_is | rfl | decide +kernel)
    (case e40_Full_Wrong => first | k_is | rfl | decide +kernel)
    (case e40_Full_NoName => first | k_is | rfl | decide +kernel)
    (case e40_Full_NoEntry => first | k_is | rfl | decide +kernel)
    (case e40_Full_There => first | k_is | rfl | decide +kernel)
    (case e40_Full_TooMany => first | k_is | rfl | decide +kernel)
    (case e40_Full_BadFacts => first | k_is | rfl | decide +kernel)
    (case e40_Full_NoAnswer => first | k_is | rfl | decide +kernel)
    (case e40_Full_NoHouse => first | k_is | rfl | decide +kernel)
    (case e40_Full_BadChange => first | k_is | rfl | decide +kernel)
    (case e40_Full_NoAsk => first | k_is | rfl | decide +kernel)
    (case e40_Full_Broken => first | k_is | rfl | decide +kernel)
    (case e40_Full_Hopeless => first | k_is | rfl | decide +kernel)
    (case e40_Full_NoStep => first | k_is | rfl | decide +kernel)
    (case e40_Full_Late => first | k_is | rfl | decide +kernel)
    (case e40_Full_Nothing => first | k_is | rfl | decide +kernel)
    (case e40_Full_NoDeed => first | k_is | rfl | decide +kernel)
    (case e40_Full_NoText => first | k_is | rfl | decide +kernel)
    (case e40_Full_NoCommand => first | k_is | rfl | decide +kernel)
    (case e40_NoEntry_Wrong => first | k_is | rfl | decide +kernel)
    (case e40_NoEntry_NoName => first | k_is | rfl | decide +kernel)
    (case e40_NoEntry_Full => first | k_is | rfl | decide +kernel)
    (case e40_NoEntry_There => first | k_is | rfl | decide +kernel)
    (case e40_NoEntry_TooMany => first | k_is | rfl | decide +kernel)
    (case e40_NoEntry_BadFacts => first | k_is | rfl | decide +kernel)
    (case e40_NoEntry_NoAnswer => first | k_is | rfl | decide +kernel)
    (case e40_NoEntry_NoHouse => first | k_is | rfl | decide +kernel)
    (case e40_NoEntry_BadChange => first | k_is | rfl | decide +kernel)
    (case e40_NoEntry_NoAsk => first | k_is | rfl | decide +kernel)
    (case e40_NoEntry_Broken => first | k_is | rfl | decide +kernel)
    (case e40_NoEntry_Hopeless => first | k_is | rfl | decide +kernel)
    (case e40_NoEntry_NoStep => first | k_is | rfl | decide +kernel)
    (case e40_NoEntry_Late => first | k_is | rfl | decide +kernel)
    (case e40_NoEntry_Nothing => first | k_is | rfl | decide +kernel)
    (case e40_NoEntry_NoDeed => first | k_is | rfl | decide +kernel)
    (case e40_NoEntry_NoText => first | k_is | rfl | decide +kernel)
    (case e40_NoEntry_NoCommand => first | k_is | rfl | decide +kernel)
    (case e40_There_Wrong => first | k_is | rfl | decide +kernel)
    (case e40_There_NoName => first | k_is | rfl | decide +kernel)
    (case e40_There_Full => first | k_is | rfl | decide +kernel)
    (case e40_There_NoEntry => first | k_is | rfl | decide +kernel)
    (case e40_There_TooMany => first | k_is | rfl | decide +kernel)
    (case e40_There_BadFacts => first | k_is | rfl | decide +kernel)
    (case e40_There_NoAnswer => first | k_is | rfl | decide +kernel)
    (case e40_There_NoHouse => first | k_is | rfl | decide +kernel)
    (case e40_There_BadChange => first | k_is | rfl | decide +kernel)
    (case e40_There_NoAsk => first | k_is | rfl | decide +kernel)
    (case e40_There_Broken => first | k_is | rfl | decide +kernel)
    (case e40_There_Hopeless => first | k_is | rfl | decide +kernel)
    (case e40_There_NoStep => first | k_is | rfl | decide +kernel)
    (case e40_There_Late => first | k_is | rfl | decide +kernel)
    (case e40_There_Nothing => first | k_is | rfl | decide +kernel)
    (case e40_There_NoDeed => first | k_is | rfl | decide +kernel)
    (case e40_There_NoText => first | k_is | rfl | decide +kernel)
    (case e40_There_NoCommand => first | k_is | rfl | decide +kernel)
    (case e40_TooMany_Wrong => first | k_is | rfl | decide +kernel)
    (case e40_TooMany_NoName => first | k_is | rfl | decide +kernel)
    (case e40_TooMany_Full => first | k_is | rfl | decide +kernel)
    (case e40_TooMany_NoEntry => first | k_is | rfl | decide +kernel)
    (case e40_TooMany_There => first | k_is | rfl | decide +kernel)
    (case e40_TooMany_BadFacts => first | k_is | rfl | decide +kernel)
    (case e40_TooMany_NoAnswer => first | k_is | rfl | decide +kernel)
    (case e40_TooMany_NoHouse => first | k_is | rfl | decide +kernel)
    (case e40_TooMany_BadChange => first | k_is | rfl | decide +kernel)
    (case e40_TooMany_NoAsk => first | k_is | rfl | decide +kernel)
    (case e40_TooMany_Broken => first | k_is | rfl | decide +kernel)
    (case e40_TooMany_Hopeless => first | k_is | rfl | decide +kernel)
    (case e40_TooMany_NoStep => first | k_is | rfl | decide +kernel)
    (case e40_TooMany_Late => first | k_is | rfl | decide +kernel)
    (case e40_TooMany_Nothing => first | k_is | rfl | decide +kernel)
    (case e40_TooMany_NoDeed => first | k_is | rfl | decide +kernel)
    (case e40_TooMany_NoText => first | k_is | rfl | decide +kernel)
    (case e40_TooMany_NoCommand => first | k_is | rfl | decide +kernel)
    (case e40_BadFacts_Wrong => first | k_is | rfl | decide +kernel)
    (case e40_BadFacts_NoName => first | k_is | rfl | decide +kernel)
    (case e40_BadFacts_Full => first | k_is | rfl | decide +kernel)
    (case e40_BadFacts_NoEntry => first | k_is | rfl | decide +kernel)
    (case e40_BadFacts_There => first | k_is | rfl | decide +kernel)
    (case e40_BadFacts_TooMany => first | k_is | rfl | decide +kernel)
    (case e40_BadFacts_NoAnswer => first | k_is | rfl | decide +kernel)
    (case e40_BadFacts_NoHouse => first | k_is | rfl | decide +kernel)
    (case e40_BadFacts_BadChange => first | k_is | rfl | decide +kernel)
    (case e40_BadFacts_NoAsk => first | k_is | rfl | decide +kernel)
    (case e40_BadFacts_Broken => first | k_is | rfl | decide +kernel)
    (case e40_BadFacts_Hopeless => first | k_is | rfl | decide +kernel)
    (case e40_BadFacts_NoStep => first | k_is | rfl | decide +kernel)
    (case e40_BadFacts_Late => first | k_is | rfl | decide +kernel)
    (case e40_BadFacts_Nothing => first | k_is | rfl | decide +kernel)
    (case e40_BadFacts_NoDeed => first | k_is | rfl | decide +kernel)
    (case e40_BadFacts_NoText => first | k_is | rfl | decide +kernel)
    (case e40_BadFacts_NoCommand => first | k_is | rfl | decide +kernel)
    (case e40_NoAnswer_Wrong => first | k_is | rfl | decide +kernel)
    (case e40_NoAnswer_NoName => first | k_is | rfl | decide +kernel)
    (case e40_NoAnswer_Full => first | k_is | rfl | decide +kernel)
    (case e40_NoAnswer_NoEntry => first | k_is | rfl | decide +kernel)
    (case e40_NoAnswer_There => first | k_is | rfl | decide +kernel)
    (case e40_NoAnswer_TooMany => first | k_is | rfl | decide +kernel)
    (case e40_NoAnswer_BadFacts => first | k_is | rfl | decide +kernel)
    (case e40_NoAnswer_NoHouse => first | k_is | rfl | decide +kernel)
    (case e40_NoAnswer_BadChange => first | k_is | rfl | decide +kernel)
    (case e40_NoAnswer_NoAsk => first | k_is | rfl | decide +kernel)
    (case e40_NoAnswer_Broken => first | k_is | rfl | decide +kernel)
    (case e40_NoAnswer_Hopeless => first | k_is | rfl | decide +kernel)
    (case e40_NoAnswer_NoStep => first | k_is | rfl | decide +kernel)
    (case e40_NoAnswer_Late => first | k_is | rfl | decide +kernel)
    (case e40_NoAnswer_Nothing => first | k_is | rfl | decide +kernel)
    (case e40_NoAnswer_NoDeed => first | k_is | rfl | decide +kernel)
    (case e40_NoAnswer_NoText => first | k_is | rfl | decide +kernel)
    (case e40_NoAnswer_NoCommand => first | k_is | rfl | decide +kernel)
    (case e40_NoHouse_Wrong => first | k_is | rfl | decide +kernel)
    (case e40_NoHouse_NoName => first | k_is | rfl | decide +kernel)
    (case e40_NoHouse_Full => first | k_is | rfl | decide +kernel)
    (case e40_NoHouse_NoEntry => first | k_is | rfl | decide +kernel)
    (case e40_NoHouse_There => first | k_is | rfl | decide +kernel)
    (case e40_NoHouse_TooMany => first | k_is | rfl | decide +kernel)
    (case e40_NoHouse_BadFacts => first | k_is | rfl | decide +kernel)
    (case e40_NoHouse_NoAnswer => first | k_is | rfl | decide +kernel)
    (case e40_NoHouse_BadChange => first | k_is | rfl | decide +kernel)
    (case e40_NoHouse_NoAsk => first | k_is | rfl | decide +kernel)
    (case e40_NoHouse_Broken => first | k_is | rfl | decide +kernel)
    (case e40_NoHouse_Hopeless => first | k_is | rfl | decide +kernel)
    (case e40_NoHouse_NoStep => first | k_is | rfl | decide +kernel)
    (case e40_NoHouse_Late => first | k_is | rfl | decide +kernel)
    (case e40_NoHouse_Nothing => first | k_is | rfl | decide +kernel)
    (case e40_NoHouse_NoDeed => first | k_is | rfl | decide +kernel)
    (case e40_NoHouse_NoText => first | k_is | rfl | decide +kernel)
    (case e40_NoHouse_NoCommand => first | k_is | rfl | decide +kernel)
    (case e40_BadChange_Wrong => first | k_is | rfl | decide +kernel)
    (case e40_BadChange_NoName => first | k_is | rfl | decide +kernel)
    (case e40_BadChange_Full => first | k_is | rfl | decide +kernel)
    (case e40_BadChange_NoEntry => first | k_is | rfl | decide +kernel)
    (case e40_BadChange_There => first | k_is | rfl | decide +kernel)
    (case e40_BadChange_TooMany => first | k_is | rfl | decide +kernel)
    (case e40_BadChange_BadFacts => first | k_is | rfl | decide +kernel)
    (case e40_BadChange_NoAnswer => first | k_is | rfl | decide +kernel)
    (case e40_BadChange_NoHouse => first | k_is | rfl | decide +kernel)
    (case e40_BadChange_NoAsk => first | k_is | rfl | decide +kernel)
    (case e40_BadChange_Broken => first | k_is | rfl | decide +kernel)
    (case e40_BadChange_Hopeless => first | k_is | rfl | decide +kernel)
    (case e40_BadChange_NoStep => first | k_is | rfl | decide +kernel)
    (case e40_BadChange_Late => first | k_is | rfl | decide +kernel)
    (case e40_BadChange_Nothing => first | k_is | rfl | decide +kernel)
    (case e40_BadChange_NoDeed => first | k_is | rfl | decide +kernel)
    (case e40_BadChange_NoText => first | k_is | rfl | decide +kernel)
    (case e40_BadChange_NoCommand => first | k_is | rfl | decide +kernel)
    (case e40_NoAsk_Wrong => first | k_is | rfl | decide +kernel)
    (case e40_NoAsk_NoName => first | k_is | rfl | decide +kernel)
    (case e40_NoAsk_Full => first | k_is | rfl | decide +kernel)
    (case e40_NoAsk_NoEntry => first | k_is | rfl | decide +kernel)
    (case e40_NoAsk_There => first | k_is | rfl | decide +kernel)
    (case e40_NoAsk_TooMany => first | k_is | rfl | decide +kernel)
    (case e40_NoAsk_BadFacts => first | k_is | rfl | decide +kernel)
    (case e40_NoAsk_NoAnswer => first | k_is | rfl | decide +kernel)
    (case e40_NoAsk_NoHouse => first | k_is | rfl | decide +kernel)
    (case e40_NoAsk_BadChange => first | k_is | rfl | decide +kernel)
    (case e40_NoAsk_Broken => first | k_is | rfl | decide +kernel)
    (case e40_NoAsk_Hopeless => first | k_is | rfl | decide +kernel)
    (case e40_NoAsk_NoStep => first | k_is | rfl | decide +kernel)
    (case e40_NoAsk_Late => first | k_is | rfl | decide +kernel)
    (case e40_NoAsk_Nothing => first | k_is | rfl | decide +kernel)
    (case e40_NoAsk_NoDeed => first | k_is | rfl | decide +kernel)
    (case e40_NoAsk_NoText => first | k_is | rfl | decide +kernel)
    (case e40_NoAsk_NoCommand => first | k_is | rfl | decide +kernel)
    (case e40_Broken_Wrong => first | k_is | rfl | decide +kernel)
    (case e40_Broken_NoName => first | k_is | rfl | decide +kernel)
    (case e40_Broken_Full => first | k_is | rfl | decide +kernel)
    (case e40_Broken_NoEntry => first | k_is | rfl | decide +kernel)
    (case e40_Broken_There => first | k_is | rfl | decide +kernel)
    (case e40_Broken_TooMany => first | k_is | rfl | decide +kernel)
    (case e40_Broken_BadFacts => first | k_is | rfl | decide +kernel)
    (case e40_Broken_NoAnswer => first | k_is | rfl | decide +kernel)
    (case e40_Broken_NoHouse => first | k_is | rfl | decide +kernel)
    (case e40_Broken_BadChange => first | k_is | rfl | decide +kernel)
    (case e40_Broken_NoAsk => first | k_is | rfl | decide +kernel)
    (case e40_Broken_Hopeless => first | k_is | rfl | decide +kernel)
    (case e40_Broken_NoStep => first | k_is | rfl | decide +kernel)
    (case e40_Broken_Late => first | k_is | rfl | decide +kernel)
    (case e40_Broken_Nothing => first | k_is | rfl | decide +kernel)
    (case e40_Broken_NoDeed => first | k_is | rfl | decide +kernel)
    (case e40_Broken_NoText => first | k_is | rfl | decide +kernel)
    (case e40_Broken_NoCommand => first | k_is | rfl | decide +kernel)
    (case e40_Hopeless_Wrong => first | k_is | rfl | decide +kernel)
    (case e40_Hopeless_NoName => first | k_is | rfl | decide +kernel)
    (case e40_Hopeless_Full => first | k_is | rfl | decide +kernel)
    (case e40_Hopeless_NoEntry => first | k_is | rfl | decide +kernel)
    (case e40_Hopeless_There => first | k_is | rfl | decide +kernel)
    (case e40_Hopeless_TooMany => first | k_is | rfl | decide +kernel)
    (case e40_Hopeless_BadFacts => first | k_is | rfl | decide +kernel)
    (case e40_Hopeless_NoAnswer => first | k_is | rfl | decide +kernel)
    (case e40_Hopeless_NoHouse => first | k_is | rfl | decide +kernel)
    (case e40_Hopeless_BadChange => first | k_is | rfl | decide +kernel)
    (case e40_Hopeless_NoAsk => first | k_is | rfl | decide +kernel)
    (case e40_Hopeless_Broken => first | k_is | rfl | decide +kernel)
    (case e40_Hopeless_NoStep => first | k_is | rfl | decide +kernel)
    (case e40_Hopeless_Late => first | k_is | rfl | decide +kernel)
    (case e40_Hopeless_Nothing => first | k_is | rfl | decide +kernel)
    (case e40_Hopeless_NoDeed => first | k_is | rfl | decide +kernel)
    (case e40_Hopeless_NoText => first | k_is | rfl | decide +kernel)
    (case e40_Hopeless_NoCommand => first | k_is | rfl | decide +kernel)
    (case e40_NoStep_Wrong => first | k_is | rfl | decide +kernel)
    (case e40_NoStep_NoName => first | k_is | rfl | decide +kernel)
    (case e40_NoStep_Full => first | k_is | rfl | decide +kernel)
    (case e40_NoStep_NoEntry => first | k_is | rfl | decide +kernel)
    (case e40_NoStep_There => first | k_is | rfl | decide +kernel)
    (case e40_NoStep_TooMany => first | k_is | rfl | decide +kernel)
    (case e40_NoStep_BadFacts => first | k_is | rfl | decide +kernel)
    (case e40_NoStep_NoAnswer => first | k_is | rfl | decide +kernel)
    (case e40_NoStep_NoHouse => first | k_is | rfl | decide +kernel)
    (case e40_NoStep_BadChange => first | k_is | rfl | decide +kernel)
    (case e40_NoStep_NoAsk => first | k_is | rfl | decide +kernel)
    (case e40_NoStep_Broken => first | k_is | rfl | decide +kernel)
    (case e40_NoStep_Hopeless => first | k_is | rfl | decide +kernel)
    (case e40_NoStep_Late => first | k_is | rfl | decide +kernel)
    (case e40_NoStep_Nothing => first | k_is | rfl | decide +kernel)
    (case e40_NoStep_NoDeed => first | k_is | rfl | decide +kernel)
    (case e40_NoStep_NoText => first | k_is | rfl | decide +kernel)
    (case e40_NoStep_NoCommand => first | k_is | rfl | decide +kernel)
    (case e40_Late_Wrong => first | k_is | rfl | decide +kernel)
    (case e40_Late_NoName => first | k_is | rfl | decide +kernel)
    (case e40_Late_Full => first | k_is | rfl | decide +kernel)
    (case e40_Late_NoEntry => first | k_is | rfl | decide +kernel)
    (case e40_Late_There => first | k_is | rfl | decide +kernel)
    (case e40_Late_TooMany => first | k_is | rfl | decide +kernel)
    (case e40_Late_BadFacts => first | k_is | rfl | decide +kernel)
    (case e40_Late_NoAnswer => first | k_is | rfl | decide +kernel)
    (case e40_Late_NoHouse => first | k_is | rfl | decide +kernel)
    (case e40_Late_BadChange => first | k_is | rfl | decide +kernel)
    (case e40_Late_NoAsk => first | k_is | rfl | decide +kernel)
    (case e40_Late_Broken => first | k_is | rfl | decide +kernel)
    (case e40_Late_Hopeless => first | k_is | rfl | decide +kernel)
    (case e40_Late_NoStep => first | k_is | rfl | decide +kernel)
    (case e40_Late_Nothing => first | k_is | rfl | decide +kernel)
    (case e40_Late_NoDeed => first | k_is | rfl | decide +kernel)
    (case e40_Late_NoText => first | k_is | rfl | decide +kernel)
    (case e40_Late_NoCommand => first | k_is | rfl | decide +kernel)
    (case e40_Nothing_Wrong => first | k_is | rfl | decide +kernel)
    (case e40_Nothing_NoName => first | k_is | rfl | decide +kernel)
    (case e40_Nothing_Full => first | k_is | rfl | decide +kernel)
    (case e40_Nothing_NoEntry => first | k_is | rfl | decide +kernel)
    (case e40_Nothing_There => first | k_is | rfl | decide +kernel)
    (case e40_Nothing_TooMany => first | k_is | rfl | decide +kernel)
    (case e40_Nothing_BadFacts => first | k_is | rfl | decide +kernel)
    (case e40_Nothing_NoAnswer => first | k_is | rfl | decide +kernel)
    (case e40_Nothing_NoHouse => first | k_is | rfl | decide +kernel)
    (case e40_Nothing_BadChange => first | k_is | rfl | decide +kernel)
    (case e40_Nothing_NoAsk => first | k_is | rfl | decide +kernel)
    (case e40_Nothing_Broken => first | k_is | rfl | decide +kernel)
    (case e40_Nothing_Hopeless => first | k_is | rfl | decide +kernel)
    (case e40_Nothing_NoStep => first | k_is | rfl | decide +kernel)
    (case e40_Nothing_Late => first | k_is | rfl | decide +kernel)
    (case e40_Nothing_NoDeed => first | k_is | rfl | decide +kernel)
    (case e40_Nothing_NoText => first | k_is | rfl | decide +kernel)
    (case e40_Nothing_NoCommand => first | k_is | rfl | decide +kernel)
    (case e40_NoDeed_Wrong => first | k_is | rfl | decide +kernel)
    (case e40_NoDeed_NoName => first | k_is | rfl | decide +kernel)
    (case e40_NoDeed_Full => first | k_is | rfl | decide +kernel)
    (case e40_NoDeed_NoEntry => first | k_is | rfl | decide +kernel)
    (case e40_NoDeed_There => first | k_is | rfl | decide +kernel)
    (case e40_NoDeed_TooMany => first | k_is | rfl | decide +kernel)
    (case e40_NoDeed_BadFacts => first | k_is | rfl | decide +kernel)
    (case e40_NoDeed_NoAnswer => first | k_is | rfl | decide +kernel)
    (case e40_NoDeed_NoHouse => first | k_is | rfl | decide +kernel)
    (case e40_NoDeed_BadChange => first | k_is | rfl | decide +kernel)
    (case e40_NoDeed_NoAsk => first | k_is | rfl | decide +kernel)
    (case e40_NoDeed_Broken => first | k_is | rfl | decide +kernel)
    (case e40_NoDeed_Hopeless => first | k_is | rfl | decide +kernel)
    (case e40_NoDeed_NoStep => first | k_is | rfl | decide +kernel)
    (case e40_NoDeed_Late => first | k_is | rfl | decide +kernel)
    (case e40_NoDeed_Nothing => first | k_is | rfl | decide +kernel)
    (case e40_NoDeed_NoText => first | k_is | rfl | decide +kernel)
    (case e40_NoDeed_NoCommand => first | k_is | rfl | decide +kernel)
    (case e40_NoText_Wrong => first | k_is | rfl | decide +kernel)
    (case e40_NoText_NoName => first | k_is | rfl | decide +kernel)
    (case e40_NoText_Full => first | k_is | rfl | decide +kernel)
    (case e40_NoText_NoEntry => first | k_is | rfl | decide +kernel)
    (case e40_NoText_There => first | k_is | rfl | decide +kernel)
    (case e40_NoText_TooMany => first | k_is | rfl | decide +kernel)
    (case e40_NoText_BadFacts => first | k_is | rfl | decide +kernel)
    (case e40_NoText_NoAnswer => first | k_is | rfl | decide +kernel)
    (case e40_NoText_NoHouse => first | k_is | rfl | decide +kernel)
    (case e40_NoText_BadChange => first | k_is | rfl | decide +kernel)
    (case e40_NoText_NoAsk => first | k_is | rfl | decide +kernel)
    (case e40_NoText_Broken => first | k_is | rfl | decide +kernel)
    (case e40_NoText_Hopeless => first | k_is | rfl | decide +kernel)
    (case e40_NoText_NoStep => first | k_is | rfl | decide +kernel)
    (case e40_NoText_Late => first | k_is | rfl | decide +kernel)
    (case e40_NoText_Nothing => first | k_is | rfl | decide +kernel)
    (case e40_NoText_NoDeed => first | k_is | rfl | decide +kernel)
    (case e40_NoText_NoCommand => first | k_is | rfl | decide +kernel)
    (case e40_NoCommand_Wrong => first | k_is | rfl | decide +kernel)
    (case e40_NoCommand_NoName => first | k_is | rfl | decide +kernel)
    (case e40_NoCommand_Full => first | k_is | rfl | decide +kernel)
    (case e40_NoCommand_NoEntry => first | k_is | rfl | decide +kernel)
    (case e40_NoCommand_There => first | k_is | rfl | decide +kernel)
    (case e40_NoCommand_TooMany => first | k_is | rfl | decide +kernel)
    (case e40_NoCommand_BadFacts => first | k_is | rfl | decide +kernel)
    (case e40_NoCommand_NoAnswer => first | k_is | rfl | decide +kernel)
    (case e40_NoCommand_NoHouse => first | k_is | rfl | decide +kernel)
    (case e40_NoCommand_BadChange => first | k_is | rfl | decide +kernel)
    (case e40_NoCommand_NoAsk => first | k_is | rfl | decide +kernel)
    (case e40_NoCommand_Broken => first | k_is | rfl | decide +kernel)
    (case e40_NoCommand_Hopeless => first | k_is | rfl | decide +kernel)
    (case e40_NoCommand_NoStep => first | k_is | rfl | decide +kernel)
    (case e40_NoCommand_Late => first | k_is | rfl | decide +kernel)
    (case e40_NoCommand_Nothing => first | k_is | rfl | decide +kernel)
    (case e40_NoCommand_NoDeed => first | k_is | rfl | decide +kernel)
    (case e40_NoCommand_NoText => first | k_is | rfl | decide +kernel)
    (case e41_Wrong => first | k_is | rfl | decide +kernel)
    (case e42_Wrong => first | k_is | rfl | decide +kernel)
    (case e41_NoName => first | k_is | rfl | decide +kernel)
    (case e42_NoName => first | k_is | rfl | decide +kernel)
    (case e41_Full => first | k_is | rfl | decide +kernel)
    (case e42_Full => first | k_is | rfl | decide +kernel)
    (case e41_NoEntry => first | k_is | rfl | decide +kernel)
    (case e42_NoEntry => first | k_is | rfl | decide +kernel)
    (case e41_There => first | k_is | rfl | decide +kernel)
    (case e42_There => first | k_is | rfl | decide +kernel)
    (case e41_TooMany => first | k_is | rfl | decide +kernel)
    (case e42_TooMany => first | k_is | rfl | decide +kernel)
    (case e41_BadFacts => first | k_is | rfl | decide +kernel)
    (case e42_BadFacts => first | k_is | rfl | decide +kernel)
    (case e41_NoAnswer => first | k_is | rfl | decide +kernel)
    (case e42_NoAnswer => first | k_is | rfl | decide +kernel)
    (case e41_NoHouse => first | k_is | rfl | decide +kernel)
    (case e42_NoHouse => first | k_is | rfl | decide +kernel)
    (case e41_BadChange => first | k_is | rfl | decide +kernel)
    (case e42_BadChange => first | k_is | rfl | decide +kernel)
    (case e41_NoAsk => first | k_is | rfl | decide +kernel)
    (case e42_NoAsk => first | k_is | rfl | decide +kernel)
    (case e41_Broken => first | k_is | rfl | decide +kernel)
    (case e42_Broken => first | k_is | rfl | decide +kernel)
    (case e41_Hopeless => first | k_is | rfl | decide +kernel)
    (case e42_Hopeless => first | k_is | rfl | decide +kernel)
    (case e41_NoStep => first | k_is | rfl | decide +kernel)
    (case e42_NoStep => first | k_is | rfl | decide +kernel)
    (case e41_Late => first | k_is | rfl | decide +kernel)
    (case e42_Late => first | k_is | rfl | decide +kernel)
    (case e41_Nothing => first | k_is | rfl | decide +kernel)
    (case e42_Nothing => first | k_is | rfl | decide +kernel)
    (case e41_NoDeed => first | k_is | rfl | decide +kernel)
    (case e42_NoDeed => first | k_is | rfl | decide +kernel)
    (case e41_NoText => first | k_is | rfl | decide +kernel)
    (case e42_NoText => first | k_is | rfl | decide +kernel)
    (case e41_NoCommand => first | k_is | rfl | decide +kernel)
    (case e42_NoCommand => first | k_is | rfl | decide +kernel)
    (case z_ValueError => k_is)
