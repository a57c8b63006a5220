import PyProof.Rows.All
import Wide.All
import OpenK.AllK
import Wide.FinOn
import HandS.ForMost
import HandS.Ends
import HandS.TupAny
import HandS.TupMul
import HandS.Deep
import HandS.Flow
import HandS.Walk
import HandS.Exc
import HandS.IsInst
import HandS.Conv
import HandS.HotCalls
import HandS.More
import KE.KOpsOwn
import HandS.Small
import HandS.TupLen
import HandS.DictComp
import KE.SortData
import KE.KDictPairs
import HandS.DictEq
import HandS.OwnEq
import PyProof.AssignAttr
import HandS.TupSets
import PyProof.WalksMore
import PyProof.FactsAll.subtypes_4
import HandS.Zip
import HandS.MakeKwOnly
import HandS.Property
import HandS.Star
import HandS.Style
import HandS.DictTup
import PyProof.SumAny
import PyProof.Rows.SumAny
import HandS.Defaults
import KE.SortKeyHeap
import KE.KExcSuper
import HandS.ExcField
import HandS.ExcIs
import HandS.StrMore
import HandS.Replace
import PyProof.FactsAll.str_4
import PyProof.FactsAll.str_7
import PySem.Challenge.RW_listnames_k15_least_labels
set_option Elab.async false
set_option linter.all false
set_option maxRecDepth 100000
/-! GL: contracts of defs that are called where no repr is under way (guards = some []): FnG, its calls, repr, the law's end. -/
namespace Gd
open PySem PySem.Spec PyProof.Rows L2

/-- a def's promise, wherever no guard stands around -/
structure FnG (P : Program) (w : World) (K : PySem.W.Frag) (mg : Str → Option Value) (base : Heap) (CX : CXT)
    (k : Nat) (f : Addr) (fd : FuncData) (ps : List Str) (sp : Sp) : Prop where
  lenG : ∀ vs H Q E, sp vs H Q E → vs.length = ps.length
  runG : ∀ (A : Around) (outer : List Env) (s : Shared) (H : Hp) (args : Args) (us : List Value) (vs : List V) (Q : VK) (E : XK),
    A.guards = some [] → Room k A → Env0 P w K mg base A outer s H → BindsTo s fd args (ps.zip us) → Vals vs us → sp vs H Q E →
    codeAny (model P w) A (.call (.ref f) args) (CR CX outer P w H s Q E) s

section
variable {w : World} {P : Program} {base : Heap} {mg : Str → Option Value} {K : PySem.W.Frag} {CX : CXT} {k : Nat} {f : Addr}
  {fd : FuncData} {ps : List Str} {sp : Sp}
theorem FnG.of (F : FnOk P w K mg base CX k f fd ps sp) : FnG P w K mg base CX k f fd ps sp :=
  ⟨F.len, fun A o s H a us vs Q E _ => F.run A o s H a us vs Q E⟩
theorem FnG.mono {j : Nat} (F : FnG P w K mg base CX j f fd ps sp) (h : j ≤ k) : FnG P w K mg base CX k f fd ps sp :=
  ⟨F.lenG, fun A o s H a us vs Q E g hr => F.runG A o s H a us vs Q E g (hr.mono h)⟩

/-- from a def's body to its promise -/
theorem fn_ofG {name qual : Str} {params : Arguments} {body : List Stmt} {scope : Scope} {dV kV doc pm cdv ct oc : Value}
    {an od : Option Addr} {osl : Array (Option Value)} {N : List Str}
    (lk : K.lookup f = some ⟨oc, od, .func (PySem.W.fnOf name qual params body scope dV kV doc pm an cdv ct), osl⟩)
    (hcd : PySem.W.codeIn K cdv qual = true) (S : FnScope N ps scope) (ln : ∀ vs H Q E, sp vs H Q E → vs.length = ps.length)
    (hb0 : ∀ (A : Around) (outer : List Env) (s : Shared) (H : Hp) (vs : List V) (Q : VK) (E : XK), A.guards = some [] →
      Room k (A.deeper (envOfC qual scope s.heap.objs.size f cdv)) → sp vs H Q E →
      ∃ t, PSs (cxOf CX P w K mg base N qual scope f cdv A outer s H E) body t ∧
        t { nx := fun _ H' => Q .non H', rt := Q } (start N vs) H) :
    FnG P w K mg base CX (k + 1) f (PySem.W.fnOf name qual params body scope dV kV doc pm an cdv ct) ps sp := by
  refine ⟨ln, fun A outer s H args us vs Q E gA room e0 bind rel hsp => ?_⟩
  have hlen := ln _ _ _ _ hsp
  have kin : K.In s.heap := e0.mod.kin.keeps fun b o e => (e0.bs b o e).1
  have nolim : s.heap.NoLimit := e0.mod.nolimit.keeps fun b o e => (e0.bs b o e).1
  have kinds : ∀ y ∈ ps.zip us, scope.names.lookup y.1 = some .local ∨
      (scope.names.lookup y.1 = some .cell ∧ ((cellsFrom (s.heap.objs.size + 1) scope.names []).lookup y.1).isSome = true) := by
    rintro ⟨n, v⟩ hy
    rcases S.par n (List.of_mem_zip hy).1 with q | q
    · left; exact q
    · right; exact ⟨q, PySem.W.cellsFrom_some _ _ _ (.inl q)⟩
  refine codeAny_call_function room.depth (kin _ _ lk) rfl S.co S.gen rfl (PySem.W.codeRec_of kin hcd) (bind _ _ _ _ ?_)
  refine wpAny_newFunctionEnv_cells S.kind kinds fun env he s1 x1 => ?_
  subst he
  refine ⟨nolim.keeps x1.toInCall.keep, codeAny_func ?_⟩
  obtain ⟨t, ht, hq⟩ := hb0 A outer s H vs Q E gA (room.deeper _) hsp
  have I : Inv (cxOf CX P w K mg base N qual scope f cdv A outer s H E) [] (start N vs) H s1 :=
    inv_start S room.hd e0 hlen rel x1
  refine wpAny_mono (ht.run [] s1 (start N vs) H _ I hq) (fun fl s' hs => ?_) fun e s' hs => hs
  have done : ∀ {σ' : L2.St} {H' : Hp} {v : V} {u : Value},
      Inv (cxOf CX P w K mg base N qual scope f cdv A outer s H E) [] σ' H' s' → RelV v u → Q v H' → CE outer P w H s Q u s' :=
    fun {σ' H' v u} J rv q => ⟨v, H', J.os, J.bare, J.base, J.hok, rv, q⟩
  cases fl with
  | ret u => exact let ⟨v, σ', H', J, rv, q⟩ := hs; done J rv q
  | next => exact let ⟨σ', H', J, q⟩ := hs; done (v := V.non) (u := Value.none) J rfl q
  | brk => exact let ⟨_, _, _, q⟩ := hs; False.elim q
  | cont => exact let ⟨_, _, _, q⟩ := hs; False.elim q
end

section
variable {w : World} {P : Program} {base : Heap} {mg : Str → Option Value} {K : PySem.W.Frag}
/-- a def that lets no exception out -/
theorem okG {x qual : Str} {st : Stmt} {f : Addr} {fd : FuncData} {N ps : List Str} {k : Nat} {sp : Sp} (F : Fun K x qual st f fd)
    (S : FnScope N ps (defScope st)) (ln : ∀ vs H Q E, sp vs H Q E → vs.length = ps.length)
    (hb0 : ∀ (cdv : Value) (A : Around) (outer : List Env) (s : Shared) (H : Hp) (vs : List V) (Q : VK) (E : XK), A.guards = some [] →
      Room k (A.deeper (envOfC qual (defScope st) s.heap.objs.size f cdv)) → sp vs H Q E →
      ∃ t, PSs (cxOf CX0 P w K mg base N qual (defScope st) f cdv A outer s H E).nox (defBody st) t ∧
        t { nx := fun _ H' => Q .non H', rt := Q } (start N vs) H) : FnG P w K mg base CX0 (k + 1) f fd ps sp := by
  obtain ⟨oc, od, kV, doc, pm, an, cdv, ct, osl, rfl, lk, hcd⟩ := F.ex
  refine fn_ofG lk hcd S ln fun A outer s H vs Q E gA hr hsp => ?_
  obtain ⟨t, h, q⟩ := hb0 cdv A outer s H vs Q E gA hr hsp
  exact ⟨t, h.nox, q⟩
end

section
variable {X : Cx} {CX : CXT} {k : Nat} {f : Addr} {fd : FuncData} {ps : List Str} {sp : Sp} {dvs : List V} {ds : List Value} {E : XK}
  {x : Str} {p pos : Pos} {e : Expr} {es : List Expr} {t : TA}
theorem run_fnG {pins : List (Addr × Obj)} {σ : L2.St} {H : Hp} {s : Shared} {Q : VK} {us : List Value} {vs : List V}
    (F : FnG X.prog X.w X.K X.mg X.base CX k f fd ps sp) (gX : X.A.guards = some []) (hr : Room k X.A) (hb : Binds X.K fd ps ds)
    (hd : Vals dvs ds) (hx : Passes CX X E) (I : Inv X pins σ H s) (r : Vals vs us) (h : sp (vs ++ dvs) H Q E) :
    wpAny (model X.prog X.w) X.A (call (.ref f) us) (EP X pins σ Q) X.xe s := by
  have rr : Vals (vs ++ dvs) (us ++ ds) := r.append hd
  have len : (us ++ ds).length = ps.length := rr.length ▸ F.lenG _ _ _ _ h
  have run := F.runG X.A X.stack s H ⟨us, []⟩ (us ++ ds) (vs ++ dvs) Q E gX hr I.env0 (hb s us I.kIn len) rr h
  refine wpAny_call (codeAny_mono run fun res s' hq => ?_)
  match res, hq with
  | .error e, hq => exact hx pins σ H s e s' I hq
  | .ok (.ret u), hq => exact I.after hq
  | .ok .next, hq => exact False.elim hq
  | .ok .brk, hq => exact False.elim hq
  | .ok .cont, hq => exact False.elim hq
theorem pe_callG (F : FnG X.prog X.w X.K X.mg X.base CX k f fd ps sp) (gX : X.A.guards = some []) (hr : Room k X.A) (hg : Gl X x)
    (hm : X.mg x = some (.ref f)) (hk : PySem.W.keepIn X.K (.ref f) = true) (hb : Binds X.K fd ps ds) (hd : Vals dvs ds) (hx : Passes CX X E)
    (ha : PA X (e :: es) t) (hdb : (x == ("__debug__" : Str)) = false := by decide)
    (he : starEach (e :: es) X.env = (false, eval e X.env) :: starEach es X.env := by rfl)
    (hpl : (backTo pos (starEach es X.env)).any (·.1) = false := by rfl) :
    PE X (.Call (.Name x p) (e :: es) [] pos) (tCall sp dvs E t) := by
  refine ⟨fun pins s σ H Q I h => wpAny_Call_Name_kw (ld_glob I hg hm ?_ hdb)⟩
  refine PySem.W.callWith_K (h₀ := X.base) I.ok.mod.kin hk (thn (ha.run pos pins s σ H _ I h) ?_) he hpl
  intro us s1 h1
  obtain ⟨vs, H1, I1, r1, q1⟩ := h1
  exact ⟨I1.kIn, run_fnG F gX hr hb hd hx I1 r1 q1⟩

/-- repr(x), x data -/
def rRepr (K : PySem.W.Frag) : List V → Hp → VK → Prop := fun xs H Q =>
  ∃ x d, xs = [x] ∧ Dp K H x d ∧ d.showable = true ∧ d.hasDict = false ∧ d.depth ≤ 64 ∧ d.shown.length ≤ sizeLine ∧ Q (.str d.shown) H
theorem cr_repr (gX : X.A.guards = some []) (hu : X.A.units + 66 < cLine) : CallR X (.builtin "repr") (rRepr X.K) := by
  intro pins s σ H xs us Q I r h
  obtain ⟨x, d, rfl, hd, hs, hn, hp, hz, q⟩ := h
  obtain ⟨u, rfl, ru⟩ := vals1 r
  cases hd with
  | non => cases ru; exact PySem.P.repr_of_none ⟨.str _, H, I.tok _, ⟨_, rfl⟩, q⟩
  | bl b => cases ru; exact PySem.P.repr_of_bool ⟨.str _, H, I.tok _, ⟨_, rfl⟩, q⟩
  | int i =>
    obtain ⟨t, rfl⟩ := ru
    exact PySem.P.repr_of_int (of_decide_eq_true hs) ⟨.str _, H, I.tok _, ⟨_, rfl⟩, q⟩
  | str x =>
    obtain ⟨t, rfl⟩ := ru
    exact PySem.P.repr_of_str ⟨.str _, H, I.tok _, ⟨_, rfl⟩, q⟩ hz
  | lst a b =>
    obtain ⟨as, rd⟩ := Dp.reads I _ _ _ (Dp.lst a b) ru
    cases ru
    refine repr_of_reads' rd hs (fun e => by rw [hn] at e; cases e) gX (by omega) (fun _ _ e => e) (fun h' u tk kept => ?_) hz
    exact ⟨.str _, H, I.kept (t' := tk) kept, ⟨_, rfl⟩, q⟩
  | tup a b =>
    obtain ⟨as, rd⟩ := Dp.reads I _ _ _ (Dp.tup a b) ru
    cases ru
    refine repr_of_reads' rd hs (fun e => by rw [hn] at e; cases e) gX (by omega) (fun _ _ e => e) (fun h' u tk kept => ?_) hz
    exact ⟨.str _, H, I.kept (t' := tk) kept, ⟨_, rfl⟩, q⟩
end
end Gd

/-! GE: the law's end over FnG. -/
namespace Gd
open PySem PySem.Spec PyProof.Rows L2

section
variable {P : Program} {w : World} {K : PySem.W.Frag} {mg mb : Str → Option Value} {CX : CXT} {k : Nat} {fa a : Addr} {fd : FuncData}
  {x : Str} {sp : Sp} {s1 : Shared} {vs : List Value} {ns : List Int}
/-- the call of the law over an abstract heap that tracks at most the script -/
theorem law_at (H : Hp) (KX : K.In s1.heap) (hns : s1.heap.Ns mainGlobals mg) (hb : s1.heap.Ns builtinsNs mb)
    (hbb : ∀ x : Str, x ≠ "__name__" → mb x = bootBuiltins x) (hlim : s1.heap.NoLimit) (hg : s1.gens = #[])
    (ha : s1.heap.get? a = some { cls := .type "list", data := .seq vs.toArray }) (hr : Room k callerA)
    (F : ∀ base : Heap, K.In base → base.Ns mainGlobals mg → FnG P w K mg base CX k fa fd [x] sp)
    (hbind : ∀ (s : Shared) (u : Value), BindsTo s fd ⟨[u], []⟩ [(x, u)])
    (hCX : ∀ H e s', CX [] H s1 (fun _ _ _ => False) e s' → False)
    (hO : Only H) (hsp : sp [.ref a] H (fun v _ => v = .bl true) fun _ _ _ => False) (hok : HOk P w H s1.heap)
    (only : ∀ b, H b ≠ none → b = a) (offK : H a ≠ none → K.lookup a = none) :
    codeAny (model P w) callerA (.call (.ref fa) ⟨[.ref a], []⟩)
      (fun r s' => r = .ok (.ret (.bool true)) ∧ OldK s1.heap s'.heap ∧ s'.os = s1.os ∧ AllBare s'.gens) s1 := by
  have dictFree : ∀ (b : Addr) (o : Obj) (es : Array DictEntry) (ep : Nat), s1.heap.get? b = some o → o.data = .dict es ep → H b = none := by
    intro b o es ep e dd
    cases q : H b with
    | none => rfl
    | some u =>
      have eb : b = a := only b (by rw [q]; exact fun z => nomatch z)
      rw [eb, ha] at e
      obtain rfl := Option.some.inj e
      exact nomatch dd
  have ns' : ∀ (b : Addr) (m : Str → Option Value), s1.heap.Ns b m → (hidT s1.heap H).Ns b m := by
    rintro b m ⟨o, es, ep, e, dd, rest⟩
    exact ⟨o, es, ep, hidT_get e (dictFree b o es ep e dd), dd, rest⟩
  have kin' : K.In (hidT s1.heap H) := by
    intro b o e
    refine hidT_get (KX b o e) ?_
    cases q : H b with
    | none => rfl
    | some u =>
      have eb : b = a := only b (by rw [q]; exact fun z => nomatch z)
      subst eb
      rw [offK (by rw [q]; exact fun z => nomatch z)] at e
      exact nomatch e
  have modl : Mod K mg (hidT s1.heap H) := by
    obtain ⟨mc, l1, l2⟩ := hlim
    exact ⟨kin', ns' _ _ hns, ⟨mb, ns' _ _ hb, hbb⟩, ⟨mc, ns' _ _ l1, l2⟩⟩
  have nofr : ∀ b, b ∉ frs ([] : List Env) := fun b z => List.not_mem_nil z
  have env0 : Env0 P w K mg (hidT s1.heap H) callerA [] s1 H :=
    ⟨rfl, modl, fun b o e => of_hidT e, Nat.le_of_eq (hidT_size _ _), trivial, fun b z => absurd z (nofr b), hok, .of_eq hg⟩
  have run := (F _ kin' (ns' _ _ hns)).runG callerA [] s1 H ⟨[.ref a], []⟩ [.ref a] [.ref a] _ _ rfl hr env0 (hbind s1 (.ref a)) (.cons rfl .nil) hsp
  refine codeAny_mono run fun r s' h => ?_
  match r, h with
  | .error e, h => exact (hCX H e s' h).elim
  | .ok .next, h => exact False.elim h
  | .ok .brk, h => exact False.elim h
  | .ok .cont, h => exact False.elim h
  | .ok (.ret u), h =>
    obtain ⟨v, H', os, bare, un, hok', rv, q⟩ := h
    obtain rfl : v = .bl true := q
    obtain rfl : u = Value.bool true := rv
    refine ⟨rfl, OldK.of_keep fun b o e => ?_, os, bare⟩
    rcases hO b with z | ⟨ob, xs, z⟩
    · exact un.keep b o e z (nofr b) (fun m => List.not_mem_nil m)
    · have g1 := (hok b _ z).1
      have g2 := (hok' b _ (un.frzs b ob _ z)).1
      rw [e] at g1
      rw [Option.some.inj g1]
      exact g2
/-- the script as the abstract heap bears it -/
theorem law_callG (KX : K.In s1.heap) (hns : s1.heap.Ns mainGlobals mg) (hb : s1.heap.Ns builtinsNs mb)
    (hbb : ∀ x : Str, x ≠ "__name__" → mb x = bootBuiltins x) (hlim : s1.heap.NoLimit) (hg : s1.gens = #[])
    (ha : s1.heap.get? a = some { cls := .type "list", data := .seq vs.toArray }) (hi : IntsAre vs ns) (hl : ns.length ≤ sizeLine) (hr : Room k callerA)
    (F : ∀ base : Heap, K.In base → base.Ns mainGlobals mg → FnG P w K mg base CX k fa fd [x] sp)
    (hbind : ∀ (s : Shared) (u : Value), BindsTo s fd ⟨[u], []⟩ [(x, u)])
    (hsp : ∀ H : Hp, Only H → SqL K H a (ns.map V.int) → sp [.ref a] H (fun v _ => v = .bl true) fun _ _ _ => False)
    (hCX : ∀ H e s', CX [] H s1 (fun _ _ _ => False) e s' → False) :
    codeAny (model P w) callerA (.call (.ref fa) ⟨[.ref a], []⟩)
      (fun r s' => r = .ok (.ret (.bool true)) ∧ OldK s1.heap s'.heap ∧ s'.os = s1.os ∧ AllBare s'.gens) s1 := by
  have rv : Vals (ns.map V.int) vs := vals_ints hi
  cases hk : K.lookup a with
  | some o =>
    have e := KX a o hk
    rw [ha] at e
    obtain rfl := Option.some.inj e
    have hO : Only (fun _ => none) := fun _ => .inl rfl
    have hS : SqL K (fun _ => none) a (ns.map V.int) :=
      .inr ⟨_, vs.toArray, _, hk, rfl, rfl, rfl, by rw [List.size_toArray, hi.length]; exact hl, by simpa using rv⟩
    exact law_at (fun _ => none) KX hns hb hbb hlim hg ha hr F hbind hCX hO (hsp _ hO hS) (fun b u z => nomatch z)
      (fun b z => absurd rfl z) (fun z => absurd rfl z)
  | none =>
    let T : HO := .frz { cls := .type "list", data := .seq vs.toArray } (.lst (ns.map V.int))
    let H : Hp := fun b => if b = a then some T else none
    have at_ : ∀ b, b = a → H b = some T := fun b e => if_pos e
    have off : ∀ b, ¬ b = a → H b = none := fun b e => if_neg e
    have hO : Only H := fun b => by
      by_cases e : b = a
      · exact .inr ⟨_, _, at_ b e⟩
      · exact .inl (off b e)
    have hok : HOk P w H s1.heap := fun b u z => by
      by_cases e : b = a
      · rw [at_ b e] at z
        obtain rfl := Option.some.inj z
        subst e
        exact ⟨ha, by rw [List.length_map]; exact hl, vs, _, rv, ha⟩
      · rw [off b e] at z
        exact nomatch z
    refine law_at H KX hns hb hbb hlim hg ha hr F hbind hCX hO (hsp H hO (.inl (.inr ⟨_, at_ a rfl⟩))) hok (fun b z => ?_) fun _ => hk
    by_cases e : b = a
    · exact e
    · exact absurd (off b e) z
end
/-- the goal that the head leaves, from the law's promise -/
theorem walk_ofG {l : PySem.W.OpenLaw} {n k : Nat} {q : Program} {loose : List Str} {XP : (Str → Option Value) → Heap → Prop}
    {YP : World → Heap → Prop} {d : DefRec} {K : Params → PySem.W.Frag} {CX : World → CXT} {sp : World → Sp} {x : Str}
    (hn : l.most = some n) (hn2 : n ≤ sizeLine) (hdf : d.params.defaults = []) (hr : Room k callerA)
    (hY : ∀ (w : World) (h : Heap), YP w h → (K w.params).In h)
    (F : ∀ (w : World) (mg : Str → Option Value) (fa : Addr) (h : Heap), (K w.params).In h → h.Ns mainGlobals mg → mg d.name = some (.ref fa) →
      ∃ fd : FuncData, (∀ (s : Shared) (u : Value), BindsTo s fd ⟨[u], []⟩ [(x, u)]) ∧
        ∀ base : Heap, (K w.params).In base → base.Ns mainGlobals mg → FnG l.prog w (K w.params) mg base (CX w) k fa fd [x] (sp w))
    (hsp : ∀ (w : World) (H : Hp) (a : Addr) (ns : List Int), ns.length ≤ n → Only H → SqL (K w.params) H a (ns.map V.int) →
      sp w [.ref a] H (fun v _ => v = .bl true) fun _ _ _ => False)
    (hCX : ∀ (w : World) (H : Hp) (s : Shared) (e : Value) (s' : Shared), CX w [] H s (fun _ _ _ => False) e s' → False) :
    PySem.W.WalkO q loose XP YP l.row.toRowW d [] (fun f vs => PySem.call f vs) := by
  refine Att.attach_call hn hdf ?_
  intro w s0 s1 mg mb fa o pm cd doc a vs ns G Y ho hd hcd hmg hobj hints hlen hg
  obtain ⟨fd, hb, hF⟩ := F w mg fa _ (hY w _ Y) G.T.g hmg
  refine law_callG (hY w _ Y) G.T.g G.T.b G.T.builtins G.T.nolimit hg hobj hints (Nat.le_trans hlen hn2) hr hF hb ?_ ?_
  · exact fun H hO hS => hsp w H a ns hlen hO hS
  · exact fun H e s' => hCX w H s1 e s'
end Gd

/-! Me1: values, cells, worlds. -/
namespace Me
open PySem PySem.Spec PyProof.Rows L2

/-- a key: an int, a text; a tuple of these -/
inductive DK where
  | k (x : Key)
  | t (x : List Key)
  deriving DecidableEq
/-- a value: data; frozen lists, dicts (by keys, by tuples), instances; a cell -/
inductive D where
  | non | bl (b : Bool) | int (i : Int) | str (x : Str)
  | lst (ds : List D) | tup (ds : List D)
  | dct (t : Bool) (kvs : List (DK × D))
  | ins (c : String) (fs : List (Str × D))
  | err (c : String) (fs : List (Str × D))
  | ty (n : String)
  | cls (c : String)
  | cell (j : Nat)
  deriving Inhabited
/-- a thing that changes -/
inductive Cell where
  | lst (ds : List D)
  | dct (t : Bool) (lk : Option HO) (kvs : List (DK × D))
  | ins (c : String) (fs : List (Str × D))
  | dead
abbrev Mu := List Cell
abbrev En := List (Option D)
mutual
def D.refs : D → List Nat
  | .lst ds => D.refsL ds
  | .tup ds => D.refsL ds
  | .dct _ kvs => D.refsP kvs
  | .ins _ fs => D.refsF fs
  | .err _ fs => D.refsF fs
  | .cell j => [j]
  | .ty _ => [] | .cls _ => [] | .non => [] | .bl _ => [] | .int _ => [] | .str _ => []
def D.refsL : List D → List Nat
  | [] => []
  | d :: ds => d.refs ++ D.refsL ds
def D.refsP : List (DK × D) → List Nat
  | [] => []
  | (_, d) :: ds => d.refs ++ D.refsP ds
def D.refsF : List (Str × D) → List Nat
  | [] => []
  | (_, d) :: ds => d.refs ++ D.refsF ds
end
def Cell.refs : Cell → List Nat
  | .lst ds => D.refsL ds
  | .dct _ _ kvs => D.refsP kvs
  | .ins _ fs => D.refsF fs
  | .dead => []
def keyD : Key → D
  | .inl i => .int i
  | .inr x => .str x

/-- the written part, the classes by name -/
structure Gam where
  K : PySem.W.Frag
  cls : String → Option Addr
  err : Option (Addr × Addr × Option Addr)
/-- where a cell lies, and as what it is locked -/
structure Ad where
  a : Addr
  lk : Option HO
mutual
inductive DV (Γ : Gam) (F : Hp) (as : List Ad) : V → D → Prop
  | non : DV Γ F as .non .non
  | bl (b : Bool) : DV Γ F as (.bl b) (.bl b)
  | int (i : Int) : DV Γ F as (.int i) (.int i)
  | str (x : Str) : DV Γ F as (.str x) (.str x)
  | lst {a : Addr} {vs : List V} {ds : List D} : F a = some (.lst vs) → DVs Γ F as vs ds → DV Γ F as (.ref a) (.lst ds)
  | tup {a : Addr} {vs : List V} {ds : List D} : F a = some (.tup vs) → DVs Γ F as vs ds → DV Γ F as (.ref a) (.tup ds)
  | dctK {a : Addr} {od : Obj} {vs : List (Key × V)} {kvs : List (DK × D)} : F a = some (.frz od (.dK vs)) → DKs Γ F as vs kvs → DV Γ F as (.ref a) (.dct false kvs)
  | dctT {a : Addr} {od : Obj} {vs : List (List Key × V)} {kvs : List (DK × D)} : F a = some (.frz od (.dT vs)) → DTs Γ F as vs kvs → DV Γ F as (.ref a) (.dct true kvs)
  | ins {a C dx : Addr} {vs : List (Str × V)} {c : String} {fs : List (Str × D)} : F a = some (.ins C dx vs) → Γ.cls c = some C → DFs Γ F as vs fs → DV Γ F as (.ref a) (.ins c fs)
  | err0 {a C : Addr} {dx : Option Addr} {c : String} : Γ.err = some (a, C, dx) → Γ.cls c = some C → DV Γ F as (.ref a) (.err c [])
  | err1 {a C dx : Addr} {vs : List (Str × V)} {c : String} {fs : List (Str × D)} : Γ.err = some (a, C, some dx) → Γ.cls c = some C → F dx = some (.xd vs) → DFs Γ F as vs fs → DV Γ F as (.ref a) (.err c fs)
  | ty (n : String) : DV Γ F as (.ty n) (.ty n)
  | cls {C : Addr} {c : String} : Γ.cls c = some C → DV Γ F as (.ref C) (.cls c)
  | cell {j : Nat} {ad : Ad} : as[j]? = some ad → DV Γ F as (.ref ad.a) (.cell j)
inductive DVs (Γ : Gam) (F : Hp) (as : List Ad) : List V → List D → Prop
  | nil : DVs Γ F as [] []
  | cons {v : V} {vs : List V} {d : D} {ds : List D} : DV Γ F as v d → DVs Γ F as vs ds → DVs Γ F as (v :: vs) (d :: ds)
inductive DKs (Γ : Gam) (F : Hp) (as : List Ad) : List (Key × V) → List (DK × D) → Prop
  | nil : DKs Γ F as [] []
  | cons {k : Key} {v : V} {vs : List (Key × V)} {d : D} {ds : List (DK × D)} : DV Γ F as v d → DKs Γ F as vs ds → DKs Γ F as ((k, v) :: vs) ((.k k, d) :: ds)
inductive DTs (Γ : Gam) (F : Hp) (as : List Ad) : List (List Key × V) → List (DK × D) → Prop
  | nil : DTs Γ F as [] []
  | cons {k : List Key} {v : V} {vs : List (List Key × V)} {d : D} {ds : List (DK × D)} : DV Γ F as v d → DTs Γ F as vs ds → DTs Γ F as ((k, v) :: vs) ((.t k, d) :: ds)
inductive DFs (Γ : Gam) (F : Hp) (as : List Ad) : List (Str × V) → List (Str × D) → Prop
  | nil : DFs Γ F as [] []
  | cons {f : Str} {v : V} {vs : List (Str × V)} {d : D} {ds : List (Str × D)} : DV Γ F as v d → DFs Γ F as vs ds → DFs Γ F as ((f, v) :: vs) ((f, d) :: ds)
end
theorem Rd.to {F F' : Hp} (s : Same F F') {a : Addr} {o : HO} (h : Rd F a o) : Rd F' a o := by
  rcases h with h | ⟨q, h⟩
  · exact .inl (s _ _ h)
  · exact .inr ⟨q, s _ _ h⟩
theorem SqL.to {K : PySem.W.Frag} {F F' : Hp} (s : Same F F') {a : Addr} {xs : List V} (h : SqL K F a xs) : SqL K F' a xs := by
  rcases h with h | h
  · exact .inl (Rd.to s h)
  · exact .inr h
theorem SqT.to {K : PySem.W.Frag} {F F' : Hp} (s : Same F F') {a : Addr} {xs : List V} (h : SqT K F a xs) : SqT K F' a xs := by
  rcases h with h | h
  · exact .inl (Rd.to s h)
  · exact .inr h
/-- places that stay -/
def Kp (as as' : List Ad) (js : List Nat) : Prop := ∀ j ∈ js, ∀ ad, as[j]? = some ad → as'[j]? = some ad
theorem Kp.l {as as' : List Ad} {a b : List Nat} (h : Kp as as' (a ++ b)) : Kp as as' a := fun j hj => h j (List.mem_append_left _ hj)
theorem Kp.r {as as' : List Ad} {a b : List Nat} (h : Kp as as' (a ++ b)) : Kp as as' b := fun j hj => h j (List.mem_append_right _ hj)
section
variable {Γ : Gam} {F F' : Hp} {as as' : List Ad}
mutual
theorem DV.to (s : Same F F') {v : V} {d : D} (h : DV Γ F as v d) (k : Kp as as' d.refs) : DV Γ F' as' v d := by
  cases h with
  | non => exact .non
  | bl b => exact .bl b
  | int i => exact .int i
  | str x => exact .str x
  | lst h1 h2 => exact .lst (s _ _ h1) (DVs.to s h2 (by simpa only [D.refs] using k))
  | tup h1 h2 => exact .tup (s _ _ h1) (DVs.to s h2 (by simpa only [D.refs] using k))
  | dctK h1 h2 => exact .dctK (s _ _ h1) (DKs.to s h2 (by simpa only [D.refs] using k))
  | dctT h1 h2 => exact .dctT (s _ _ h1) (DTs.to s h2 (by simpa only [D.refs] using k))
  | ins h1 hc h2 => exact .ins (s _ _ h1) hc (DFs.to s h2 (by simpa only [D.refs] using k))
  | err0 h1 hc => exact .err0 h1 hc
  | ty n => exact .ty n
  | cls hc => exact .cls hc
  | err1 h0 hc h1 h2 => exact .err1 h0 hc (s _ _ h1) (DFs.to s h2 (by simpa only [D.refs] using k))
  | cell h => exact .cell (k _ (by simp [D.refs]) _ h)
theorem DVs.to (s : Same F F') {vs : List V} {ds : List D} (h : DVs Γ F as vs ds) (k : Kp as as' (D.refsL ds)) : DVs Γ F' as' vs ds := by
  cases h with
  | nil => exact .nil
  | cons h1 h2 =>
    rw [D.refsL] at k
    exact .cons (DV.to s h1 k.l) (DVs.to s h2 k.r)
theorem DKs.to (s : Same F F') {vs : List (Key × V)} {ds : List (DK × D)} (h : DKs Γ F as vs ds) (k : Kp as as' (D.refsP ds)) : DKs Γ F' as' vs ds := by
  cases h with
  | nil => exact .nil
  | cons h1 h2 =>
    rw [D.refsP] at k
    exact .cons (DV.to s h1 k.l) (DKs.to s h2 k.r)
theorem DTs.to (s : Same F F') {vs : List (List Key × V)} {ds : List (DK × D)} (h : DTs Γ F as vs ds) (k : Kp as as' (D.refsP ds)) : DTs Γ F' as' vs ds := by
  cases h with
  | nil => exact .nil
  | cons h1 h2 =>
    rw [D.refsP] at k
    exact .cons (DV.to s h1 k.l) (DTs.to s h2 k.r)
theorem DFs.to (s : Same F F') {vs : List (Str × V)} {ds : List (Str × D)} (h : DFs Γ F as vs ds) (k : Kp as as' (D.refsF ds)) : DFs Γ F' as' vs ds := by
  cases h with
  | nil => exact .nil
  | cons h1 h2 =>
    rw [D.refsF] at k
    exact .cons (DV.to s h1 k.l) (DFs.to s h2 k.r)
end
/-- what a value speaks of is there -/
def Lw (as : List Ad) (js : List Nat) : Prop := ∀ j ∈ js, j < as.length
theorem Lw.app {as : List Ad} {a b : List Nat} (h : Lw as a) (h' : Lw as b) : Lw as (a ++ b) := fun j hj => by
  rcases List.mem_append.mp hj with z | z
  · exact h j z
  · exact h' j z
theorem Lw.nil {as : List Ad} : Lw as [] := fun _ h => nomatch h
theorem keyD_refs (k : Key) : (keyD k).refs = [] := by cases k <;> rfl
theorem keysD_refs : ∀ k : List Key, D.refsL (k.map keyD) = []
  | [] => rfl
  | a :: k => by rw [List.map_cons, D.refsL, keyD_refs, keysD_refs k]; rfl
mutual
theorem DV.low {v : V} {d : D} (h : DV Γ F as v d) : Lw as d.refs := by
  cases h with
  | non => exact Lw.nil
  | bl b => exact Lw.nil
  | int i => exact Lw.nil
  | str x => exact Lw.nil
  | lst h1 h2 => rw [D.refs]; exact DVs.low h2
  | tup h1 h2 => rw [D.refs]; exact DVs.low h2
  | dctK h1 h2 => rw [D.refs]; exact DKs.low h2
  | dctT h1 h2 => rw [D.refs]; exact DTs.low h2
  | ins h1 hc h2 => rw [D.refs]; exact DFs.low h2
  | err0 h1 hc => rw [D.refs, D.refsF]; exact Lw.nil
  | ty n => rw [D.refs]; exact Lw.nil
  | cls hc => rw [D.refs]; exact Lw.nil
  | err1 h0 hc h1 h2 => rw [D.refs]; exact DFs.low h2
  | cell h =>
    intro i hi
    rw [D.refs] at hi
    obtain rfl := List.mem_singleton.mp hi
    exact (List.getElem?_eq_some_iff.mp h).1
theorem DVs.low {vs : List V} {ds : List D} (h : DVs Γ F as vs ds) : Lw as (D.refsL ds) := by
  cases h with
  | nil => exact Lw.nil
  | cons h1 h2 => rw [D.refsL]; exact (DV.low h1).app (DVs.low h2)
theorem DKs.low {vs : List (Key × V)} {ds : List (DK × D)} (h : DKs Γ F as vs ds) : Lw as (D.refsP ds) := by
  cases h with
  | nil => exact Lw.nil
  | cons h1 h2 => rw [D.refsP]; exact (DV.low h1).app (DKs.low h2)
theorem DTs.low {vs : List (List Key × V)} {ds : List (DK × D)} (h : DTs Γ F as vs ds) : Lw as (D.refsP ds) := by
  cases h with
  | nil => exact Lw.nil
  | cons h1 h2 => rw [D.refsP]; exact (DV.low h1).app (DTs.low h2)
theorem DFs.low {vs : List (Str × V)} {ds : List (Str × D)} (h : DFs Γ F as vs ds) : Lw as (D.refsF ds) := by
  cases h with
  | nil => exact Lw.nil
  | cons h1 h2 => rw [D.refsF]; exact (DV.low h1).app (DFs.low h2)
end
/-! ### lists of values -/
theorem DVs.length : ∀ {vs : List V} {ds : List D}, DVs Γ F as vs ds → vs.length = ds.length
  | _, _, .nil => rfl
  | _, _, .cons _ t => congrArg (· + 1) t.length
theorem DVs.get : ∀ {vs : List V} {ds : List D} {i : Nat} {d : D}, DVs Γ F as vs ds → ds[i]? = some d → ∃ v, vs[i]? = some v ∧ DV Γ F as v d
  | _, _, _, _, .nil, e => by simp at e
  | _, _, 0, _, .cons h _, e => by simp at e; subst e; exact ⟨_, rfl, h⟩
  | _, _, i + 1, d, .cons _ t, e => by
    obtain ⟨v, h1, h2⟩ := DVs.get (i := i) (d := d) t (by simpa using e)
    exact ⟨v, by simpa using h1, h2⟩
theorem DVs.getV : ∀ {vs : List V} {ds : List D} {i : Nat} {v : V}, DVs Γ F as vs ds → vs[i]? = some v → ∃ d, ds[i]? = some d ∧ DV Γ F as v d
  | _, _, _, _, .nil, e => by simp at e
  | _, _, 0, _, .cons h _, e => by simp at e; subst e; exact ⟨_, rfl, h⟩
  | _, _, i + 1, v, .cons _ t, e => by
    obtain ⟨d, h1, h2⟩ := DVs.getV (i := i) (v := v) t (by simpa using e)
    exact ⟨d, by simpa using h1, h2⟩
theorem DVs.append : ∀ {vs ws : List V} {ds es : List D}, DVs Γ F as vs ds → DVs Γ F as ws es → DVs Γ F as (vs ++ ws) (ds ++ es)
  | _, _, _, _, .nil, h => h
  | _, _, _, _, .cons h t, h' => .cons h (t.append h')
theorem DVs.take : ∀ {vs : List V} {ds : List D} (n : Nat), DVs Γ F as vs ds → DVs Γ F as (vs.take n) (ds.take n)
  | _, _, 0, _ => .nil
  | _, _, _ + 1, .nil => .nil
  | _, _, n + 1, .cons h t => .cons h (t.take n)
theorem DVs.drop : ∀ {vs : List V} {ds : List D} (n : Nat), DVs Γ F as vs ds → DVs Γ F as (vs.drop n) (ds.drop n)
  | _, _, 0, h => h
  | _, _, _ + 1, .nil => .nil
  | _, _, n + 1, .cons _ t => t.drop n
theorem DVs.reverse : ∀ {vs : List V} {ds : List D}, DVs Γ F as vs ds → DVs Γ F as vs.reverse ds.reverse
  | _, _, .nil => .nil
  | _, _, .cons h t => by
    rw [List.reverse_cons, List.reverse_cons]
    exact t.reverse.append (.cons h .nil)
theorem DVs.rep {vs : List V} {ds : List D} (h : DVs Γ F as vs ds) : ∀ n : Nat, DVs Γ F as (List.replicate n vs).flatten (List.replicate n ds).flatten
  | 0 => .nil
  | n + 1 => by
    rw [List.replicate_succ, List.replicate_succ, List.flatten_cons, List.flatten_cons]
    exact h.append (h.rep n)
theorem DVs.set {v : V} {d : D} (h : DV Γ F as v d) : ∀ {vs : List V} {ds : List D} (i : Nat), DVs Γ F as vs ds → DVs Γ F as (vs.set i v) (ds.set i d)
  | _, _, _, .nil => .nil
  | _, _, 0, .cons _ t => .cons h t
  | _, _, i + 1, .cons q t => .cons q (t.set h i)
theorem DVs.dropLast {vs : List V} {ds : List D} (h : DVs Γ F as vs ds) : DVs Γ F as vs.dropLast ds.dropLast := by
  rw [List.dropLast_eq_take, List.dropLast_eq_take, h.length]
  exact h.take _
theorem DVs.ofInts : ∀ ns : List Int, DVs Γ F as (ns.map V.int) (ns.map D.int)
  | [] => .nil
  | n :: ns => .cons (.int n) (DVs.ofInts ns)
theorem DVs.ofStrs : ∀ ns : List Str, DVs Γ F as (ns.map V.str) (ns.map D.str)
  | [] => .nil
  | n :: ns => .cons (.str n) (DVs.ofStrs ns)
theorem DVs.strs : ∀ {ys : List Str} {vs : List V}, DVs Γ F as vs (ys.map D.str) → vs = ys.map V.str
  | [], _, .nil => rfl
  | y :: ys, _, .cons h t => by
    cases h
    rw [DVs.strs t]
    rfl
end

/-! ### cells -/
section
variable (Γ : Gam)
/-- a thing at a place, locked or not -/
def LkOk (ad : Ad) (H : Hp) (o : HO) : Option HO → Prop
  | some q => H ad.a = some q ∧ ∃ od, q = .frz od o
  | none => H ad.a = some o
def CellOk (F H : Hp) (as : List Ad) (ad : Ad) : Cell → Prop
  | .lst ds => ad.lk = none ∧ F ad.a = none ∧ ∃ vs, H ad.a = some (.lst vs) ∧ DVs Γ F as vs ds
  | .dct false lk kvs => F ad.a = none ∧ ∃ vs, LkOk ad H (.dK vs) lk ∧ DKs Γ F as vs kvs
  | .dct true lk kvs => F ad.a = none ∧ ∃ vs, LkOk ad H (.dT vs) lk ∧ DTs Γ F as vs kvs
  | .ins c fs => ad.lk = none ∧ F ad.a = none ∧ ∃ C dx vs, Γ.cls c = some C ∧ H ad.a = some (.ins C dx vs) ∧ DFs Γ F as vs fs
  | .dead => True
end
section
variable {Γ : Gam} {F F' H H' : Hp} {as as' : List Ad} {ad : Ad} {c : Cell}
theorem LkOk.go {o : HO} {b : Option HO} (h : LkOk ad H o b) (k : ∀ o, H ad.a = some o → H' ad.a = some o) : LkOk ad H' o b := by
  cases b with
  | some q => exact ⟨k _ h.1, h.2⟩
  | none => exact k _ h
theorem LkOk.rd {o : HO} {b : Option HO} (h : LkOk ad H o b) : Rd H ad.a o := by
  cases b with
  | some q => obtain ⟨h1, od, rfl⟩ := h; exact .inr ⟨od, h1⟩
  | none => exact .inl h
theorem CellOk.go (k : CellOk Γ F H as ad c) (sF : Same F F') (nF : F ad.a = none → F' ad.a = none) (hH : ∀ o, H ad.a = some o → H' ad.a = some o) (has : Kp as as' c.refs) : CellOk Γ F' H' as' ad c := by
  match c, k with
  | .dead, _ => trivial
  | .lst ds, ⟨k0, k1, vs, k2, k3⟩ => exact ⟨k0, nF k1, vs, hH _ k2, DVs.to sF k3 has⟩
  | .dct false lk kvs, ⟨k1, vs, k2, k3⟩ => exact ⟨nF k1, vs, k2.go hH, DKs.to sF k3 has⟩
  | .dct true lk kvs, ⟨k1, vs, k2, k3⟩ => exact ⟨nF k1, vs, k2.go hH, DTs.to sF k3 has⟩
  | .ins c fs, ⟨k0, k1, C, dx, vs, kc, k2, k3⟩ => exact ⟨k0, nF k1, C, dx, vs, kc, hH _ k2, DFs.to sF k3 has⟩
theorem CellOk.low (k : CellOk Γ F H as ad c) : Lw as c.refs := by
  match c, k with
  | .dead, _ => exact Lw.nil
  | .lst ds, ⟨k0, k1, vs, k2, k3⟩ => exact k3.low
  | .dct false lk kvs, ⟨k1, vs, k2, k3⟩ => exact k3.low
  | .dct true lk kvs, ⟨k1, vs, k2, k3⟩ => exact k3.low
  | .ins c fs, ⟨k0, k1, C, dx, vs, kc, k2, k3⟩ => exact k3.low
end

/-! ### worlds -/
abbrev ads (as : List Ad) : List Addr := as.map Ad.a
structure Wd (Γ : Gam) (F H : Hp) (as : List Ad) (μ : Mu) : Prop where
  sub : Same F H
  nd : (ads as).Nodup
  len : as.length = μ.length
  ok : ∀ (j : Nat) (ad : Ad) (c : Cell), as[j]? = some ad → μ[j]? = some c → CellOk Γ F H as ad c
  seen : ∀ ad ∈ as, H ad.a ≠ none
structure Go (F H : Hp) (as : List Ad) (F' H' : Hp) (as' : List Ad) : Prop where
  keep : ∀ a o, H a = some o → a ∉ ads as → H' a = some o
  dom : ∀ a, H' a = none → H a = none
  sub : Same F F'
  new : ∀ a, F a = none → F' a ≠ none → H a = none ∨ a ∈ ads as ∨ ∃ xs, H a = some (.tup xs)
  pre : ∃ more, as' = as ++ more ∧ ∀ ad ∈ more, H ad.a = none
theorem Go.refl (F H : Hp) (as : List Ad) : Go F H as F H as :=
  ⟨fun _ _ h _ => h, fun _ h => h, Same.refl F, fun a h h' => absurd h h', [], (List.append_nil as).symm, fun _ h => nomatch h⟩
theorem ads_app (a b : List Ad) : ads (a ++ b) = ads a ++ ads b := List.map_append
theorem Go.trans {F H F1 H1 F2 H2 : Hp} {as as1 as2 : List Ad} (g : Go F H as F1 H1 as1) (g' : Go F1 H1 as1 F2 H2 as2) : Go F H as F2 H2 as2 := by
  obtain ⟨m1, e1, n1⟩ := g.pre
  obtain ⟨m2, e2, n2⟩ := g'.pre
  have n1' : ∀ a ∈ ads m1, H a = none := fun a ha => by
    obtain ⟨ad, h1, rfl⟩ := List.mem_map.mp ha
    exact n1 ad h1
  refine ⟨fun a o h na => g'.keep a o (g.keep a o h na) ?_, fun a h => g.dom a (g'.dom a h), g.sub.trans g'.sub, fun a h h' => ?_, m1 ++ m2, by rw [e2, e1, List.append_assoc], fun a ha => ?_⟩
  · rw [e1, ads_app]
    intro z
    rcases List.mem_append.mp z with z | z
    · exact na z
    · rw [n1' a z] at h; cases h
  · by_cases q : F1 a = none
    · rcases g'.new a q h' with z | z | ⟨xs, z⟩
      · exact .inl (g.dom a z)
      · rw [e1, ads_app] at z
        rcases List.mem_append.mp z with z | z
        · exact .inr (.inl z)
        · exact .inl (n1' a z)
      · by_cases hn : H a = none
        · exact .inl hn
        · by_cases ha : a ∈ ads as
          · exact .inr (.inl ha)
          · cases ho : H a with
            | none => exact absurd ho hn
            | some o =>
              have := g.keep a o ho ha
              rw [z] at this
              exact .inr (.inr ⟨xs, this.symm⟩)
    · exact g.new a h q
  · rcases List.mem_append.mp ha with z | z
    · exact n1 a z
    · exact g.dom _ (n2 a z)
theorem Go.at {F H F' H' : Hp} {as as' : List Ad} (g : Go F H as F' H' as') {j : Nat} {ad : Ad} (h : as[j]? = some ad) : as'[j]? = some ad := by
  obtain ⟨m, e, _⟩ := g.pre
  rw [e, List.getElem?_append_left (List.getElem?_eq_some_iff.mp h).1]
  exact h
theorem Go.kp {F H F' H' : Hp} {as as' : List Ad} (g : Go F H as F' H' as') (js : List Nat) : Kp as as' js := fun _ _ _ h => g.at h
section
variable {Γ : Gam} {F H F' H' : Hp} {as as' : List Ad} {μ : Mu}
theorem DV.mono (g : Go F H as F' H' as') {v : V} {d : D} (h : DV Γ F as v d) : DV Γ F' as' v d := DV.to g.sub h (g.kp _)
theorem DVs.mono (g : Go F H as F' H' as') {v : List V} {d : List D} (h : DVs Γ F as v d) : DVs Γ F' as' v d := DVs.to g.sub h (g.kp _)
theorem DKs.mono (g : Go F H as F' H' as') {v : List (Key × V)} {d : List (DK × D)} (h : DKs Γ F as v d) : DKs Γ F' as' v d := DKs.to g.sub h (g.kp _)
theorem DTs.mono (g : Go F H as F' H' as') {v : List (List Key × V)} {d : List (DK × D)} (h : DTs Γ F as v d) : DTs Γ F' as' v d := DTs.to g.sub h (g.kp _)
theorem DFs.mono (g : Go F H as F' H' as') {v : List (Str × V)} {d : List (Str × D)} (h : DFs Γ F as v d) : DFs Γ F' as' v d := DFs.to g.sub h (g.kp _)
def EnvOk (Γ : Gam) (F : Hp) (as : List Ad) (env : En) (σ : L2.St) : Prop :=
  env.length = σ.length ∧ ∀ (i : Nat) (d : D), env[i]? = some (some d) → ∃ v, σ[i]? = some (some v) ∧ DV Γ F as v d
theorem EnvOk.mono (g : Go F H as F' H' as') {env : En} {σ : L2.St} (h : EnvOk Γ F as env σ) : EnvOk Γ F' as' env σ :=
  ⟨h.1, fun i sv e => let ⟨v, h1, h2⟩ := h.2 i sv e; ⟨v, h1, DV.mono g h2⟩⟩
theorem EnvOk.set {env : En} {σ : L2.St} (h : EnvOk Γ F as env σ) {d : D} {v : V} (r : DV Γ F as v d) (i : Nat) : EnvOk Γ F as (env.set i (some d)) (σ.set i (some v)) := by
  refine ⟨by rw [List.length_set, List.length_set, h.1], fun k sv' e => ?_⟩
  rw [List.getElem?_set] at e ⊢
  by_cases hk : i = k
  · subst hk
    rw [if_pos rfl] at e ⊢
    by_cases hl : i < env.length
    · rw [if_pos hl] at e
      rw [if_pos (h.1 ▸ hl)]
      obtain rfl := Option.some.inj (Option.some.inj e)
      exact ⟨v, rfl, r⟩
    · rw [if_neg hl] at e
      exact nomatch e
  · rw [if_neg hk] at e ⊢
    exact h.2 k sv' e
theorem EnvOk.set0 {env : En} {σ : L2.St} (h : EnvOk Γ F as env σ) (i : Nat) : EnvOk Γ F as (env.set i none) (σ.set i none) := by
  refine ⟨by rw [List.length_set, List.length_set, h.1], fun k sv' e => ?_⟩
  rw [List.getElem?_set] at e ⊢
  by_cases hk : i = k
  · subst hk
    rw [if_pos rfl] at e
    split at e <;> exact nomatch e
  · rw [if_neg hk] at e ⊢
    exact h.2 k sv' e
/-- some slots forgotten -/
theorem EnvOk.le {env env' : En} {σ : L2.St} (h : EnvOk Γ F as env σ) (hl : env'.length = env.length) (hs : ∀ (i : Nat) (d : D), env'[i]? = some (some d) → env[i]? = some (some d)) : EnvOk Γ F as env' σ :=
  ⟨hl.trans h.1, fun i sv e => h.2 i sv (hs i sv e)⟩
theorem Wd.nofree (W : Wd Γ F H as μ) {p : Addr} (np : H p = none) : F p = none ∧ p ∉ ads as := by
  refine ⟨?_, fun z => ?_⟩
  · cases q : F p with
    | none => rfl
    | some u => rw [W.sub p u q] at np; cases np
  · obtain ⟨ad, h1, rfl⟩ := List.mem_map.mp z
    exact W.seen ad h1 np
theorem Wd.apartC (W : Wd Γ F H as μ) {p : Addr} (na : p ∉ ads as) {ad : Ad} {j : Nat} (h : as[j]? = some ad) : ad.a ≠ p := fun z => na (by rw [← z]; exact List.mem_map.mpr ⟨ad, List.mem_of_getElem? h, rfl⟩)
/-- an object beside -/
theorem Wd.off (W : Wd Γ F H as μ) {p : Addr} {o : HO} (nF : F p = none) (na : p ∉ ads as) : Wd Γ F (upd H p o) as μ := by
  refine ⟨fun b u e => ?_, W.nd, W.len, fun j ad c ha hc => ?_, fun ad ha => ?_⟩
  · rw [upd_ne (ne_of_none e nF)]; exact W.sub b u e
  · have hap := W.apartC na ha
    exact (W.ok j ad c ha hc).go (Same.refl F) (fun z => z) (fun o z => by rw [upd_ne hap]; exact z) (fun _ _ _ z => z)
  · have hap : ad.a ≠ p := fun z => na (by rw [← z]; exact List.mem_map.mpr ⟨ad, ha, rfl⟩)
    rw [upd_ne hap]
    exact W.seen ad ha
theorem Go.off (g : Go F H as F' H' as') {p : Addr} {o : HO} (np : H p = none) : Go F H as F' (upd H' p o) as' :=
  ⟨fun a u h na => by rw [upd_ne (ne_of_none h np)]; exact g.keep a u h na, fun a h => by
    by_cases ha : a = p
    · rw [ha]; exact np
    · rw [upd_ne ha] at h; exact g.dom a h, g.sub, g.new, g.pre⟩
theorem Go.apart (g : Go F H as F' H' as') {p : Addr} {o : HO} (hp : H p = some o) (nt : ∀ xs, o ≠ .tup xs) (nF : F p = none) (na : p ∉ ads as) : H' p = some o ∧ F' p = none ∧ p ∉ ads as' := by
  refine ⟨g.keep p o hp na, ?_, ?_⟩
  · cases q : F' p with
    | none => rfl
    | some u =>
      rcases g.new p nF (by rw [q]; exact fun z => nomatch z) with z | z | ⟨xs, z⟩
      · rw [hp] at z; cases z
      · exact absurd z na
      · rw [hp] at z
        exact absurd (Option.some.inj z) (nt xs)
  · obtain ⟨more, e, n⟩ := g.pre
    rw [e, ads_app]
    intro z
    rcases List.mem_append.mp z with z | z
    · exact na z
    · obtain ⟨ad, h1, rfl⟩ := List.mem_map.mp z
      rw [n ad h1] at hp; cases hp
def era (H : Hp) (p : Addr) : Hp := fun b => if b = p then none else H b
theorem era_same {H : Hp} {p : Addr} : era H p p = none := if_pos rfl
theorem era_ne {H : Hp} {p b : Addr} (h : b ≠ p) : era H p b = H b := if_neg h
theorem era_upd {H : Hp} {p : Addr} {o : HO} (h : H p = some o) : upd (era H p) p o = H := by
  funext b
  by_cases hb : b = p
  · rw [hb, upd_same, h]
  · rw [upd_ne hb, era_ne hb]
theorem Wd.era (W : Wd Γ F H as μ) {p : Addr} (nF : F p = none) (na : p ∉ ads as) : Wd Γ F (Me.era H p) as μ := by
  refine ⟨fun b u e => ?_, W.nd, W.len, fun j ad c ha hc => ?_, fun ad ha => ?_⟩
  · rw [era_ne (ne_of_none e nF)]; exact W.sub b u e
  · have hap := W.apartC na ha
    exact (W.ok j ad c ha hc).go (Same.refl F) (fun z => z) (fun o z => by rw [era_ne hap]; exact z) (fun _ _ _ z => z)
  · have hap : ad.a ≠ p := fun z => na (by rw [← z]; exact List.mem_map.mpr ⟨ad, ha, rfl⟩)
    rw [era_ne hap]
    exact W.seen ad ha
theorem Go.era (g : Go F H as F' H' as') {p : Addr} (np : H p = none) : Go F H as F' (Me.era H' p) as' :=
  ⟨fun a u h na => by rw [era_ne (ne_of_none h np)]; exact g.keep a u h na, fun a h => by
    by_cases ha : a = p
    · rw [ha]; exact np
    · rw [era_ne ha] at h; exact g.dom a h, g.sub, g.new, g.pre⟩
/-- a new object, tracked as stable -/
theorem Wd.addF (W : Wd Γ F H as μ) {p : Addr} {o : HO} (np : H p = none) :
    Wd Γ (upd F p o) (upd H p o) as μ ∧ Go F H as (upd F p o) (upd H p o) as := by
  obtain ⟨nF, na⟩ := W.nofree np
  have sF : Same F (upd F p o) := fun b u e => by rw [upd_ne (ne_of_none e nF)]; exact e
  refine ⟨⟨fun b u e => ?_, W.nd, W.len, fun j ad c ha hc => ?_, fun ad ha => ?_⟩, ⟨fun a u h _ => ?_, fun a h => ?_, sF, fun a h h' => ?_, [], (List.append_nil as).symm, fun _ h => nomatch h⟩⟩
  · by_cases hb : b = p
    · subst hb; rw [upd_same] at e ⊢; exact e
    · rw [upd_ne hb] at e ⊢; exact W.sub b u e
  · have hap := W.apartC na ha
    exact (W.ok j ad c ha hc).go sF (fun z => by rw [upd_ne hap]; exact z) (fun o z => by rw [upd_ne hap]; exact z) (fun _ _ _ z => z)
  · exact (W.off (o := o) nF na).seen ad ha
  · rw [upd_ne (ne_of_none h np)]; exact h
  · by_cases ha : a = p
    · subst ha; exact np
    · rw [upd_ne ha] at h; exact h
  · by_cases ha : a = p
    · subst ha; exact .inl np
    · rw [upd_ne ha] at h'; exact absurd h h'
/-- a tuple that is there, tracked as stable from now on -/
theorem Wd.adopt (W : Wd Γ F H as μ) {p : Addr} {xs : List V} (hp : H p = some (.tup xs)) :
    ∃ F', F' p = some (.tup xs) ∧ Wd Γ F' H as μ ∧ Go F H as F' H as := by
  cases q : F p with
  | some u =>
    have := W.sub p u q
    rw [hp] at this
    obtain rfl := Option.some.inj this
    exact ⟨F, q, W, Go.refl _ _ _⟩
  | none =>
    have sF : Same F (upd F p (.tup xs)) := fun b u e => by rw [upd_ne (ne_of_none e q)]; exact e
    refine ⟨upd F p (.tup xs), upd_same, ⟨fun b u e => ?_, W.nd, W.len, fun j ad c ha hc => ?_, W.seen⟩, ⟨fun a u h _ => h, fun a h => h, sF, fun a h h' => ?_, [], (List.append_nil as).symm, fun _ h => nomatch h⟩⟩
    · by_cases hb : b = p
      · subst hb; rw [upd_same] at e; rw [← e]; exact hp
      · rw [upd_ne hb] at e; exact W.sub b u e
    · have k := W.ok j ad c ha hc
      have hap : c ≠ .dead → ad.a ≠ p := fun hd z => by
        subst z
        match c, k, hd with
        | .lst ds, ⟨k0, k1, vs, k2, k3⟩, _ => rw [hp] at k2; cases k2
        | .dct false (some q) kvs, ⟨k1, vs, ⟨k2, od, eq⟩, k3⟩, _ => rw [hp, eq] at k2; cases k2
        | .dct false none kvs, ⟨k1, vs, k2, k3⟩, _ => have k2 := Option.some.inj (hp.symm.trans k2); cases k2
        | .dct true (some q) kvs, ⟨k1, vs, ⟨k2, od, eq⟩, k3⟩, _ => rw [hp, eq] at k2; cases k2
        | .dct true none kvs, ⟨k1, vs, k2, k3⟩, _ => have k2 := Option.some.inj (hp.symm.trans k2); cases k2
        | .ins c fs, ⟨k0, k1, C, dx, vs, kc, k2, k3⟩, _ => rw [hp] at k2; cases k2
        | .dead, _, hd => exact hd rfl
      by_cases hd : c = .dead
      · subst hd; trivial
      · exact k.go sF (fun z => by rw [upd_ne (hap hd)]; exact z) (fun o z => z) (fun _ _ _ z => z)
    · by_cases ha : a = p
      · subst ha; exact .inr (.inr ⟨xs, hp⟩)
      · rw [upd_ne ha] at h'; exact absurd h h'
/-- a new thing, tracked as a cell -/
theorem Wd.addO (W : Wd Γ F H as μ) {p : Addr} {o : HO} {c : Cell} (np : H p = none) (hc : F p = none → CellOk Γ F (upd H p o) (as ++ [⟨p, none⟩]) ⟨p, none⟩ c) :
    Wd Γ F (upd H p o) (as ++ [⟨p, none⟩]) (μ ++ [c]) ∧ Go F H as F (upd H p o) (as ++ [⟨p, none⟩]) := by
  obtain ⟨nF, na⟩ := W.nofree np
  have W1 := W.off (o := o) nF na
  refine ⟨⟨W1.sub, ?_, by rw [List.length_append, List.length_append, W.len]; rfl, fun j ad c' ha hc' => ?_, fun ad ha => ?_⟩,
    ⟨fun a u h _ => ?_, fun a h => ?_, Same.refl F, fun a h h' => absurd h h', [⟨p, none⟩], rfl, fun ad h => ?_⟩⟩
  · rw [ads_app, List.nodup_append]
    exact ⟨W.nd, by simp, fun a ha b hb => by
      obtain rfl : b = p := by simpa using hb
      exact fun z => na (z ▸ ha)⟩
  · by_cases hj : j < as.length
    · rw [List.getElem?_append_left hj] at ha
      rw [List.getElem?_append_left (W.len ▸ hj)] at hc'
      exact (W1.ok j ad c' ha hc').go (Same.refl F) (fun z => z) (fun o z => z) (fun i _ b z => by rw [List.getElem?_append_left (List.getElem?_eq_some_iff.mp z).1]; exact z)
    · rw [List.getElem?_append_right (by omega)] at ha
      rw [List.getElem?_append_right (by have := W.len; omega)] at hc'
      have e0 : j - as.length = 0 := by
        have := (List.getElem?_eq_some_iff.mp ha).1
        simp at this
        omega
      have e1 : j - μ.length = 0 := by have := W.len; omega
      rw [e0] at ha
      rw [e1] at hc'
      simp at ha hc'
      subst ha hc'
      exact hc nF
  · rcases List.mem_append.mp ha with z | z
    · exact W1.seen ad z
    · obtain rfl := List.mem_singleton.mp z
      show upd H p o p ≠ none
      rw [upd_same]; exact fun q => nomatch q
  · rw [upd_ne (ne_of_none h np)]; exact h
  · by_cases ha : a = p
    · subst ha; exact np
    · rw [upd_ne ha] at h; exact h
  · obtain rfl := List.mem_singleton.mp h
    exact np
theorem nodup_inj {α : Type} : ∀ {l : List α} {i j : Nat} {x : α}, l.Nodup → l[i]? = some x → l[j]? = some x → i = j
  | [], i, j, x, _, h, _ => by simp at h
  | a :: l, 0, 0, x, _, _, _ => rfl
  | a :: l, 0, j + 1, x, n, h, h' => by
    simp at h h'
    subst h
    exact absurd (List.mem_of_getElem? h') (List.nodup_cons.mp n).1
  | a :: l, i + 1, 0, x, n, h, h' => by
    simp at h h'
    subst h'
    exact absurd (List.mem_of_getElem? h) (List.nodup_cons.mp n).1
  | a :: l, i + 1, j + 1, x, n, h, h' => by
    simp at h h'
    rw [nodup_inj (List.nodup_cons.mp n).2 h h']
theorem Wd.inj (W : Wd Γ F H as μ) {i j : Nat} {a b : Ad} (hi : as[i]? = some a) (hj : as[j]? = some b) (e : a.a = b.a) : i = j := by
  refine nodup_inj (x := a.a) W.nd ?_ ?_
  · rw [List.getElem?_map, hi]; rfl
  · rw [List.getElem?_map, hj, e]; rfl
/-- a cell is changed -/
theorem Wd.setO (W : Wd Γ F H as μ) {j : Nat} {ad : Ad} {o : HO} {c : Cell} (ha : as[j]? = some ad) (nF : F ad.a = none) (hc : CellOk Γ F (upd H ad.a o) as ad c) :
    Wd Γ F (upd H ad.a o) as (μ.set j c) ∧ Go F H as F (upd H ad.a o) as := by
  have ham : ad.a ∈ ads as := List.mem_map.mpr ⟨ad, List.mem_of_getElem? ha, rfl⟩
  refine ⟨⟨fun b u e => ?_, W.nd, by rw [List.length_set]; exact W.len, fun k b c' hb hk => ?_, fun b hb => ?_⟩,
    ⟨fun b u h nb => ?_, fun b h => ?_, Same.refl F, fun b h h' => absurd h h', [], (List.append_nil as).symm, fun _ h => nomatch h⟩⟩
  · rw [upd_ne (ne_of_none e nF)]; exact W.sub b u e
  · by_cases hkj : j = k
    · subst hkj
      rw [ha] at hb
      obtain rfl := Option.some.inj hb
      rw [List.getElem?_set, if_pos rfl] at hk
      split at hk
      · obtain rfl := Option.some.inj hk
        exact hc
      · exact nomatch hk
    · rw [List.getElem?_set, if_neg hkj] at hk
      have hba : b.a ≠ ad.a := fun z => hkj (W.inj ha hb z.symm)
      exact (W.ok k b c' hb hk).go (Same.refl F) (fun z => z) (fun o z => by rw [upd_ne hba]; exact z) (fun _ _ _ z => z)
  · by_cases hb' : b.a = ad.a
    · rw [hb', upd_same]; exact fun q => nomatch q
    · rw [upd_ne hb']; exact W.seen b hb
  · rw [upd_ne (fun (z : b = ad.a) => nb (by rw [z]; exact ham))]; exact h
  · by_cases hb' : b = ad.a
    · subst hb'; rw [upd_same] at h; exact nomatch h
    · rw [upd_ne hb'] at h; exact h
theorem Wd.low (W : Wd Γ F H as μ) {j : Nat} {c : Cell} (h : μ[j]? = some c) : ∀ i ∈ c.refs, i < μ.length := by
  have hj : j < as.length := by rw [W.len]; exact (List.getElem?_eq_some_iff.mp h).1
  rw [← W.len]
  exact (W.ok j _ c (List.getElem?_eq_getElem hj) h).low
theorem Wd.adAt (W : Wd Γ F H as μ) {j : Nat} {c : Cell} (h : μ[j]? = some c) : ∃ ad, as[j]? = some ad ∧ CellOk Γ F H as ad c := by
  have hj : j < as.length := by rw [W.len]; exact (List.getElem?_eq_some_iff.mp h).1
  exact ⟨_, List.getElem?_eq_getElem hj, W.ok j _ c (List.getElem?_eq_getElem hj) h⟩
theorem Wd.last (W : Wd Γ F H as μ) (x : Ad) : (as ++ [x])[μ.length]? = some x := by
  rw [List.getElem?_append_right (by rw [W.len]; exact Nat.le_refl _), W.len, Nat.sub_self]
  rfl
end
end Me

/-! Me2: the judgements, in continuation form; expressions. -/
namespace Me
open PySem PySem.Spec PyProof.Rows L2

/-- an exception of an own class, with its attributes -/
structure Ex where
  c : String
  fs : List (Str × D)
/-- the weakest wish of a context -/
def Wk (X : Cx) : WX := fun cls d σ H => ∀ u s', XE X (fun c' d' σ' H' => c' = cls ∧ d' = d ∧ σ' = σ ∧ H' = H) u s' → X.xe u s'
theorem takes_wk {X : Cx} : Takes X (Wk X) := fun u s' ⟨a, B, sI, pins, σ, H, cls, d, e, I, nb, up, sky, na, os, ag, w⟩ =>
  w u s' ⟨a, B, sI, pins, σ, H, cls, d, e, I, nb, up, sky, na, os, ag, rfl, rfl, rfl, rfl⟩
theorem Wk.of {X : Cx} {W : WX} (t : Takes X W) {cls : Value} {d : Option Addr} {σ : L2.St} {H : Hp} (w : W cls d σ H) : Wk X cls d σ H := fun u s' x =>
  t.imp (W' := fun c' d' σ' H' => c' = cls ∧ d' = d ∧ σ' = σ ∧ H' = H) (fun c' d' σ' H' ⟨e1, e2, e3, e4⟩ => by subst e1 e2 e3 e4; exact w) u s' x
/-- the exception's class and own dict -/
def XOk (Γ : Gam) (F H : Hp) (as : List Ad) (cls : Value) (d : Option Addr) (x : Ex) : Prop :=
  ∃ C, Γ.cls x.c = some C ∧ cls = .ref C ∧ (x.fs = [] ∨ ∃ dx vs, d = some dx ∧ F dx = some (.xd vs) ∧ DFs Γ F as vs x.fs)

/-- the built-in names that the module leaves alone -/
structure Bi (mg : Str → Option Value) : Prop where
  len : mg "len" = none
  int : mg "int" = none
  abs : mg "abs" = none
  tuple : mg "tuple" = none
  list : mg "list" = none
  repr : mg "repr" = none
  range : mg "range" = none
  sorted : mg "sorted" = none
  sum : mg "sum" = none
  all : mg "all" = none
  any : mg "any" = none
  min : mg "min" = none
  max : mg "max" = none
  set : mg "set" = none
  dict : mg "dict" = none
  zip : mg "zip" = none
  enumerate : mg "enumerate" = none
  reversed : mg "reversed" = none
  str : mg "str" = none
  type' : mg "type" = none
  isinstance : mg "isinstance" = none
  bool : mg "bool" = none
/-- where one stands: the names of classes, the context, what is wished of exceptions -/
structure Sc where
  Γ : Gam
  X : Cx
  Z : Ex → En → Mu → Prop
  hK : Γ.K = X.K
  hg : X.A.guards = some []
  hN : X.N.Nodup
  hp : PassesOwn (model X.prog X.w) X.A X.env X.xe
  hb : Bi X.mg
  k : Nat
  rm : L2H.RoomH k X.A
theorem Sc.hu (S : Sc) : S.X.A.units + 70 < cLine := by have := S.rm.un; omega
def Ko (S : Sc) (F H : Hp) (as : List Ad) : Prop := ∀ x env μ σ cls dx F' H' as', S.Z x env μ → Go F H as F' H' as' → EnvOk S.Γ F' as' env σ → Wd S.Γ F' H' as' μ → XOk S.Γ F' H' as' cls dx x → Wk S.X cls dx σ H'
theorem Ko.go {S : Sc} {F H F1 H1 : Hp} {as as1 : List Ad} (k : Ko S F H as) (g : Go F H as F1 H1 as1) : Ko S F1 H1 as1 :=
  fun x env μ σ cls dx F' H' as' z g' => k x env μ σ cls dx F' H' as' z (g.trans g')
structure At (S : Sc) (env : En) (μ : Mu) (σ : L2.St) (H F : Hp) (as : List Ad) : Prop where
  e : EnvOk S.Γ F as env σ
  w : Wd S.Γ F H as μ
  k : Ko S F H as
theorem At.go {S : Sc} {env : En} {μ μ' : Mu} {σ : L2.St} {H F H' F' : Hp} {as as' : List Ad} (a : At S env μ σ H F as) (g : Go F H as F' H' as') (w : Wd S.Γ F' H' as' μ') : At S env μ' σ H' F' as' :=
  ⟨a.e.mono g, w, a.k.go g⟩
abbrev KD := D → Mu → Prop
/-- what follows a value -/
def Kv (S : Sc) (F H : Hp) (as : List Ad) (P : KD) (Q : VK) : Prop := ∀ d μ' v F' H' as', P d μ' → Go F H as F' H' as' → Wd S.Γ F' H' as' μ' → DV S.Γ F' as' v d → Q v H'
theorem Kv.go {S : Sc} {F H F1 H1 : Hp} {as as1 : List Ad} {P : KD} {Q : VK} (k : Kv S F H as P Q) (g : Go F H as F1 H1 as1) : Kv S F1 H1 as1 P Q :=
  fun d μ' v F' H' as' p g' => k d μ' v F' H' as' p (g.trans g')
def rdE (S : Sc) (env : En) (μ : Mu) (P : KD) : TE := fun σ H Q => ∃ F as, At S env μ σ H F as ∧ Kv S F H as P Q
def E (S : Sc) (e : Expr) (env : En) (μ : Mu) (P : KD) : Prop := PE S.X e (rdE S env μ P)
def rdA (S : Sc) (env : En) (μ : Mu) (P : List D → Mu → Prop) : TA := fun σ H Q => ∃ F as, At S env μ σ H F as ∧
  ∀ ds μ' vs F' H' as', P ds μ' → Go F H as F' H' as' → Wd S.Γ F' H' as' μ' → DVs S.Γ F' as' vs ds → Q vs H'
def A (S : Sc) (es : List Expr) (env : En) (μ : Mu) (P : List D → Mu → Prop) : Prop := PA S.X es (rdA S env μ P)
def rdT (S : Sc) (env : En) (μ : Mu) (P : Bool → Mu → Prop) : TT := fun σ H Q => ∃ F as, At S env μ σ H F as ∧
  ∀ b μ' F' H' as', P b μ' → Go F H as F' H' as' → Wd S.Γ F' H' as' μ' → Q b H'
def T (S : Sc) (e : Expr) (env : En) (μ : Mu) (P : Bool → Mu → Prop) : Prop := PT S.X e (rdT S env μ P)
def W (S : Sc) (e : Expr) (env : En) (μ : Mu) (P : Bool → Mu → Prop) : Prop := PW S.X e (rdT S env μ P)

theorem PE.imp {X : Cx} {e : Expr} {t t' : TE} (h : PE X e t) (i : ∀ σ H Q, t' σ H Q → t σ H Q) : PE X e t' := ⟨fun pins s σ H Q I q => h.run pins s σ H Q I (i σ H Q q)⟩
theorem PT.imp {X : Cx} {e : Expr} {t t' : TT} (h : PT X e t) (i : ∀ σ H Q, t' σ H Q → t σ H Q) : PT X e t' := ⟨fun pins s σ H Q I q => h.run pins s σ H Q I (i σ H Q q)⟩
theorem PW.imp {X : Cx} {e : Expr} {t t' : TT} (h : PW X e t) (i : ∀ σ H Q, t' σ H Q → t σ H Q) : PW X e t' := ⟨fun wh pins s σ H Q I q => h.run wh pins s σ H Q I (i σ H Q q)⟩
theorem PA.imp {X : Cx} {es : List Expr} {t t' : TA} (h : PA X es t) (i : ∀ σ H Q, t' σ H Q → t σ H Q) : PA X es t' := ⟨fun pos pins s σ H Q I q => h.run pos pins s σ H Q I (i σ H Q q)⟩
theorem PS.imp {X : Cx} {st : Stmt} {t t' : TS} (h : PS X st t) (i : ∀ D σ H, t' D σ H → t D σ H) : PS X st t' := ⟨fun pins s σ H D I q => h.run pins s σ H D I (i D σ H q)⟩
theorem PSs.imp {X : Cx} {st : List Stmt} {t t' : TS} (h : PSs X st t) (i : ∀ D σ H, t' D σ H → t D σ H) : PSs X st t' := ⟨fun pins s σ H D I q => h.run pins s σ H D I (i D σ H q)⟩
theorem PO.imp {X : Cx} {t t' : TO} {o : Option Expr} (h : PO X o t) (i : ∀ σ H Q, t' σ H Q → t σ H Q) : PO X o t' := ⟨fun pins s σ H Q I q => h.run pins s σ H Q I (i σ H Q q)⟩
theorem PI.imp {X : Cx} {tg iter : Expr} {wi wi' : TI} (h : PI X tg iter wi) (i : ∀ σ H R, wi' σ H R → wi σ H R) : PI X tg iter wi' := ⟨fun pins s σ H R I q => h.run pins s σ H R I (i σ H R q)⟩
/-! any reading -/
def yE (X : Cx) (e : Expr) : TE := fun σ H Q => ∃ t, PE X e t ∧ t σ H Q
def yA (X : Cx) (e : List Expr) : TA := fun σ H Q => ∃ t, PA X e t ∧ t σ H Q
def yT (X : Cx) (e : Expr) : TT := fun σ H Q => ∃ t, PT X e t ∧ t σ H Q
def yW (X : Cx) (e : Expr) : TT := fun σ H Q => ∃ t, PW X e t ∧ t σ H Q
def yO (X : Cx) (e : Option Expr) : TO := fun σ H Q => ∃ t, PO X e t ∧ t σ H Q
def yS (X : Cx) (st : List Stmt) : TS := fun D σ H => ∃ t, PSs X st t ∧ t D σ H
theorem pe_y {X : Cx} {e : Expr} : PE X e (yE X e) := ⟨fun pins s σ H Q I ⟨t, h, q⟩ => h.run pins s σ H Q I q⟩
theorem pa_y {X : Cx} {e : List Expr} : PA X e (yA X e) := ⟨fun pos pins s σ H Q I ⟨t, h, q⟩ => h.run pos pins s σ H Q I q⟩
theorem pt_y {X : Cx} {e : Expr} : PT X e (yT X e) := ⟨fun pins s σ H Q I ⟨t, h, q⟩ => h.run pins s σ H Q I q⟩
theorem pw_y {X : Cx} {e : Expr} : PW X e (yW X e) := ⟨fun wh pins s σ H Q I ⟨t, h, q⟩ => h.run wh pins s σ H Q I q⟩
theorem po_y {X : Cx} {e : Option Expr} : PO X e (yO X e) := ⟨fun pins s σ H Q I ⟨t, h, q⟩ => h.run pins s σ H Q I q⟩
theorem pss_y {X : Cx} {st : List Stmt} : PSs X st (yS X st) := ⟨fun pins s σ H D I ⟨t, h, q⟩ => h.run pins s σ H D I q⟩

section
variable {S : Sc} {env : En} {μ : Mu} {a b c e : Expr} {es : List Expr} {pos p0 : Pos} {x : Str} {P P' : KD} {PB PB' : Bool → Mu → Prop} {PA' PA2 : List D → Mu → Prop}
theorem E.go (h : E S e env μ P) {σ : L2.St} {H F : Hp} {as : List Ad} {Q : VK} (a : At S env μ σ H F as) (k : Kv S F H as P Q) : yE S.X e σ H Q := ⟨_, h, F, as, a, k⟩
theorem A.go (h : A S es env μ PA') {σ : L2.St} {H F : Hp} {as : List Ad} {Q : List V → Hp → Prop} (a : At S env μ σ H F as)
    (k : ∀ ds μ' vs F' H' as', PA' ds μ' → Go F H as F' H' as' → Wd S.Γ F' H' as' μ' → DVs S.Γ F' as' vs ds → Q vs H') : yA S.X es σ H Q := ⟨_, h, F, as, a, k⟩
theorem T.go (h : T S e env μ PB) {σ : L2.St} {H F : Hp} {as : List Ad} {Q : Bool → Hp → Prop} (a : At S env μ σ H F as)
    (k : ∀ b μ' F' H' as', PB b μ' → Go F H as F' H' as' → Wd S.Γ F' H' as' μ' → Q b H') : yT S.X e σ H Q := ⟨_, h, F, as, a, k⟩
theorem W.go (h : W S e env μ PB) {σ : L2.St} {H F : Hp} {as : List Ad} {Q : Bool → Hp → Prop} (a : At S env μ σ H F as)
    (k : ∀ b μ' F' H' as', PB b μ' → Go F H as F' H' as' → Wd S.Γ F' H' as' μ' → Q b H') : yW S.X e σ H Q := ⟨_, h, F, as, a, k⟩
theorem E.imp (h : E S e env μ P) (i : ∀ d m, P d m → P' d m) : E S e env μ P' :=
  PE.imp h fun σ H Q ⟨F, as, a, k⟩ => ⟨F, as, a, fun d m v F' H' as' p => k d m v F' H' as' (i d m p)⟩
theorem T.imp (h : T S e env μ PB) (i : ∀ d m, PB d m → PB' d m) : T S e env μ PB' :=
  PT.imp h fun σ H Q ⟨F, as, a, k⟩ => ⟨F, as, a, fun d m F' H' as' p => k d m F' H' as' (i d m p)⟩
theorem A.imp (h : A S es env μ PA') (i : ∀ d m, PA' d m → PA2 d m) : A S es env μ PA2 :=
  PA.imp h fun σ H Q ⟨F, as, a, k⟩ => ⟨F, as, a, fun d m v F' H' as' p => k d m v F' H' as' (i d m p)⟩
/-- a test whose outcome is known -/
theorem t_is (q : Bool) (h : T S e env μ fun b m => b = q ∧ m = μ) (p : PB q μ) : T S e env μ PB := h.imp fun b m ⟨h1, h2⟩ => by subst h1 h2; exact p
theorem e_is (d : D) (h : E S e env μ fun b m => b = d ∧ m = μ) (p : P d μ) : E S e env μ P := h.imp fun b m ⟨h1, h2⟩ => by subst h1 h2; exact p
theorem W.t (h : W S e env μ PB) : T S e env μ PB := PW.pt h

theorem e_var (i : Nat) {d : D} (h : env[i]? = some (some d)) (k : P d μ) (hN : S.X.N[i]? = some x := by rfl)
    (hv : Vis S.X.env.scope x := by first | exact Or.inl rfl | exact Or.inr (Or.inl rfl) | exact Or.inr (Or.inr rfl))
    (hd : (x == ("__debug__" : Str)) = false := by decide) (hcd : (x == ("__classdict__" : Str)) = false := by decide) : E S (.Name x pos) env μ P :=
  PE.imp (pe_var hN hv hd hcd) fun σ H Q ⟨F, as, a, kk⟩ => let ⟨v, h1, h2⟩ := a.e.2 i d h; ⟨v, h1, kk d μ v F H as k (Go.refl F H as) a.w h2⟩
theorem e_c {v : V} {d : D} (hp : PE S.X e (tC v)) (hd : ∀ F as, DV S.Γ F as v d) (k : P d μ) : E S e env μ P :=
  PE.imp hp fun σ H Q ⟨F, as, a, kk⟩ => kk d μ v F H as k (Go.refl F H as) a.w (hd F as)
theorem e_int {i : Int} {j : Nat} (k : P (.int i) μ) : E S (.Constant (.int i) j pos) env μ P := e_c pe_int (fun _ _ => .int i) k
theorem e_bl {i : Bool} {j : Nat} (k : P (.bl i) μ) : E S (.Constant (.bool i) j pos) env μ P := e_c pe_bl (fun _ _ => .bl i) k
theorem e_non {j : Nat} (k : P .non μ) : E S (.Constant .none j pos) env μ P := e_c pe_non (fun _ _ => .non) k
theorem e_str {i : Str} {j : Nat} (k : P (.str i) μ) : E S (.Constant (.str i) j pos) env μ P := e_c pe_str (fun _ _ => .str i) k
theorem e_gstr {y : Str} {t : Tok} (hm : S.X.mg x = some (.str y t)) (k : P (.str y) μ) (hg : Gl S.X x := by rfl) (hd : (x == ("__debug__" : Str)) = false := by decide) : E S (.Name x pos) env μ P :=
  e_c (pe_glob (v := .str y) hg hm ⟨t, rfl⟩ hd) (fun _ _ => .str y) k
theorem e_gint {y : Int} {t : Tok} (hm : S.X.mg x = some (.int y t)) (k : P (.int y) μ) (hg : Gl S.X x := by rfl) (hd : (x == ("__debug__" : Str)) = false := by decide) : E S (.Name x pos) env μ P :=
  e_c (pe_glob (v := .int y) hg hm ⟨t, rfl⟩ hd) (fun _ _ => .int y) k

/-! ### two operands -/
/-- an operation on two values -/
def Op2 (S : Sc) (f : Value → Value → Sem Value) (d1 d2 : D) (env : En) (μ : Mu) (P : KD) : Prop :=
  ∀ (pins : List (Addr × Obj)) (s : Shared) (σ : L2.St) (H : Hp) (x y : V) (v u : Value) (Q : VK) (F : Hp) (as : List Ad), Inv S.X pins σ H s → RelV x v → RelV y u →
    At S env μ σ H F as → DV S.Γ F as x d1 → DV S.Γ F as y d2 → Kv S F H as P Q → wpAny (model S.X.prog S.X.w) S.X.A (f v u) (EP S.X pins σ Q) S.X.xe s
theorem Op2.of {f : Value → Value → Sem Value} {r : R2} {d1 d2 : D} (ho : OpR S.X f r) (h : ∀ F H as x y Q, Wd S.Γ F H as μ → DV S.Γ F as x d1 → DV S.Γ F as y d2 → Kv S F H as P Q → r x y H Q) : Op2 S f d1 d2 env μ P :=
  fun pins s σ H x y v u Q F as I rx ry a h1 h2 k => ho pins s σ H x y v u Q I rx ry (h F H as x y Q a.w h1 h2 k)
theorem two_run {f : Value → Value → Sem Value} (h : E S a env μ fun d1 μ1 => E S b env μ1 fun d2 μ2 => Op2 S f d1 d2 env μ2 P) {σ : L2.St} {H : Hp} {Q : VK} (q : rdE S env μ P σ H Q) :
    yE S.X a σ H fun x H1 => yE S.X b σ H1 fun y H2 => ∀ (pins : List (Addr × Obj)) (s : Shared) (v u : Value), Inv S.X pins σ H2 s → RelV x v → RelV y u → wpAny (model S.X.prog S.X.w) S.X.A (f v u) (EP S.X pins σ Q) S.X.xe s := by
  obtain ⟨F, as, a1, k⟩ := q
  refine h.go a1 fun d1 μ1 v1 F1 H1 as1 p1 g1 W1 r1 => p1.go (a1.go g1 W1) fun d2 μ2 v2 F2 H2 as2 p2 g2 W2 r2 => fun pins s v u I rx ry => ?_
  exact p2 pins s σ H2 v1 v2 v u Q F2 as2 I rx ry ((a1.go g1 W1).go g2 W2) (r1.mono g2) r2 ((k.go g1).go g2)
theorem e_bin {op : Operator} (h : E S a env μ fun d1 μ1 => E S b env μ1 fun d2 μ2 => Op2 S (binaryOp op) d1 d2 env μ2 P) : E S (.BinOp a op b pos) env μ P :=
  ⟨fun pins s σ H Q I q => wpAny_BinOp (binT pe_y pe_y I (two_run h q) fun v u s2 x y H2 I2 rx ry q2 => q2 pins s2 v u I2 rx ry)⟩
theorem e_cmp {op : CmpOp} (h : E S a env μ fun d1 μ1 => E S b env μ1 fun d2 μ2 => Op2 S (compareOp op) d1 d2 env μ2 P) (hm : behindInMarks op b = false := by with_unfolding_all rfl) : E S (.Compare a [op] [b] pos) env μ P :=
  ⟨fun pins s σ H Q I q => wpAny_Compare1 (binT pe_y pe_y I (two_run h q) fun v u s2 x y H2 I2 rx ry q2 => q2 pins s2 v u I2 rx ry) hm⟩
/-- a value that is a truth, as a test -/
def asT (PB : Bool → Mu → Prop) : KD := fun d m => ∃ q, d = .bl q ∧ PB q m
theorem t_cmp {op : CmpOp} (h : E S a env μ fun d1 μ1 => E S b env μ1 fun d2 μ2 => Op2 S (compareOp op) d1 d2 env μ2 (asT PB)) (hm : behindInMarks op b = false := by with_unfolding_all rfl) : T S (.Compare a [op] [b] pos) env μ PB := by
  refine ⟨fun pins s σ H Q I q => ?_⟩
  obtain ⟨F, as, a1, k⟩ := q
  have q' : rdE S env μ (asT PB) σ H (fun x H' => ∃ k, x = .bl k ∧ Q k H') := ⟨F, as, a1, fun d m v F' H' as' ⟨z, e1, e2⟩ g W r => by
    subst e1
    cases r
    exact ⟨z, rfl, k z m F' H' as' e2 g W⟩⟩
  refine wpAny_isTrue_Compare1 (binT (Q := fun v s3 => wpAny (model S.X.prog S.X.w) S.X.A (truthy v) (TP S.X pins σ Q) S.X.xe s3) pe_y pe_y I (two_run h q') fun v u s2 x y H2 I2 rx ry q2 => thn (q2 pins s2 v u I2 rx ry) fun c s3 ⟨z, H3, I3, r3, kk, e, q3⟩ => ?_) hm
  subst e
  cases r3
  exact wpAny_truthy_bool ⟨H3, I3, q3⟩
def Ix2 (S : Sc) (d1 d2 : D) (env : En) (μ : Mu) (P : KD) : Prop :=
  ∀ (value slice : Expr) (pins : List (Addr × Obj)) (s : Shared) (σ : L2.St) (H : Hp) (x y : V) (v u : Value) (Q : VK) (F : Hp) (as : List Ad), Inv S.X pins σ H s → RelV x v → RelV y u →
    At S env μ σ H F as → DV S.Γ F as x d1 → DV S.Γ F as y d2 → Kv S F H as P Q → subscripted slice false v u = operate [v, u] (getItem v u) → wpAny (model S.X.prog S.X.w) S.X.A (subscriptTail value slice v u) (EP S.X pins σ Q) S.X.xe s
theorem Ix2.of {r : R2} {d1 d2 : D} (ho : IxR S.X r) (h : ∀ F H as x y Q, Wd S.Γ F H as μ → DV S.Γ F as x d1 → DV S.Γ F as y d2 → Kv S F H as P Q → r x y H Q) : Ix2 S d1 d2 env μ P :=
  fun va sl pins s σ H x y v u Q F as I rx ry a h1 h2 k hs => ho va sl pins s σ H x y v u Q I rx ry (h F H as x y Q a.w h1 h2 k) hs
theorem e_ix (h : E S a env μ fun d1 μ1 => E S b env μ1 fun d2 μ2 => Ix2 S d1 d2 env μ2 P) (hp : PlainIx b := by exact fun _ _ => rfl) : E S (.Subscript a b pos) env μ P := by
  refine ⟨fun pins s σ H Q I ⟨F, as, a1, k⟩ => ?_⟩
  refine Subscript_ (binT (R := fun x y H2 => ∃ F2 as2 d1 d2 μ2, At S env μ2 σ H2 F2 as2 ∧ DV S.Γ F2 as2 x d1 ∧ DV S.Γ F2 as2 y d2 ∧ Kv S F2 H2 as2 P Q ∧ Ix2 S d1 d2 env μ2 P) pe_y pe_y I ?_ fun v u s2 x y H2 I2 rx ry q2 => ?_)
  · exact h.go a1 fun d1 μ1 v1 F1 H1 as1 p1 g1 W1 r1 => p1.go (a1.go g1 W1) fun d2 μ2 v2 F2 H2 as2 p2 g2 W2 r2 => ⟨F2, as2, d1, d2, μ2, (a1.go g1 W1).go g2 W2, r1.mono g2, r2, (k.go g1).go g2, p2⟩
  · obtain ⟨F2, as2, d1, d2, μ2, a2, r1, r2, k2, p2⟩ := q2
    exact p2 _ _ pins s2 σ H2 x y v u Q F2 as2 I2 rx ry a2 r1 r2 k2 (hp _ _)
def Op1 (S : Sc) (f : Value → Sem Value) (d1 : D) (env : En) (μ : Mu) (P : KD) : Prop :=
  ∀ (pins : List (Addr × Obj)) (s : Shared) (σ : L2.St) (H : Hp) (x : V) (v : Value) (Q : VK) (F : Hp) (as : List Ad), Inv S.X pins σ H s → RelV x v →
    At S env μ σ H F as → DV S.Γ F as x d1 → Kv S F H as P Q → wpAny (model S.X.prog S.X.w) S.X.A (f v) (EP S.X pins σ Q) S.X.xe s
theorem Op1.of {f : Value → Sem Value} {r : V → Hp → VK → Prop} {d1 : D} (ho : UnR S.X f r) (h : ∀ F H as x Q, Wd S.Γ F H as μ → DV S.Γ F as x d1 → Kv S F H as P Q → r x H Q) : Op1 S f d1 env μ P :=
  fun pins s σ H x v Q F as I rx a h1 k => ho pins s σ H x v Q I rx (h F H as x Q a.w h1 k)
theorem e_un {op : UnaryOp} (h : E S a env μ fun d1 μ1 => Op1 S (unaryOp op) d1 env μ1 P) : E S (.UnaryOp op a pos) env μ P := by
  refine ⟨fun pins s σ H Q I ⟨F, as, a1, k⟩ => UnaryOp_ (thn (h.run pins s σ H (fun x H1 => ∃ F2 as2 d1 μ2, At S env μ2 σ H1 F2 as2 ∧ DV S.Γ F2 as2 x d1 ∧ Kv S F2 H1 as2 P Q ∧ Op1 S (unaryOp op) d1 env μ2 P) I ⟨F, as, a1, ?_⟩) fun v s1 ⟨x, H1, I1, r1, F2, as2, d1, μ2, a2, rr, k2, p2⟩ => ?_)⟩
  · exact fun d1 μ1 v1 F1 H1 as1 p1 g1 W1 r1 => ⟨F1, as1, d1, μ1, a1.go g1 W1, r1, k.go g1, p1⟩
  · exact p2 pins s1 σ H1 x v Q F2 as2 I1 r1 a2 rr k2

/-! ### arguments, calls of built-ins -/
theorem a_nil (k : PA' [] μ) : A S [] env μ PA' := PA.imp pa_nil fun σ H Q ⟨F, as, a, kk⟩ => kk [] μ [] F H as k (Go.refl F H as) a.w .nil
theorem a_cons (h : E S e env μ fun d μ1 => A S es env μ1 fun ds μ2 => PA' (d :: ds) μ2) (hs : starEach (e :: es) S.X.env = (false, eval e S.X.env) :: starEach es S.X.env := by rfl) : A S (e :: es) env μ PA' := by
  refine PA.imp (pa_cons pe_y pa_y hs) fun σ H Q ⟨F, as, a, k⟩ => ?_
  refine h.go a fun d μ1 v F1 H1 as1 p1 g1 W1 r1 => p1.go (a.go g1 W1) fun ds μ2 vs F2 H2 as2 p2 g2 W2 r2 => ?_
  exact k _ μ2 _ F2 H2 as2 p2 (g1.trans g2) W2 (.cons (r1.mono g2) r2)
/-- a call of a value with values -/
def Cl (S : Sc) (f : Value) (ds : List D) (env : En) (μ : Mu) (P : KD) : Prop :=
  ∀ (pins : List (Addr × Obj)) (s : Shared) (σ : L2.St) (H : Hp) (xs : List V) (us : List Value) (Q : VK) (F : Hp) (as : List Ad), Inv S.X pins σ H s → Vals xs us →
    At S env μ σ H F as → DVs S.Γ F as xs ds → Kv S F H as P Q → wpAny (model S.X.prog S.X.w) S.X.A (call f us) (EP S.X pins σ Q) S.X.xe s
theorem Cl.of {f : Value} {r : List V → Hp → VK → Prop} {ds : List D} (ho : CallR S.X f r) (h : ∀ F H as xs Q, Wd S.Γ F H as μ → DVs S.Γ F as xs ds → Kv S F H as P Q → r xs H Q) : Cl S f ds env μ P :=
  fun pins s σ H xs us Q F as I rx a h1 k => ho pins s σ H xs us Q I rx (h F H as xs Q a.w h1 k)
theorem arg_run {f : Value} (h : A S es env μ fun ds μ1 => Cl S f ds env μ1 P) {σ : L2.St} {H : Hp} {Q : VK} (q : rdE S env μ P σ H Q) :
    yA S.X es σ H fun xs H1 => ∀ (pins : List (Addr × Obj)) (s : Shared) (us : List Value), Inv S.X pins σ H1 s → Vals xs us → wpAny (model S.X.prog S.X.w) S.X.A (call f us) (EP S.X pins σ Q) S.X.xe s := by
  obtain ⟨F, as, a1, k⟩ := q
  exact h.go a1 fun ds μ1 vs F1 H1 as1 p1 g1 W1 r1 => fun pins s us I rx => p1 pins s σ H1 vs us Q F1 as1 I rx (a1.go g1 W1) r1 (k.go g1)
theorem e_callB {id : String} (hm : S.X.mg x = none) (hv : bootBuiltins x = some (.builtin id)) (h : A S (e :: es) env μ fun ds μ1 => Cl S (.builtin id) ds env μ1 P)
    (hg : Gl S.X x := by rfl) (hn : x ≠ "__name__" := by decide) (hdb : (x == ("__debug__" : Str)) = false := by decide)
    (he : starEach (e :: es) S.X.env = (false, eval e S.X.env) :: starEach es S.X.env := by rfl) (hpl : (backTo pos (starEach es S.X.env)).any (·.1) = false := by rfl) : E S (.Call (.Name x p0) (e :: es) [] pos) env μ P :=
  ⟨fun pins s σ H Q I q => wpAny_Call_Name_kw (ld_blt I hg hm hv (PyProof.Rows.callWith_builtin1 (thn (pa_y.run pos pins s σ H _ I (arg_run h q)) fun us s1 ⟨vs, H1, I1, r1, q1⟩ => q1 pins s1 us I1 r1) he hpl) hn hdb)⟩

theorem e_callTy {Ty : String} (hm : S.X.mg x = none) (hv : bootBuiltins x = some (.type Ty)) (h : A S (e :: es) env μ fun ds μ1 => Cl S (.type Ty) ds env μ1 P)
    (hg : Gl S.X x := by rfl) (hn : x ≠ "__name__" := by decide) (hdb : (x == ("__debug__" : Str)) = false := by decide)
    (he : starEach (e :: es) S.X.env = (false, eval e S.X.env) :: starEach es S.X.env := by rfl) (hpl : (backTo pos (starEach es S.X.env)).any (·.1) = false := by rfl) : E S (.Call (.Name x p0) (e :: es) [] pos) env μ P :=
  ⟨fun pins s σ H Q I q => wpAny_Call_Name_kw (ld_blt I hg hm hv (PyProof.Rows.callWith_type1 (thn (pa_y.run pos pins s σ H _ I (arg_run h q)) fun us s1 ⟨vs, H1, I1, r1, q1⟩ => q1 pins s1 us I1 r1) he hpl) hn hdb)⟩

/-! ### displays -/
theorem e_lst (h : A S es env μ fun ds μ1 => ds.length ≤ sizeLine ∧ P (.lst ds) μ1) : E S (.List es pos) env μ P := by
  refine PE.imp (pe_lst h) fun σ H Q ⟨F, as, a, k⟩ => ⟨F, as, a, fun ds μ1 vs F1 H1 as1 p1 g1 W1 r1 => ?_⟩
  refine ⟨by rw [r1.length]; exact p1.1, fun p np => ?_⟩
  obtain ⟨W2, g2⟩ := W1.addF (o := .lst vs) np
  exact k _ μ1 _ _ _ _ p1.2 (g1.trans g2) W2 (.lst upd_same (r1.mono g2))
theorem e_lstC (h : A S es env μ fun ds μ1 => ds.length ≤ sizeLine ∧ P (.cell μ1.length) (μ1 ++ [.lst ds])) : E S (.List es pos) env μ P := by
  refine PE.imp (pe_lst h) fun σ H Q ⟨F, as, a, k⟩ => ⟨F, as, a, fun ds μ1 vs F1 H1 as1 p1 g1 W1 r1 => ?_⟩
  refine ⟨by rw [r1.length]; exact p1.1, fun p np => ?_⟩
  obtain ⟨W2, g2⟩ := W1.addO (o := .lst vs) (c := .lst ds) np fun nF => ⟨rfl, nF, vs, upd_same, r1.to (Same.refl F1) (fun j hj ad e => by rw [List.getElem?_append_left (List.getElem?_eq_some_iff.mp e).1]; exact e)⟩
  exact k _ _ _ _ _ _ p1.2 (g1.trans g2) W2 (.cell (ad := ⟨p, none⟩) (W1.last _))
theorem e_tup {j : Nat} (h : A S es env μ fun ds μ1 => ds.length ≤ sizeLine ∧ P (.tup ds) μ1) : E S (.Tuple es j pos) env μ P := by
  refine PE.imp (pe_tup h) fun σ H Q ⟨F, as, a, k⟩ => ⟨F, as, a, fun ds μ1 vs F1 H1 as1 p1 g1 W1 r1 => ?_⟩
  refine ⟨by rw [r1.length]; exact p1.1, fun p np => ?_⟩
  obtain ⟨W2, g2⟩ := W1.addF (o := .tup vs) np
  exact k _ μ1 _ _ _ _ p1.2 (g1.trans g2) W2 (.tup upd_same (r1.mono g2))

/-! ### tests and truths -/
theorem w_and1 (h : T S a env μ PB) : W S (.BoolOp .And [a] pos) env μ PB := pw_and1 h
theorem w_or1 (h : T S a env μ PB) : W S (.BoolOp .Or [a] pos) env μ PB := pw_or1 h
theorem w_and (h : T S a env μ fun q μ1 => (q = true → W S (.BoolOp .And (b :: es) pos) env μ1 PB) ∧ (q = false → PB false μ1)) : W S (.BoolOp .And (a :: b :: es) pos) env μ PB := by
  refine PW.imp (pw_and h pw_y) fun σ H Q ⟨F, as, a1, k⟩ => ⟨F, as, a1, fun q μ1 F1 H1 as1 p1 g1 W1 => ?_⟩
  cases q with
  | true => exact (p1.1 rfl).go (a1.go g1 W1) fun b m F2 H2 as2 p2 g2 W2 => k b m F2 H2 as2 p2 (g1.trans g2) W2
  | false => exact k false μ1 F1 H1 as1 (p1.2 rfl) g1 W1
theorem w_or (h : T S a env μ fun q μ1 => (q = true → PB true μ1) ∧ (q = false → W S (.BoolOp .Or (b :: es) pos) env μ1 PB)) : W S (.BoolOp .Or (a :: b :: es) pos) env μ PB := by
  refine PW.imp (pw_or h pw_y) fun σ H Q ⟨F, as, a1, k⟩ => ⟨F, as, a1, fun q μ1 F1 H1 as1 p1 g1 W1 => ?_⟩
  cases q with
  | false => exact (p1.2 rfl).go (a1.go g1 W1) fun b m F2 H2 as2 p2 g2 W2 => k b m F2 H2 as2 p2 (g1.trans g2) W2
  | true => exact k true μ1 F1 H1 as1 (p1.1 rfl) g1 W1
theorem t_bop {op : BoolOp} (h : W S (.BoolOp op es pos) env μ PB) : T S (.BoolOp op es pos) env μ PB := h.t
theorem t_not (h : T S a env μ fun q m => PB (!q) m) : T S (.UnaryOp .Not a pos) env μ PB :=
  PT.imp (pt_not h) fun σ H Q ⟨F, as, a1, k⟩ => ⟨F, as, a1, fun q m F1 H1 as1 p g1 W1 => k (!q) m F1 H1 as1 p g1 W1⟩
theorem t_val (h : E S e env μ (asT PB)) (hp : ∀ whole, isTrue e S.X.env whole = (do let v ← whole; standAt e.pos; holding [v] (truthy v)) := by intro _; rfl) : T S e env μ PB :=
  PT.imp (pt_val h hp) fun σ H Q ⟨F, as, a, k⟩ => ⟨F, as, a, fun d m v F1 H1 as1 ⟨q, e1, p⟩ g1 W1 r1 => by
    subst e1
    cases r1
    exact ⟨q, rfl, k q m F1 H1 as1 p g1 W1⟩⟩
theorem e_one {op : BoolOp} (h : E S a env μ P) : E S (.BoolOp op [a] pos) env μ P := pe_one h
theorem e_and (h : E S a env μ fun d μ1 => ∃ q, d = .bl q ∧ (q = true → E S (.BoolOp .And (b :: es) pos) env μ1 P) ∧ (q = false → P (.bl false) μ1)) : E S (.BoolOp .And (a :: b :: es) pos) env μ P := by
  refine PE.imp (pe_and h pe_y) fun σ H Q ⟨F, as, a1, k⟩ => ⟨F, as, a1, fun d μ1 v F1 H1 as1 ⟨q, e1, pt, pf⟩ g1 W1 r1 => ?_⟩
  subst e1
  cases r1
  refine ⟨q, rfl, ?_⟩
  cases q with
  | true => exact (pt rfl).go (a1.go g1 W1) fun d m v F2 H2 as2 p2 g2 W2 => k d m v F2 H2 as2 p2 (g1.trans g2) W2
  | false => exact k _ μ1 _ F1 H1 as1 (pf rfl) g1 W1 (.bl false)
theorem e_or (h : E S a env μ fun d μ1 => ∃ q, d = .bl q ∧ (q = true → P (.bl true) μ1) ∧ (q = false → E S (.BoolOp .Or (b :: es) pos) env μ1 P)) : E S (.BoolOp .Or (a :: b :: es) pos) env μ P := by
  refine PE.imp (pe_or h pe_y) fun σ H Q ⟨F, as, a1, k⟩ => ⟨F, as, a1, fun d μ1 v F1 H1 as1 ⟨q, e1, pt, pf⟩ g1 W1 r1 => ?_⟩
  subst e1
  cases r1
  refine ⟨q, rfl, ?_⟩
  cases q with
  | false => exact (pf rfl).go (a1.go g1 W1) fun d m v F2 H2 as2 p2 g2 W2 => k d m v F2 H2 as2 p2 (g1.trans g2) W2
  | true => exact k _ μ1 _ F1 H1 as1 (pt rfl) g1 W1 (.bl true)
theorem e_not (h : E S a env μ fun d m => ∃ q, d = .bl q ∧ P (.bl (!q)) m) : E S (.UnaryOp .Not a pos) env μ P :=
  PE.imp (pe_not h) fun σ H Q ⟨F, as, a1, k⟩ => ⟨F, as, a1, fun d m v F1 H1 as1 ⟨q, e1, p⟩ g1 W1 r1 => by
    subst e1
    cases r1
    exact ⟨q, rfl, k _ m _ F1 H1 as1 p g1 W1 (.bl _)⟩⟩
theorem e_ite (h : T S c env μ fun q μ1 => (q = true → E S a env μ1 P) ∧ (q = false → E S b env μ1 P)) : E S (.IfExp c a b pos) env μ P := by
  refine PE.imp (pe_ifExp h pe_y pe_y) fun σ H Q ⟨F, as, a1, k⟩ => ⟨F, as, a1, fun q μ1 F1 H1 as1 p g1 W1 => ?_⟩
  cases q with
  | true => exact (p.1 rfl).go (a1.go g1 W1) fun d m v F2 H2 as2 p2 g2 W2 => k d m v F2 H2 as2 p2 (g1.trans g2) W2
  | false => exact (p.2 rfl).go (a1.go g1 W1) fun d m v F2 H2 as2 p2 g2 W2 => k d m v F2 H2 as2 p2 (g1.trans g2) W2
/-! ### slices -/
def OI (S : Sc) (e : Option Expr) (env : En) (μ : Mu) (P : Option Int → Mu → Prop) : Prop := PO S.X e fun σ H Q => ∃ F as, At S env μ σ H F as ∧ ∀ o μ' F' H' as', P o μ' → Go F H as F' H' as' → Wd S.Γ F' H' as' μ' → Q o H'
theorem o_none {PP : Option Int → Mu → Prop} (k : PP none μ) : OI S none env μ PP := PO.imp po_none fun σ H Q ⟨F, as, a, kk⟩ => kk none μ F H as k (Go.refl F H as) a.w
theorem o_some {PP : Option Int → Mu → Prop} (h : E S e env μ fun d m => ∃ i, d = .int i ∧ PP (some i) m) : OI S (some e) env μ PP :=
  PO.imp (po_some h) fun σ H Q ⟨F, as, a, kk⟩ => ⟨F, as, a, fun d m v F1 H1 as1 ⟨i, e1, p⟩ g1 W1 r1 => by
    subst e1
    cases r1
    exact ⟨i, rfl, kk _ m F1 H1 as1 p g1 W1⟩⟩
def Sl3 (S : Sc) (d : D) (lo hi : Option Int) (μ : Mu) (P : KD) : Prop := ∃ r, SlR S.X r ∧ ∀ F H as x Q, Wd S.Γ F H as μ → DV S.Γ F as x d → Kv S F H as P Q → r x lo hi H Q
theorem e_sl {lo hi : Option Expr} {p2 : Pos} (h : E S e env μ fun d μ1 => OI S lo env μ1 fun i μ2 => OI S hi env μ2 fun j μ3 => Sl3 S d i j μ3 P) : E S (.Subscript e (.Slice lo hi none p2) pos) env μ P := by
  have sl : SlR S.X (fun x lo hi H Q => ∃ r, SlR S.X r ∧ r x lo hi H Q) := fun pins s σ H x v vl vu lo hi sl Q I rx hs pl pu ⟨r, h, q⟩ => h pins s σ H x v vl vu lo hi sl Q I rx hs pl pu q
  refine PE.imp (pe_slice sl pe_y po_y po_y) fun σ H Q ⟨F, as, a, k⟩ => ?_
  refine h.go a fun d μ1 v F1 H1 as1 p1 g1 W1 r1 => ⟨_, p1, F1, as1, a.go g1 W1, fun i μ2 F2 H2 as2 p2 g2 W2 => ⟨_, p2, F2, as2, (a.go g1 W1).go g2 W2, fun j μ3 F3 H3 as3 p3 g3 W3 => ?_⟩⟩
  obtain ⟨r, hr, hh⟩ := p3
  exact ⟨r, hr, hh F3 H3 as3 v Q W3 ((r1.mono g2).mono g3) (((k.go g1).go g2).go g3)⟩
end
end Me

/-! Me3: statements, loops, comprehensions. -/
namespace Me
open PySem PySem.Spec PyProof.Rows L2

inductive Out where
  | next (env : En) (μ : Mu)
  | ret (d : D) (μ : Mu)
  | brk (env : En) (μ : Mu)
  | cont (env : En) (μ : Mu)
structure Ed (S : Sc) (F H : Hp) (as : List Ad) (R : Out → Prop) (D : Ends) : Prop where
  nx : ∀ env' μ' σ' F' H' as', R (.next env' μ') → Go F H as F' H' as' → EnvOk S.Γ F' as' env' σ' → Wd S.Γ F' H' as' μ' → D.nx σ' H'
  rt : ∀ d μ' v F' H' as', R (.ret d μ') → Go F H as F' H' as' → Wd S.Γ F' H' as' μ' → DV S.Γ F' as' v d → D.rt v H'
  bk : ∀ env' μ' σ' F' H' as', R (.brk env' μ') → Go F H as F' H' as' → EnvOk S.Γ F' as' env' σ' → Wd S.Γ F' H' as' μ' → D.bk σ' H'
  ct : ∀ env' μ' σ' F' H' as', R (.cont env' μ') → Go F H as F' H' as' → EnvOk S.Γ F' as' env' σ' → Wd S.Γ F' H' as' μ' → D.ct σ' H'
theorem Ed.go {S : Sc} {F H F1 H1 : Hp} {as as1 : List Ad} {R : Out → Prop} {D : Ends} (k : Ed S F H as R D) (g : Go F H as F1 H1 as1) : Ed S F1 H1 as1 R D :=
  ⟨fun e m s F' H' as' r g' => k.nx e m s F' H' as' r (g.trans g'), fun e m s F' H' as' r g' => k.rt e m s F' H' as' r (g.trans g'),
   fun e m s F' H' as' r g' => k.bk e m s F' H' as' r (g.trans g'), fun e m s F' H' as' r g' => k.ct e m s F' H' as' r (g.trans g')⟩
theorem Ed.imp {S : Sc} {F H : Hp} {as : List Ad} {R R' : Out → Prop} {D : Ends} (k : Ed S F H as R D) (i : ∀ o, R' o → R o) : Ed S F H as R' D :=
  ⟨fun e m s F' H' as' r => k.nx e m s F' H' as' (i _ r), fun e m s F' H' as' r => k.rt e m s F' H' as' (i _ r), fun e m s F' H' as' r => k.bk e m s F' H' as' (i _ r), fun e m s F' H' as' r => k.ct e m s F' H' as' (i _ r)⟩
def rdS (S : Sc) (env : En) (μ : Mu) (R : Out → Prop) : TS := fun D σ H => ∃ F as, At S env μ σ H F as ∧ Ed S F H as R D
def B (S : Sc) (sts : List Stmt) (env : En) (μ : Mu) (R : Out → Prop) : Prop := PSs S.X sts (rdS S env μ R)
def B1 (S : Sc) (st : Stmt) (env : En) (μ : Mu) (R : Out → Prop) : Prop := PS S.X st (rdS S env μ R)

section
variable {S : Sc} {env : En} {μ : Mu} {a b c e tg iter : Expr} {es : List Expr} {st : Stmt} {rest body A1 B1' : List Stmt} {R R1 : Out → Prop} {pos p0 p1 p2 : Pos} {x y z : Str} {P : KD}
theorem B.imp (h : B S body env μ R1) (i : ∀ o, R1 o → R o) : B S body env μ R := PSs.imp h fun D σ H ⟨F, as, a, k⟩ => ⟨F, as, a, k.imp i⟩
theorem B.go (h : B S body env μ R) {σ : L2.St} {H F : Hp} {as : List Ad} {D : Ends} (a : At S env μ σ H F as) (k : Ed S F H as R D) : yS S.X body D σ H := ⟨_, h, F, as, a, k⟩
/-- a block that the rest follows -/
def Thn (S : Sc) (rest : List Stmt) (R : Out → Prop) : Out → Prop
  | .next env μ => B S rest env μ R
  | o => R o
theorem b_nil (h : R (.next env μ)) : B S [] env μ R := PSs.imp pss_nil fun D σ H ⟨F, as, a, k⟩ => k.nx env μ σ F H as h (Go.refl F H as) a.e a.w
theorem b_cons (h1 : B1 S st env μ (Thn S rest R)) : B S (st :: rest) env μ R := by
  refine PSs.imp (pss_cons h1 pss_y) fun D σ H ⟨F, as, a, k⟩ => ?_
  refine ⟨F, as, a, fun env' μ' σ' F' H' as' h g he' W' => ?_, k.rt, k.bk, k.ct⟩
  exact B.go h ⟨he', W', a.k.go g⟩ (k.go g)
theorem b_set (i : Nat) (h : E S e env μ fun d μ1 => B S rest (env.set i (some d)) μ1 R) (hi : S.X.N[i]? = some x := by rfl)
    (hx : Loc S.X.env.scope x := by first | exact .inl rfl | exact .inr rfl) (hs : swapsWith e (some (.Name x p0)) pos.line S.X.env = pure false := by rfl)
    (hf : S.X.fn x = true ∨ S.X.env.scope.names.lookup x = some .local := by first | exact .inl rfl | exact .inr rfl) : B S (.Assign [.Name x p0] e pos :: rest) env μ R := by
  refine b_cons (PS.imp (ps_set S.hN hi hx h hs hf) fun D σ H ⟨F, as, a, k⟩ => ?_)
  exact ⟨F, as, a, fun d μ1 v F1 H1 as1 p1 g1 W1 r1 => k.nx _ μ1 _ F1 H1 as1 p1 g1 ((a.e.mono g1).set r1 i) W1⟩
theorem b_ret (h : E S e env μ fun d μ1 => R (.ret d μ1)) : B S (.Return (some e) pos :: rest) env μ R :=
  b_cons (PS.imp (ps_ret h) fun D σ H ⟨F, as, a, k⟩ => ⟨F, as, a, fun d μ1 v F1 H1 as1 p1 g1 W1 r1 => k.rt d μ1 v F1 H1 as1 p1 g1 W1 r1⟩)
theorem b_expr (h : E S e env μ fun d μ1 => B S rest env μ1 R) (hs : swapsWith e none pos.line S.X.env = pure false := by rfl) : B S (.Expr e pos :: rest) env μ R :=
  b_cons (PS.imp (ps_expr h hs) fun D σ H ⟨F, as, a, k⟩ => ⟨F, as, a, fun d μ1 v F1 H1 as1 p1 g1 W1 r1 => k.nx env μ1 σ F1 H1 as1 p1 g1 (a.e.mono g1) W1⟩)
theorem b_brk (h : R (.brk env μ)) : B S (.Break pos :: rest) env μ R := b_cons (PS.imp ps_break fun D σ H ⟨F, as, a, k⟩ => k.bk env μ σ F H as h (Go.refl F H as) a.e a.w)
theorem b_cont (h : R (.cont env μ)) : B S (.Continue pos :: rest) env μ R := b_cons (PS.imp ps_continue fun D σ H ⟨F, as, a, k⟩ => k.ct env μ σ F H as h (Go.refl F H as) a.e a.w)
theorem b_if (h : T S c env μ fun q μ1 => (q = true → B S A1 env μ1 (Thn S rest R)) ∧ (q = false → B S B1' env μ1 (Thn S rest R))) : B S (.If c A1 B1' pos :: rest) env μ R := by
  refine b_cons (PS.imp (ps_if h pss_y pss_y) fun D σ H ⟨F, as, a, k⟩ => ⟨F, as, a, fun q μ1 F1 H1 as1 p1 g1 W1 => ?_⟩)
  cases q with
  | true => exact (p1.1 rfl).go (a.go g1 W1) (k.go g1)
  | false => exact (p1.2 rfl).go (a.go g1 W1) (k.go g1)
/-- an if whose ways meet -/
def JR (J : En → Mu → Prop) (R : Out → Prop) : Out → Prop
  | .next env μ => J env μ
  | o => R o
theorem JR.thn {J : En → Mu → Prop} (hJ : ∀ env μ, J env μ → B S rest env μ R) : ∀ o, JR J R o → Thn S rest R o
  | .next env μ, h => hJ env μ h
  | .ret _ _, h => h
  | .brk _ _, h => h
  | .cont _ _, h => h
theorem b_ifJ (J : En → Mu → Prop) (h : T S c env μ fun q μ1 => (q = true → B S A1 env μ1 (JR J R)) ∧ (q = false → B S B1' env μ1 (JR J R))) (hJ : ∀ env μ, J env μ → B S rest env μ R) : B S (.If c A1 B1' pos :: rest) env μ R :=
  b_if (h.imp fun q m p => ⟨fun z => (p.1 z).imp (JR.thn hJ), fun z => (p.2 z).imp (JR.thn hJ)⟩)
/-- x, y = a, b -/
theorem b_par (i j : Nat) {pt pt2 : Pos} {kt k2 : Nat} (hc : S.X.calm = true) (h : A S [a, b] env μ fun ds μ1 => ∃ d1 d2, ds = [d1, d2] ∧ B S rest ((env.set i (some d1)).set j (some d2)) μ1 R)
    (hi : S.X.N[i]? = some x := by rfl) (hj : S.X.N[j]? = some y := by rfl) (hij : i ≠ j := by decide) (hx : S.X.env.scope.names.lookup x = some .local := by rfl) (hy : S.X.env.scope.names.lookup y = some .local := by rfl)
    (hw : swappedStores [.Tuple [.Name x p0, .Name y p1] kt pt] (.Tuple [a, b] k2 pt2) S.X.env = pure (some [x, y]) := by rfl)
    (hs : swapsWithSole [.Tuple [.Name x p0, .Name y p1] kt pt] (.Tuple [a, b] k2 pt2) pos.line S.X.env = pure false := by rfl) :
    B S (.Assign [.Tuple [.Name x p0, .Name y p1] kt pt] (.Tuple [a, b] k2 pt2) pos :: rest) env μ R := by
  refine b_cons (PS.imp (ps_par hc S.hN hi hj hij hx hy h hw hs) fun D σ H ⟨F, as, a, k⟩ => ?_)
  refine ⟨F, as, a, fun ds μ1 vs F1 H1 as1 ⟨d1, d2, e1, p1⟩ g1 W1 r1 => ?_⟩
  subst e1
  cases r1 with
  | cons h1 t1 =>
    cases t1 with
    | cons h2 t2 =>
      cases t2
      exact ⟨_, _, rfl, k.nx _ μ1 _ F1 H1 as1 p1 g1 (((a.e.mono g1).set h1 i).set h2 j) W1⟩

/-! ### targets, iterables -/
/-- a value goes to a target -/
def rdG (S : Sc) (rel : D → En → En → Prop) (vs : List Nat) : TG := fun v σ H Q =>
  ∃ d env env' F as, rel d env env' ∧ DV S.Γ F as v d ∧ Same F H ∧ EnvOk S.Γ F as env σ ∧ ∀ σ', EnvOk S.Γ F as env' σ' → wipe σ' vs = wipe σ vs → Q σ' H
def Tg (S : Sc) (tg : Expr) (rel : D → En → En → Prop) (vs : List Nat) : Prop := PG S.X tg (rdG S rel vs)
theorem wipe1 (σ : L2.St) (i : Nat) (a : Option V) : wipe (σ.set i a) [i] = wipe σ [i] := List.set_set _
theorem wipe2 (σ : L2.St) (i j : Nat) (a b : Option V) : wipe ((σ.set i a).set j b) [i, j] = wipe σ [i, j] := by
  show (((σ.set i a).set j b).set j none).set i none = (σ.set j none).set i none
  rw [List.set_set]
  by_cases h : i = j
  · subst h; rw [List.set_set, List.set_set, List.set_set]
  · rw [List.set_comm _ _ (Ne.symm h), List.set_set, List.set_comm _ _ h]
theorem wipe3 (σ : L2.St) (i j k : Nat) (a b c : Option V) (h1 : i ≠ j) (h2 : i ≠ k) (h3 : j ≠ k) : wipe (((σ.set i a).set j b).set k c) [i, j, k] = wipe σ [i, j, k] := by
  show (((((σ.set i a).set j b).set k c).set k none).set j none).set i none = ((σ.set k none).set j none).set i none
  rw [List.set_set, List.set_comm _ _ (Ne.symm h3), List.set_set, List.set_comm _ _ (Ne.symm h2), List.set_comm _ _ (Ne.symm h1), List.set_set, List.set_comm _ _ h1, List.set_comm _ _ h2, List.set_comm _ _ h3]
def rName (i : Nat) : D → En → En → Prop := fun d env env' => env' = env.set i (some d)
def rPair (i j : Nat) : D → En → En → Prop := fun d env env' => ∃ d1 d2, d = .tup [d1, d2] ∧ env' = (env.set i (some d1)).set j (some d2)
def rTri (i j k : Nat) : D → En → En → Prop := fun d env env' => ∃ d1 d2 d3, d = .tup [d1, d2, d3] ∧ env' = ((env.set i (some d1)).set j (some d2)).set k (some d3)
theorem g_name (i : Nat) (hi : S.X.N[i]? = some x := by rfl) (hx : Loc S.X.env.scope x := by first | exact .inl rfl | exact .inr rfl)
    (hf : S.X.fn x = true ∨ S.X.env.scope.names.lookup x = some .local := by first | exact .inl rfl | exact .inr rfl) : Tg S (.Name x pos) (rName i) [i] :=
  ⟨fun pins s σ H v u Q I r ⟨d, env, env', F, as, h, dv, sm, he, k⟩ => (pg_name (i := i) S.hN hi hx hf).run pins s σ H v u Q I r (k _ (h ▸ he.set dv i) (wipe1 σ i _))⟩
theorem g_tup2 (i j : Nat) {k : Nat} (hc : S.X.calm = true) (hi : S.X.N[i]? = some x := by rfl) (hj : S.X.N[j]? = some y := by rfl) (hx : Loc S.X.env.scope x := by first | exact .inl rfl | exact .inr rfl) (hy : Loc S.X.env.scope y := by first | exact .inl rfl | exact .inr rfl)
    (hf : S.X.fn x = true ∨ S.X.env.scope.names.lookup x = some .local := by first | exact .inl rfl | exact .inr rfl) (hf2 : S.X.fn y = true ∨ S.X.env.scope.names.lookup y = some .local := by first | exact .inl rfl | exact .inr rfl) :
    Tg S (.Tuple [.Name x p0, .Name y p1] k pos) (rPair i j) [i, j] := by
  refine ⟨fun pins s σ H v u Q I r ⟨d, env, env', F, as, ⟨d1, d2, e1, e2⟩, dv, sm, he, kk⟩ => ?_⟩
  subst e1 e2
  cases dv with
  | tup e q =>
    cases q with
    | cons q1 t1 =>
      cases t1 with
      | cons q2 t2 =>
        cases t2
        refine (pg_tup hc (pgs_cons (pg_name (i := i) S.hN hi hx hf) (pgs_cons (pg_name (i := j) S.hN hj hy hf2) pgs_nil))).run pins s σ H _ u Q I r ?_
        exact ⟨_, _, rfl, Or.inl (Or.inl (sm _ _ e)), rfl, _, _, rfl, _, _, rfl, rfl, kk _ ((he.set q1 i).set q2 j) (wipe2 σ i j _ _)⟩
theorem g_tup3 (i j l : Nat) {k : Nat} (hc : S.X.calm = true) (hi : S.X.N[i]? = some x := by rfl) (hj : S.X.N[j]? = some y := by rfl) (hl : S.X.N[l]? = some z := by rfl) (h12 : i ≠ j := by decide) (h13 : i ≠ l := by decide) (h23 : j ≠ l := by decide)
    (hx : Loc S.X.env.scope x := by first | exact .inl rfl | exact .inr rfl) (hy : Loc S.X.env.scope y := by first | exact .inl rfl | exact .inr rfl) (hz : Loc S.X.env.scope z := by first | exact .inl rfl | exact .inr rfl)
    (hf : S.X.fn x = true ∨ S.X.env.scope.names.lookup x = some .local := by first | exact .inl rfl | exact .inr rfl) (hf2 : S.X.fn y = true ∨ S.X.env.scope.names.lookup y = some .local := by first | exact .inl rfl | exact .inr rfl)
    (hf3 : S.X.fn z = true ∨ S.X.env.scope.names.lookup z = some .local := by first | exact .inl rfl | exact .inr rfl) :
    Tg S (.Tuple [.Name x p0, .Name y p1, .Name z p2] k pos) (rTri i j l) [i, j, l] := by
  refine ⟨fun pins s σ H v u Q I r ⟨d, env, env', F, as, ⟨d1, d2, d3, e1, e2⟩, dv, sm, he, kk⟩ => ?_⟩
  subst e1 e2
  cases dv with
  | tup e q =>
    cases q with
    | cons q1 t1 =>
      cases t1 with
      | cons q2 t2 =>
        cases t2 with
        | cons q3 t3 =>
          cases t3
          refine (pg_tup hc (pgs_cons (pg_name (i := i) S.hN hi hx hf) (pgs_cons (pg_name (i := j) S.hN hj hy hf2) (pgs_cons (pg_name (i := l) S.hN hl hz hf3) pgs_nil)))).run pins s σ H _ u Q I r ?_
          exact ⟨_, _, rfl, Or.inl (Or.inl (sm _ _ e)), rfl, _, _, rfl, _, _, rfl, _, _, rfl, rfl, kk _ (((he.set q1 i).set q2 j).set q3 l) (wipe3 σ i j l _ _ _ h12 h13 h23)⟩

/-- what a walk over the data ds is, while Sx holds of the cells -/
def IsWalk (S : Sc) (ds : List D) (Sx : Mu → Prop) (F1 H1 : Hp) (as1 : List Ad) (J : It) : Prop := ∃ G Y, Walk J ds.length G Y ∧
  (∀ F2 H2 as2 μ2, Go F1 H1 as1 F2 H2 as2 → Wd S.Γ F2 H2 as2 μ2 → Sx μ2 → G H2) ∧
  (∀ (i : Nat) F2 H2 as2 μ2 x H', Go F1 H1 as1 F2 H2 as2 → Wd S.Γ F2 H2 as2 μ2 → Sx μ2 → Y i H2 x H' → i < ds.length → ∃ F3 d, ds[i]? = some d ∧ Go F2 H2 as2 F3 H' as2 ∧ Wd S.Γ F3 H' as2 μ2 ∧ DV S.Γ F3 as2 x d)
abbrev KI := List D → (Mu → Prop) → Mu → Prop
def rdI (S : Sc) (env : En) (μ : Mu) (PI : KI) : TI := fun σ H R => ∃ F as, At S env μ σ H F as ∧ ∀ ds Sx μ1 J F1 H1 as1, PI ds Sx μ1 → Go F H as F1 H1 as1 → Wd S.Γ F1 H1 as1 μ1 → IsWalk S ds Sx F1 H1 as1 J → R J H1
def Iter (S : Sc) (tg iter : Expr) (env : En) (μ : Mu) (PI : KI) : Prop := L2.PI S.X tg iter (rdI S env μ PI)
end
end Me

/-! Me4: iterables, loops, comprehensions. -/
namespace Me
open PySem PySem.Spec PyProof.Rows L2
/-- what a value is, a cell opened -/
def vw (μ : Mu) : D → D
  | .cell j => match μ[j]? with
    | some (.lst ds) => .lst ds
    | some (.dct t _ kvs) => .dct t kvs
    | some (.ins c fs) => .ins c fs
    | _ => .cell j
  | d => d
section
variable {Γ : Gam} {F H : Hp} {as : List Ad} {μ : Mu} {v : V} {d : D} {ds : List D}
theorem Wd.lst (W : Wd Γ F H as μ) (r : DV Γ F as v d) (h : vw μ d = .lst ds) : ∃ a vs, v = .ref a ∧ H a = some (.lst vs) ∧ DVs Γ F as vs ds := by
  cases r with
  | lst h1 h2 =>
    obtain rfl := D.lst.inj h
    exact ⟨_, _, rfl, W.sub _ _ h1, h2⟩
  | @cell j ad h1 =>
    simp only [vw] at h
    cases hc : μ[j]? with
    | none => rw [hc] at h; cases h
    | some c =>
      rw [hc] at h
      cases c with
      | lst es =>
        obtain rfl := D.lst.inj h
        obtain ⟨_, _, vs, h2, h3⟩ := W.ok j ad _ h1 hc
        exact ⟨_, vs, rfl, h2, h3⟩
      | dct _ _ _ => cases h
      | ins _ _ => cases h
      | dead => cases h
  | non => cases h
  | bl _ => cases h
  | int _ => cases h
  | str _ => cases h
  | tup _ _ => cases h
  | dctK _ _ => cases h
  | dctT _ _ => cases h
  | ins _ _ _ => cases h
  | err0 _ _ => cases h
  | ty _ => cases h
  | cls _ => cases h
  | err1 _ _ _ _ => cases h
theorem DV.tupV (r : DV Γ F as v (.tup ds)) : ∃ a vs, v = .ref a ∧ F a = some (.tup vs) ∧ DVs Γ F as vs ds := by
  cases r with
  | tup h1 h2 => exact ⟨_, _, rfl, h1, h2⟩
end
section
variable {S : Sc} {env : En} {μ : Mu} {a b c e tg iter : Expr} {es : List Expr} {st : Stmt} {rest body : List Stmt} {R : Out → Prop} {pos p0 p1 p2 : Pos} {x y z : Str} {P : KD} {PI : KI}
theorem stays_walk {ds : List D} {J : It} {F1 H1 : Hp} {as1 : List Ad} {Sx : Mu → Prop} (G : Hp → Prop) (Y : Nat → Hp → V → Hp → Prop) (w : Walk J ds.length G Y)
    (hG : ∀ F2 H2 as2 μ2, Go F1 H1 as1 F2 H2 as2 → Wd S.Γ F2 H2 as2 μ2 → Sx μ2 → G H2)
    (hY : ∀ (i : Nat) F2 H2 as2 μ2 x H', Go F1 H1 as1 F2 H2 as2 → Wd S.Γ F2 H2 as2 μ2 → Sx μ2 → Y i H2 x H' → i < ds.length → H' = H2 ∧ ∃ d, ds[i]? = some d ∧ DV S.Γ F2 as2 x d) : IsWalk S ds Sx F1 H1 as1 J :=
  ⟨G, Y, w, hG, fun i F2 H2 as2 μ2 x H' g2 W2 s2 y hi => by
    obtain ⟨rfl, d, h1, h2⟩ := hY i F2 H2 as2 μ2 x H' g2 W2 s2 y hi
    exact ⟨F2, d, h1, Go.refl _ _ _, W2, h2⟩⟩
theorem i_lst (h : E S iter env μ fun d m => ∃ ds, vw m d = .lst ds ∧ PI ds (fun m' => vw m' d = .lst ds) m) : Iter S tg iter env μ PI := by
  refine Me.PI.imp (pi_list h) fun σ H R ⟨F, as, a, k⟩ => ⟨F, as, a, fun d m v F1 H1 as1 ⟨ds, hv, p1⟩ g1 W1 r1 => ?_⟩
  obtain ⟨p, vs, rfl, e, q⟩ := W1.lst r1 hv
  have same : ∀ F2 H2 as2 μ2, Go F1 H1 as1 F2 H2 as2 → Wd S.Γ F2 H2 as2 μ2 → vw μ2 d = .lst ds → ∃ ws, H2 p = some (.lst ws) ∧ DVs S.Γ F2 as2 ws ds := by
    intro F2 H2 as2 μ2 g2 W2 h2
    obtain ⟨p', ws, e', q1, q2⟩ := W2.lst (r1.mono g2) h2
    obtain rfl := V.ref.inj e'
    exact ⟨ws, q1, q2⟩
  refine ⟨p, rfl, ⟨vs, .inl (.inl e)⟩, k ds _ m (Itl S.X.K p) F1 H1 as1 p1 g1 W1 ?_⟩
  refine stays_walk (fun H2 => ∃ ws, H2 p = some (.lst ws) ∧ ws.length = ds.length) (fun i H x H' => H' = H ∧ ∃ ws, H p = some (.lst ws) ∧ ws[i]? = some x) ⟨?_, ?_, ?_⟩ ?_ ?_
  · exact fun i H hi ⟨ws, h1, h2⟩ => ⟨ws, ws[i]'(by omega), .inl (.inl h1), by simp [h2, hi]⟩
  · exact fun H ⟨ws, h1, h2⟩ => ⟨ws, .inl (.inl h1), by omega⟩
  · exact fun i H x H' hi ⟨ws, h1, h2⟩ y => ⟨y.1, ws, h1, y.2 ws (.inl (.inl h1))⟩
  · exact fun F2 H2 as2 μ2 g2 W2 h2 => let ⟨ws, q1, q2⟩ := same F2 H2 as2 μ2 g2 W2 h2; ⟨ws, q1, q2.length⟩
  · rintro i F2 H2 as2 μ2 x H' g2 W2 h2 ⟨rfl, ws, q1, q2⟩ hi
    obtain ⟨ws', q1', q2'⟩ := same F2 _ as2 μ2 g2 W2 h2
    rw [q1] at q1'
    obtain rfl := HO.lst.inj (Option.some.inj q1')
    exact ⟨rfl, q2'.getV q2⟩
theorem i_tup (h : E S iter env μ fun d m => ∃ ds, d = .tup ds ∧ PI ds (fun _ => True) m) : Iter S tg iter env μ PI := by
  refine Me.PI.imp (pi_tup h) fun σ H R ⟨F, as, a, k⟩ => ⟨F, as, a, fun d m v F1 H1 as1 ⟨ds, hv, p1⟩ g1 W1 r1 => ?_⟩
  subst hv
  obtain ⟨p, vs, rfl, e, q⟩ := DV.tupV r1
  refine ⟨p, rfl, ⟨vs, .inl (.inl (W1.sub _ _ e))⟩, k ds _ m (Itt S.X.K p) F1 H1 as1 p1 g1 W1 ?_⟩
  refine stays_walk (fun H => SqT S.X.K H p vs) (YAt vs) (by rw [← q.length]; exact walk_tup) ?_ ?_
  · exact fun F2 H2 as2 μ2 g2 W2 _ => .inl (.inl (W2.sub _ _ (g2.sub _ _ e)))
  · rintro i F2 H2 as2 μ2 x H' g2 W2 h2 ⟨rfl, y⟩ hi
    obtain ⟨d, h1, h2⟩ := q.getV y
    exact ⟨rfl, d, h1, h2.mono g2⟩
def rangeD (lo : Int) (n : Nat) : List D := (List.range n).map fun (i : Nat) => D.int (lo + i)
theorem rangeD_len (lo : Int) (n : Nat) : (rangeD lo n).length = n := by unfold rangeD; simp
theorem rangeD_get {lo : Int} {n i : Nat} (h : i < n) : (rangeD lo n)[i]? = some (.int (lo + i)) := by unfold rangeD; simp [h]
theorem range_go {lo : Int} {n : Nat} {F1 H1 : Hp} {as1 : List Ad} : IsWalk S (rangeD lo n) (fun _ => True) F1 H1 as1 (Itr lo n) := by
  refine stays_walk _ _ (by rw [rangeD_len]; exact walk_range) (fun _ _ _ _ _ _ _ => trivial) ?_
  rintro i F2 H2 as2 μ2 x H' g2 W2 h2 ⟨rfl, y⟩ hi
  rw [rangeD_len] at hi
  exact ⟨rfl, _, rangeD_get hi, y ▸ .int _⟩
theorem i_range1 (hm : S.X.mg "range" = none) (h : E S a env μ fun d m => ∃ n, d = .int n ∧ (-(2 ^ 62) ≤ n ∧ n < 2 ^ 62) ∧ PI (rangeD 0 n.toNat) (fun _ => True) m) (hg : Gl S.X "range" := by rfl)
    (hs : starEach [a] S.X.env = [(false, eval a S.X.env)] := by rfl) : Iter S tg (.Call (.Name "range" p0) [a] [] pos) env μ PI := by
  refine Me.PI.imp (pi_range1 hg hm (pa_cons h pa_nil hs) hs) fun σ H R ⟨F, as, a, k⟩ => ⟨F, as, a, fun d m v F1 H1 as1 ⟨n, e1, hz, p1⟩ g1 W1 r1 => ?_⟩
  subst e1
  cases r1
  exact ⟨n, rfl, hz.1, hz.2, k _ _ m _ F1 H1 as1 p1 g1 W1 range_go⟩
theorem i_range2 (hm : S.X.mg "range" = none) (h : E S a env μ fun d μ1 => E S b env μ1 fun d2 m => ∃ i n, d = .int i ∧ d2 = .int n ∧ (-(2 ^ 62) ≤ i ∧ i < 2 ^ 62 ∧ -(2 ^ 62) ≤ n ∧ n < 2 ^ 62) ∧ PI (rangeD i (n - i).toNat) (fun _ => True) m) (hg : Gl S.X "range" := by rfl)
    (hs : starEach [a, b] S.X.env = [(false, eval a S.X.env), (false, eval b S.X.env)] := by rfl) (hs2 : starEach [b] S.X.env = [(false, eval b S.X.env)] := by rfl) :
    Iter S tg (.Call (.Name "range" p0) [a, b] [] pos) env μ PI := by
  refine Me.PI.imp (pi_range2 hg hm (pa_cons pe_y (pa_cons pe_y pa_nil hs2) (by rw [hs, hs2])) hs hs2) fun σ H R ⟨F, as, a1, k⟩ => h.go a1 fun d μ1 v F1 H1 as1 p1 g1 W1 r1 => p1.go (a1.go g1 W1) fun d2 m v2 F2 H2 as2 ⟨i, n, e1, e2, hz, p2⟩ g2 W2 r2 => ?_
  subst e1 e2
  cases r1
  cases r2
  exact ⟨i, n, rfl, hz, k _ _ m _ F2 H2 as2 p2 (g1.trans g2) W2 range_go⟩
def signsD (z : Str) : List D := z.cps.toList.map fun c => D.str ⟨#[c]⟩
theorem i_str (h : E S iter env μ fun d m => ∃ z, d = .str z ∧ PI (signsD z) (fun _ => True) m) : Iter S tg iter env μ PI := by
  refine Me.PI.imp (pi_str h) fun σ H R ⟨F, as, a, k⟩ => ⟨F, as, a, fun d m v F1 H1 as1 ⟨z, e1, p1⟩ g1 W1 r1 => ?_⟩
  subst e1
  cases r1
  have hl : (signsD z).length = z.cps.size := by unfold signsD; simp
  refine ⟨z, rfl, k _ _ m _ F1 H1 as1 p1 g1 W1 (stays_walk _ _ (by rw [hl]; exact walk_str) (fun _ _ _ _ _ _ _ => trivial) ?_)⟩
  rintro i F2 H2 as2 μ2 x H' g2 W2 h2 ⟨rfl, c, y, rfl⟩ hi
  refine ⟨rfl, _, ?_, .str _⟩
  unfold signsD
  rw [List.getElem?_map, Array.getElem?_toList, y]
  rfl

/-- what a turn may lead to -/
def LoopR (S : Sc) (rest : List Stmt) (R : Out → Prop) (I : Nat → En → Mu → Prop) (k : Nat) : Out → Prop
  | .next env μ => I (k + 1) env μ
  | .cont env μ => I (k + 1) env μ
  | .brk env μ => B S rest env μ R
  | .ret sv μ => R (.ret sv μ)
/-- a loop over ds by an invariant -/
structure Loop (S : Sc) (rel : D → En → En → Prop) (body rest : List Stmt) (R : Out → Prop) (env : En) (I : Nat → En → Mu → Prop) (ds : List D) (Sx : Mu → Prop) (μ1 : Mu) : Prop where
  start : I 0 env μ1
  stay : ∀ k env μ, I k env μ → Sx μ
  turn : ∀ k d env μ, ds[k]? = some d → I k env μ → ∃ env', rel d env env' ∧ B S body env' μ (LoopR S rest R I k)
  done : ∀ env μ, I ds.length env μ → B S rest env μ R
theorem b_for {rel : D → En → En → Prop} {vs : List Nat} (hc : S.X.calm = true) (hg : Tg S tg rel vs)
    (h : Iter S tg iter env μ fun ds Sx μ1 => ∃ I, Loop S rel body rest R env I ds Sx μ1) (hf : ∀ x, foldedSetIterable iter S.X.env x = pure x := by intro _; rfl) : B S (.For tg iter body [] pos :: rest) env μ R := by
  refine b_cons (PS.imp (ps_for S.hp hc h hg pss_y hf) fun D σ H ⟨F, as, a, k⟩ => ?_)
  refine ⟨F, as, a, fun ds Sx μ1 J F1 H1 as1 ⟨I, L⟩ g1 W1 ⟨G, Y, w, hG, hY⟩ => ?_⟩
  refine for_it (g := rdG S rel vs) (tb := yS S.X body) (D := D) w (fun k σ H => ∃ env μ F2 as2, I k env μ ∧ EnvOk S.Γ F2 as2 env σ ∧ Wd S.Γ F2 H as2 μ ∧ Go F1 H1 as1 F2 H as2) ⟨env, μ1, F1, as1, L.start, a.e.mono g1, W1, Go.refl _ _ _⟩ ?_ ?_ ?_
  · rintro k σ2 H2 _ ⟨env2, μ2, F2, as2, i2, e2, W2, g2⟩
    exact hG F2 H2 as2 μ2 g2 W2 (L.stay k env2 μ2 i2)
  · rintro k2 v σ2 H2 H' hk ⟨env2, μ2, F2, as2, i2, e2, W2, g2⟩ y
    obtain ⟨F3, d, hd1, g3, W3, dv⟩ := hY k2 F2 H2 as2 μ2 v H' g2 W2 (L.stay k2 env2 μ2 i2) y hk
    obtain ⟨env3, r3, b3⟩ := L.turn k2 d env2 μ2 hd1 i2
    refine ⟨d, env2, env3, F3, as2, r3, dv, W3.sub, e2.mono g3, fun σ3 e3 _ => b3.go ⟨e3, W3, ((a.k.go g1).go g2).go g3⟩ ⟨?_, ?_, ?_, ?_⟩⟩
    · exact fun e4 m4 s4 F4 H4 as4 r4 g4 q4 W4 => ⟨e4, m4, F4, as4, r4, q4, W4, (g2.trans g3).trans g4⟩
    · exact fun e4 m4 s4 F4 H4 as4 r4 g4 W4 q4 => k.rt e4 m4 s4 F4 H4 as4 r4 (((g1.trans g2).trans g3).trans g4) W4 q4
    · exact fun e4 m4 s4 F4 H4 as4 r4 g4 q4 W4 => k.nx e4 m4 s4 F4 H4 as4 r4 (((g1.trans g2).trans g3).trans g4) q4 W4
    · exact fun e4 m4 s4 F4 H4 as4 r4 g4 q4 W4 => ⟨e4, m4, F4, as4, r4, q4, W4, (g2.trans g3).trans g4⟩
  · rintro σ2 H2 ⟨env2, μ2, F2, as2, i2, e2, W2, g2⟩
    exact k.nx env2 μ2 σ2 F2 H2 as2 (L.done env2 μ2 i2) (g1.trans g2) e2 W2
def WhileR (S : Sc) (rest : List Stmt) (R : Out → Prop) (I : Nat → En → Mu → Prop) (n : Nat) : Out → Prop
  | .next env μ => ∃ m, m < n ∧ I m env μ
  | .cont env μ => ∃ m, m < n ∧ I m env μ
  | .brk env μ => B S rest env μ R
  | .ret sv μ => R (.ret sv μ)
theorem b_while (I : Nat → En → Mu → Prop) (n : Nat) (h0 : I n env μ)
    (hs : ∀ n env μ, I n env μ → T S c env μ fun q μ1 => (q = true → B S body env μ1 (WhileR S rest R I n)) ∧ (q = false → B S rest env μ1 R)) : B S (.While c body [] pos :: rest) env μ R := by
  refine b_cons (PS.imp (ps_while S.hp pt_y pss_y) fun D σ H ⟨F, as, a, k⟩ => ?_)
  refine ⟨fun m σ2 H2 => ∃ env2 μ2 F2 as2, I m env2 μ2 ∧ EnvOk S.Γ F2 as2 env2 σ2 ∧ Wd S.Γ F2 H2 as2 μ2 ∧ Go F H as F2 H2 as2, ⟨n, env, μ, F, as, h0, a.e, a.w, Go.refl _ _ _⟩, ?_⟩
  rintro m σ2 H2 ⟨env2, μ2, F2, as2, i2, e2, W2, g2⟩
  refine (hs m env2 μ2 i2).go ⟨e2, W2, a.k.go g2⟩ fun q μ3 F3 H3 as3 p3 g3 W3 => ?_
  cases q with
  | true =>
    refine ⟨fun σ' H' => ∃ m', m' < m ∧ ∃ env2 μ2 F2 as2, I m' env2 μ2 ∧ EnvOk S.Γ F2 as2 env2 σ' ∧ Wd S.Γ F2 H' as2 μ2 ∧ Go F H as F2 H' as2, fun σ' H' h => h, ?_⟩
    refine (p3.1 rfl).go ⟨e2.mono g3, W3, (a.k.go g2).go g3⟩ ⟨?_, ?_, ?_, ?_⟩
    · rintro e4 m4 s4 F4 H4 as4 ⟨m', lt, r4⟩ g4 q4 W4
      exact ⟨m', lt, e4, m4, F4, as4, r4, q4, W4, (g2.trans g3).trans g4⟩
    · exact fun e4 m4 s4 F4 H4 as4 r4 g4 q4 W4 => k.rt e4 m4 s4 F4 H4 as4 r4 ((g2.trans g3).trans g4) q4 W4
    · exact fun e4 m4 s4 F4 H4 as4 r4 g4 q4 W4 => k.nx e4 m4 s4 F4 H4 as4 r4 ((g2.trans g3).trans g4) q4 W4
    · rintro e4 m4 s4 F4 H4 as4 ⟨m', lt, r4⟩ g4 q4 W4
      exact ⟨m', lt, e4, m4, F4, as4, r4, q4, W4, (g2.trans g3).trans g4⟩
  | false => exact k.nx env2 μ3 σ2 F3 H3 as3 (p3.2 rfl) (g2.trans g3) (e2.mono g3) W3
end
end Me

/-! Me5: comprehensions. -/
namespace Me
open PySem PySem.Spec PyProof.Rows L2
/-- the scene of a comprehension's block -/
abbrev Blk (S : Sc) (scope : Scope) (s : Shared) (H : Hp) (C : Addr) (cl : List (Str × Addr)) (fp : List Addr) : Sc := ⟨S.Γ, S.X.blk s H scope (compEnvC scope cl C S.X.env) fp, fun _ _ _ => False, S.hK, S.hg, S.hN, PassesOwn.never, S.hb, S.k, S.rm⟩
def AllB (S : Sc) (scope : Scope) (p : Sc → Prop) : Prop := ∀ s H C cl fp, p (Blk S scope s H C cl fp)
def Ts (S : Sc) (ifs : List Expr) (env : En) (μ : Mu) (PB : Bool → Mu → Prop) : Prop := PTs S.X ifs (rdT S env μ PB)
def wipeE (env : En) : List Nat → En
  | [] => env
  | v :: vs => (wipeE env vs).set v none
theorem EnvOk.wipe {Γ : Gam} {F : Hp} {as : List Ad} {env : En} {σ : L2.St} (h : EnvOk Γ F as env σ) : ∀ vs : List Nat, EnvOk Γ F as (wipeE env vs) (L2.wipe σ vs)
  | [] => h
  | v :: vs => (h.wipe vs).set0 v
theorem wipe_in {σ : L2.St} {i : Nat} : ∀ {vs : List Nat}, i ∈ vs → (L2.wipe σ vs)[i]? = (σ[i]?).map fun _ => none
  | v :: vs, h => by
    show ((L2.wipe σ vs).set v none)[i]? = _
    rw [List.getElem?_set]
    by_cases e : v = i
    · subst e
      rw [if_pos rfl, wipe_length]
      by_cases hl : v < σ.length
      · rw [if_pos hl, List.getElem?_eq_getElem hl]; rfl
      · rw [if_neg hl, List.getElem?_eq_none (by omega)]; rfl
    · rw [if_neg e]
      exact wipe_in ((List.mem_cons.mp h).resolve_left (Ne.symm e))
theorem wipe_wipe (σ : L2.St) (vs : List Nat) : L2.wipe (L2.wipe σ vs) vs = L2.wipe σ vs := by
  refine List.ext_getElem? fun i => ?_
  by_cases h : i ∈ vs
  · rw [wipe_in h, wipe_in h]
    cases σ[i]? <;> rfl
  · rw [wipe_out h]
theorem ko_blk {S : Sc} {scope : Scope} {s : Shared} {H : Hp} {C : Addr} {cl : List (Str × Addr)} {fp : List Addr} {F1 H1 : Hp} {as : List Ad} : Ko (Blk S scope s H C cl fp) F1 H1 as := fun _ _ _ _ _ _ _ _ _ z => z.elim
section
variable {S : Sc} {env : En} {μ : Mu} {a b c e elt kx vx tg iter : Expr} {ifs : List Expr} {rest : List Stmt} {R : Out → Prop} {pos p0 p1 spos : Pos} {x y : Str} {scope : Scope} {P : KD} {PB : Bool → Mu → Prop}
theorem ts_nil (k : PB true μ) : Ts S [] env μ PB := ⟨fun pins s σ H Q I ⟨F, as, a, kk⟩ => pts_nil.run pins s σ H Q I (kk true μ F H as k (Go.refl F H as) a.w)⟩
theorem ts_one (h : T S c env μ PB) : Ts S [c] env μ PB := pts_one h
/-- readings that serve every block -/
def rdTT (S : Sc) (scope : Scope) (ifs : List Expr) : TT := fun σ H Q => ∃ env m PB F as, AllB S scope (fun S' => Ts S' ifs env m PB) ∧ EnvOk S.Γ F as env σ ∧ Wd S.Γ F H as m ∧
  ∀ b μ' F' H' as', PB b μ' → Go F H as F' H' as' → Wd S.Γ F' H' as' μ' → Q b H'
def rdEE (S : Sc) (scope : Scope) (elt : Expr) : TE := fun σ H Q => ∃ env m P F as, AllB S scope (fun S' => E S' elt env m P) ∧ EnvOk S.Γ F as env σ ∧ Wd S.Γ F H as m ∧ Kv S F H as P Q
theorem pts_all (s : Shared) (H : Hp) (C : Addr) (cl : List (Str × Addr)) (fp : List Addr) : PTs (S.X.blk s H scope (compEnvC scope cl C S.X.env) fp) ifs (rdTT S scope ifs) :=
  ⟨fun pins s2 σ H2 Q J ⟨env, m, PB, F, as, h, e, w, k⟩ => (h s H C cl fp).run pins s2 σ H2 Q J ⟨F, as, ⟨e, w, ko_blk⟩, k⟩⟩
theorem pe_all (s : Shared) (H : Hp) (C : Addr) (cl : List (Str × Addr)) (fp : List Addr) : PE (S.X.blk s H scope (compEnvC scope cl C S.X.env) fp) elt (rdEE S scope elt) :=
  ⟨fun pins s2 σ H2 Q J ⟨env, m, P, F, as, h, e, w, k⟩ => (h s H C cl fp).run pins s2 σ H2 Q J ⟨F, as, ⟨e, w, ko_blk⟩, k⟩⟩
/-- a comprehension by an invariant -/
structure Comp (S : Sc) (scope : Scope) (rel : D → En → En → Prop) (vs : List Nat) (elt : Expr) (ifs : List Expr) (env : En) (I : Nat → List D → Mu → Prop) (ds : List D) (Sx : Mu → Prop) (μ1 : Mu) (fin : List D → Mu → Prop) : Prop where
  size : ds.length ≤ sizeLine
  start : I 0 [] μ1
  stay : ∀ k acc μ, I k acc μ → Sx μ
  turn : ∀ k d acc m, ds[k]? = some d → I k acc m → ∃ env2 PB, rel d (wipeE env vs) env2 ∧ AllB S scope (fun S' => Ts S' ifs env2 m PB) ∧
    ∀ q m1, PB q m1 → (q = true → AllB S scope fun S' => E S' elt env2 m1 fun d' m2 => I (k + 1) (acc ++ [d']) m2) ∧ (q = false → I (k + 1) acc m1)
  done : ∀ acc m, I ds.length acc m → fin acc m
theorem lc_read {rel : D → En → En → Prop} {vs : List Nat} (fin : List D → Mu → Prop) {H : Hp} {σ : L2.St} {Q : VK} {F : Hp} {as : List Ad}
    (a : At S env μ σ H F as) {ds : List D} {Sx : Mu → Prop} {μ1 : Mu} {J : It} {F1 H1 : Hp} {as1 : List Ad} {I : Nat → List D → Mu → Prop} (L : Comp S scope rel vs elt ifs env I ds Sx μ1 fin) (g1 : Go F H as F1 H1 as1) (W1 : Wd S.Γ F1 H1 as1 μ1) (iw : IsWalk S ds Sx F1 H1 as1 J)
    (k : ∀ acc m D0 vs F2 H2 as2, fin acc m → H2 D0 = none → Wd S.Γ F2 H2 as2 m → Go F H as F2 H2 as2 → DVs S.Γ F2 as2 vs acc → Q (.ref D0) (upd H2 D0 (.lst vs))) :
    ∀ D0, H1 D0 = none → ∃ W : Nat → Nat → Hp → Prop, (∃ m, W 0 m (upd H1 D0 (.lst []))) ∧ ∀ i m H, W i m H → (J.stop i H ∧ Q (.ref D0) H) ∨ (J.go i H ∧ ∃ Nx : Hp → Prop, (∀ H', Nx H' → ∃ m', m' < m ∧ W (i + 1) m' H') ∧ ∀ x H', J.yld i H x H' →
      rdG S rel vs x (wipe σ vs) H' fun σ2 H2 => wipe σ2 vs = wipe σ vs ∧ rdTT S scope ifs σ2 H2 fun b H3 => if b = true then rdEE S scope elt σ2 H3 fun y H4 => ∃ acc, H4 D0 = some (.lst acc) ∧ acc.length < sizeLine ∧ Nx (upd H4 D0 (.lst (acc ++ [y]))) else Nx H3) := by
  intro D0 nD
  obtain ⟨G, Y, w, hG, hY⟩ := iw
  refine lc_it (g := rdG S rel vs) (tt := rdTT S scope ifs) (te := rdEE S scope elt) w (fun k H2 => ∃ acc m F2 as2 ws, I k acc m ∧ acc.length ≤ k ∧ Wd S.Γ F2 H2 as2 m ∧ Go F1 H1 as1 F2 H2 as2 ∧ H2 D0 = some (.lst ws) ∧ F2 D0 = none ∧ D0 ∉ ads as2 ∧ DVs S.Γ F2 as2 ws acc) ?_ ?_ ?_ ?_
  · obtain ⟨f1, f2⟩ := W1.nofree nD
    exact ⟨[], μ1, F1, as1, [], L.start, Nat.le_refl _, W1.off f1 f2, (Go.refl _ _ _).off nD, upd_same, f1, f2, .nil⟩
  · rintro k2 H2 _ ⟨acc, m, F2, as2, ws, i2, l2, W2, g2, hD, nF, na, dv⟩
    exact hG F2 H2 as2 m g2 W2 (L.stay k2 acc m i2)
  · rintro k2 v H2 H' hk ⟨acc, m, F2, as2, ws, i2, l2, W2, g2, hD, nF, na, dv⟩ y
    obtain ⟨F3, d, hd1, g3, W3, dvd⟩ := hY k2 F2 H2 as2 m v H' g2 W2 (L.stay k2 acc m i2) y hk
    obtain ⟨hD3, nF3, na3⟩ := g3.apart hD (fun xs z => nomatch z) nF na
    obtain ⟨env2, PB, r2, ht, hh⟩ := L.turn k2 d acc m hd1 i2
    refine ⟨d, wipeE env vs, env2, F3, as2, r2, dvd, W3.sub, (((a.e.mono g1).mono g2).mono g3).wipe vs, fun σ2 e2 hw => ⟨by rw [hw, wipe_wipe], env2, m, PB, F3, as2, ht, e2, W3, fun q m1 F4 H4 as4 p4 g4 W4 => ?_⟩⟩
    obtain ⟨hD4, nF4, na4⟩ := g4.apart hD3 (fun xs z => nomatch z) nF3 na3
    obtain ⟨hT, hF⟩ := hh q m1 p4
    cases q with
    | true =>
      refine ⟨env2, m1, _, F4, as4, hT rfl, e2.mono g4, W4, fun d' m2 u F5 H5 as5 i3 g5 W5 r5 => ?_⟩
      obtain ⟨hD5, nF5, na5⟩ := g5.apart hD4 (fun xs z => nomatch z) nF4 na4
      refine ⟨ws, hD5, ?_, acc ++ [d'], m2, F5, as5, ws ++ [u], i3, ?_, W5.off nF5 na5, (((g2.trans g3).trans g4).trans g5).off nD, upd_same, nF5, na5, ?_⟩
      · have := L.size; rw [dv.length]; omega
      · rw [List.length_append]
        show acc.length + 1 ≤ k2 + 1
        omega
      · exact (((dv.mono g3).mono g4).mono g5).append (.cons r5 .nil)
    | false => exact ⟨acc, m1, F4, as4, ws, hF rfl, by omega, W4, (g2.trans g3).trans g4, hD4, nF4, na4, (dv.mono g3).mono g4⟩
  · rintro H2 ⟨acc, m, F2, as2, ws, i2, l2, W2, g2, hD, nF, na, dv⟩
    have z := k acc m D0 ws F2 (Me.era H2 D0) as2 (L.done acc m i2) era_same (W2.era nF na) (g1.trans (g2.era nD)) dv
    rw [era_upd hD] at z
    exact z
/-- a new list, stable -/
def FinL (P : KD) : List D → Mu → Prop := fun acc m => P (.lst acc) m
def FinC (P : KD) : List D → Mu → Prop := fun acc m => P (.cell m.length) (m ++ [.lst acc])
theorem fin_l {F H : Hp} {as : List Ad} {Q : VK} (k : Kv S F H as P Q) : ∀ acc m D0 vs F2 H2 as2, FinL P acc m → H2 D0 = none → Wd S.Γ F2 H2 as2 m → Go F H as F2 H2 as2 → DVs S.Γ F2 as2 vs acc → Q (.ref D0) (upd H2 D0 (.lst vs)) := by
  intro acc m D0 vs F2 H2 as2 f n W2 g2 dv
  obtain ⟨W3, g3⟩ := W2.addF (o := .lst vs) n
  exact k _ m _ _ _ _ f (g2.trans g3) W3 (.lst upd_same (dv.mono g3))
theorem fin_c {F H : Hp} {as : List Ad} {Q : VK} (k : Kv S F H as P Q) : ∀ acc m D0 vs F2 H2 as2, FinC P acc m → H2 D0 = none → Wd S.Γ F2 H2 as2 m → Go F H as F2 H2 as2 → DVs S.Γ F2 as2 vs acc → Q (.ref D0) (upd H2 D0 (.lst vs)) := by
  intro acc m D0 vs F2 H2 as2 f n W2 g2 dv
  obtain ⟨W3, g3⟩ := W2.addO (o := .lst vs) (c := .lst acc) n fun nF => ⟨rfl, nF, vs, upd_same, dv.to (Same.refl F2) (fun j hj ad e => by rw [List.getElem?_append_left (List.getElem?_eq_some_iff.mp e).1]; exact e)⟩
  exact k _ _ _ _ _ _ f (g2.trans g3) W3 (.cell (ad := ⟨D0, none⟩) (W2.last _))
theorem e_lcG {rel : D → En → En → Prop} (own : List (Str × Nat)) (fin : List D → Mu → Prop) (hfin : ∀ {F H : Hp} {as : List Ad} {Q : VK}, Kv S F H as P Q → ∀ acc m D0 vs F2 H2 as2, fin acc m → H2 D0 = none → Wd S.Γ F2 H2 as2 m → Go F H as F2 H2 as2 → DVs S.Γ F2 as2 vs acc → Q (.ref D0) (upd H2 D0 (.lst vs)))
    (hc : S.X.calm = true) (ok : BlkOk S.X.N S.X.env.scope scope own) (hg : AllB S scope fun S' => Tg S' tg rel (own.map fun x : Str × Nat => x.2))
    (h : Iter S tg iter env μ fun ds Sx μ1 => ∃ I, Comp S scope rel (own.map fun x : Str × Nat => x.2) elt ifs env I ds Sx μ1 fin) (hf : ∀ x, foldedSetIterable iter S.X.env x = pure x := by intro _; rfl) : E S (.ListComp elt [⟨tg, iter, ifs, 0⟩] scope pos) env μ P := by
  refine PE.imp (pe_lc (own := own) (g := rdG S rel (own.map fun x : Str × Nat => x.2)) (tt := rdTT S scope ifs) (te := rdEE S scope elt) hc S.hN h ok hg pts_all pe_all hf) fun σ H Q ⟨F, as, a, k⟩ => ?_
  exact ⟨F, as, a, fun ds Sx μ1 J F1 H1 as1 ⟨I, L⟩ g1 W1 iw => lc_read fin a L g1 W1 iw (hfin k)⟩
/-- name = [..] -/
theorem b_setLcG {rel : D → En → En → Prop} (j : Nat) (own : List (Str × Nat)) (fin : List D → Mu → Prop) (hfin : ∀ {F H : Hp} {as : List Ad} {Q : VK}, Kv S F H as P Q → ∀ acc m D0 vs F2 H2 as2, fin acc m → H2 D0 = none → Wd S.Γ F2 H2 as2 m → Go F H as F2 H2 as2 → DVs S.Γ F2 as2 vs acc → Q (.ref D0) (upd H2 D0 (.lst vs)))
    (hc : S.X.calm = true) (ok : BlkOk S.X.N S.X.env.scope scope own) (hg : AllB S scope fun S' => Tg S' tg rel (own.map fun x : Str × Nat => x.2))
    (hsw : swapsWith (.ListComp elt [⟨tg, iter, ifs, 0⟩] scope pos) (some (.Name y p0)) spos.line S.X.env = pure true)
    (hP : P = fun d m => B S rest (env.set j (some d)) m R)
    (h : Iter S tg iter env μ fun ds Sx μ1 => ∃ I, Comp S scope rel (own.map fun x : Str × Nat => x.2) elt ifs env I ds Sx μ1 fin)
    (hy : S.X.N[j]? = some y := by rfl) (hyl : S.X.env.scope.names.lookup y = some .local := by rfl) (hf : ∀ x, foldedSetIterable iter S.X.env x = pure x := by intro _; rfl) :
    B S (.Assign [.Name y p0] (.ListComp elt [⟨tg, iter, ifs, 0⟩] scope pos) spos :: rest) env μ R := by
  subst hP
  refine b_cons (PS.imp (ps_setLc (i := j) (own := own) (g := rdG S rel (own.map fun x : Str × Nat => x.2)) (tt := rdTT S scope ifs) (te := rdEE S scope elt) hc S.hN hy hyl hsw h ok hg pts_all pe_all hf) fun D σ H ⟨F, as, a, k⟩ => ?_)
  refine ⟨F, as, a, fun ds Sx μ1 J F1 H1 as1 ⟨I, L⟩ g1 W1 iw => lc_read (Q := fun x H1 => gName j x σ H1 D.nx) fin a L g1 W1 iw (hfin (Q := fun x H1 => gName j x σ H1 D.nx) fun d m v F2 H2 as2 p2 g2 W2 r2 => ?_)⟩
  exact k.nx _ m _ F2 H2 as2 p2 g2 ((a.e.mono g2).set r2 j) W2

def NameOk (S : Sc) (scope : Scope) (x : Str) : Prop := AllB S scope fun S' => Loc S'.X.env.scope x ∧ (S'.X.fn x = true ∨ S'.X.env.scope.names.lookup x = some .local)
theorem e_lc (i : Nat) (hc : S.X.calm = true) (ok : BlkOk S.X.N S.X.env.scope scope [(x, i)])
    (h : Iter S (.Name x p1) iter env μ fun ds Sx μ1 => ∃ I, Comp S scope (rName i) [i] elt ifs env I ds Sx μ1 (FinL P))
    (hn : S.X.N[i]? = some x := by rfl) (hx : NameOk S scope x := by exact fun _ _ _ _ _ => ⟨by first | exact .inl rfl | exact .inr rfl, by first | exact .inl rfl | exact .inr rfl⟩)
    (hf : ∀ x, foldedSetIterable iter S.X.env x = pure x := by intro _; rfl) : E S (.ListComp elt [⟨.Name x p1, iter, ifs, 0⟩] scope pos) env μ P :=
  e_lcG (rel := rName i) [(x, i)] (FinL P) fin_l hc ok (fun s H C cl fp => g_name (S := Blk S scope s H C cl fp) i hn (hx s H C cl fp).1 (hx s H C cl fp).2) h hf
theorem e_lcC (i : Nat) (hc : S.X.calm = true) (ok : BlkOk S.X.N S.X.env.scope scope [(x, i)])
    (h : Iter S (.Name x p1) iter env μ fun ds Sx μ1 => ∃ I, Comp S scope (rName i) [i] elt ifs env I ds Sx μ1 (FinC P))
    (hn : S.X.N[i]? = some x := by rfl) (hx : NameOk S scope x := by exact fun _ _ _ _ _ => ⟨by first | exact .inl rfl | exact .inr rfl, by first | exact .inl rfl | exact .inr rfl⟩)
    (hf : ∀ x, foldedSetIterable iter S.X.env x = pure x := by intro _; rfl) : E S (.ListComp elt [⟨.Name x p1, iter, ifs, 0⟩] scope pos) env μ P :=
  e_lcG (rel := rName i) [(x, i)] (FinC P) fin_c hc ok (fun s H C cl fp => g_name (S := Blk S scope s H C cl fp) i hn (hx s H C cl fp).1 (hx s H C cl fp).2) h hf
/-- {.. for x, y in ..} -/
theorem e_lc2 (i j : Nat) {kt : Nat} {p2 : Pos} (hc : S.X.calm = true) (ok : BlkOk S.X.N S.X.env.scope scope [(x, i), (y, j)])
    (h : Iter S (.Tuple [.Name x p0, .Name y p1] kt p2) iter env μ fun ds Sx μ1 => ∃ I, Comp S scope (rPair i j) [i, j] elt ifs env I ds Sx μ1 (FinL P))
    (hn : S.X.N[i]? = some x := by rfl) (hn2 : S.X.N[j]? = some y := by rfl) (hx : NameOk S scope x := by exact fun _ _ _ _ _ => ⟨by first | exact .inl rfl | exact .inr rfl, by first | exact .inl rfl | exact .inr rfl⟩)
    (hy : NameOk S scope y := by exact fun _ _ _ _ _ => ⟨by first | exact .inl rfl | exact .inr rfl, by first | exact .inl rfl | exact .inr rfl⟩)
    (hf : ∀ x, foldedSetIterable iter S.X.env x = pure x := by intro _; rfl) : E S (.ListComp elt [⟨.Tuple [.Name x p0, .Name y p1] kt p2, iter, ifs, 0⟩] scope pos) env μ P :=
  e_lcG (rel := rPair i j) [(x, i), (y, j)] (FinL P) fin_l hc ok (fun s H C cl fp => g_tup2 (S := Blk S scope s H C cl fp) i j hc hn hn2 (hx s H C cl fp).1 (hy s H C cl fp).1 (hx s H C cl fp).2 (hy s H C cl fp).2) h hf
theorem b_setLc (j i : Nat) (hc : S.X.calm = true) (ok : BlkOk S.X.N S.X.env.scope scope [(x, i)])
    (hsw : swapsWith (.ListComp elt [⟨.Name x p1, iter, ifs, 0⟩] scope pos) (some (.Name y p0)) spos.line S.X.env = pure true)
    (h : Iter S (.Name x p1) iter env μ fun ds Sx μ1 => ∃ I, Comp S scope (rName i) [i] elt ifs env I ds Sx μ1 (FinL fun d m => B S rest (env.set j (some d)) m R))
    (hy : S.X.N[j]? = some y := by rfl) (hyl : S.X.env.scope.names.lookup y = some .local := by rfl)
    (hn : S.X.N[i]? = some x := by rfl) (hx : NameOk S scope x := by exact fun _ _ _ _ _ => ⟨by first | exact .inl rfl | exact .inr rfl, by first | exact .inl rfl | exact .inr rfl⟩)
    (hf : ∀ x, foldedSetIterable iter S.X.env x = pure x := by intro _; rfl) : B S (.Assign [.Name y p0] (.ListComp elt [⟨.Name x p1, iter, ifs, 0⟩] scope pos) spos :: rest) env μ R :=
  b_setLcG (rel := rName i) j [(x, i)] _ fin_l hc ok (fun s H C cl fp => g_name (S := Blk S scope s H C cl fp) i hn (hx s H C cl fp).1 (hx s H C cl fp).2) hsw rfl h hy hyl hf
theorem b_setLcC (j i : Nat) (hc : S.X.calm = true) (ok : BlkOk S.X.N S.X.env.scope scope [(x, i)])
    (hsw : swapsWith (.ListComp elt [⟨.Name x p1, iter, ifs, 0⟩] scope pos) (some (.Name y p0)) spos.line S.X.env = pure true)
    (h : Iter S (.Name x p1) iter env μ fun ds Sx μ1 => ∃ I, Comp S scope (rName i) [i] elt ifs env I ds Sx μ1 (FinC fun d m => B S rest (env.set j (some d)) m R))
    (hy : S.X.N[j]? = some y := by rfl) (hyl : S.X.env.scope.names.lookup y = some .local := by rfl)
    (hn : S.X.N[i]? = some x := by rfl) (hx : NameOk S scope x := by exact fun _ _ _ _ _ => ⟨by first | exact .inl rfl | exact .inr rfl, by first | exact .inl rfl | exact .inr rfl⟩)
    (hf : ∀ x, foldedSetIterable iter S.X.env x = pure x := by intro _; rfl) : B S (.Assign [.Name y p0] (.ListComp elt [⟨.Name x p1, iter, ifs, 0⟩] scope pos) spos :: rest) env μ R :=
  b_setLcG (rel := rName i) j [(x, i)] _ fin_c hc ok (fun s H C cl fp => g_name (S := Blk S scope s H C cl fp) i hn (hx s H C cl fp).1 (hx s H C cl fp).2) hsw rfl h hy hyl hf

theorem take_snoc {α : Type} {l : List α} {i : Nat} {x : α} (h : l[i]? = some x) : l.take (i + 1) = l.take i ++ [x] := by rw [List.take_add_one, h]; rfl
/-- a comprehension that changes nothing -/
theorem Comp.pure {rel : D → En → En → Prop} {vs : List Nat} {ds : List D} {Sx : Mu → Prop} {μ1 : Mu} {fin : List D → Mu → Prop} (g : D → Option D) (size : ds.length ≤ sizeLine) (stay : Sx μ1)
    (turn : ∀ (k : Nat) d, ds[k]? = some d → ∃ env2 q, rel d (wipeE env vs) env2 ∧ AllB S scope (fun S' => Ts S' ifs env2 μ1 fun b m => b = q ∧ m = μ1) ∧
      (q = true → ∃ d', g d = some d' ∧ AllB S scope fun S' => E S' elt env2 μ1 fun x m => x = d' ∧ m = μ1) ∧ (q = false → g d = none))
    (done : fin (ds.filterMap g) μ1) : ∃ I, Comp S scope rel vs elt ifs env I ds Sx μ1 fin := by
  refine ⟨fun k acc m => m = μ1 ∧ acc = (ds.take k).filterMap g, size, ⟨rfl, rfl⟩, fun k acc m ⟨e, _⟩ => e ▸ stay, fun k d acc m hd ⟨e1, e2⟩ => ?_, fun acc m ⟨e1, e2⟩ => ?_⟩
  · subst e1 e2
    obtain ⟨env2, q, h1, h2, h3, h4⟩ := turn k d hd
    refine ⟨env2, _, h1, h2, fun b m1 ⟨e1, e2⟩ => ?_⟩
    subst e1 e2
    refine ⟨fun z => ?_, fun z => ⟨rfl, ?_⟩⟩
    · obtain ⟨d', e, he⟩ := h3 z
      refine fun s H C cl fp => (he s H C cl fp).imp fun x m ⟨e1, e2⟩ => ⟨e2, ?_⟩
      rw [take_snoc hd, List.filterMap_append, e1]
      simp [e]
    · rw [take_snoc hd, List.filterMap_append]
      simp [h4 z]
  · rw [e1, e2, List.take_length]
    exact done
/-- .. without a test -/
theorem Comp.map {rel : D → En → En → Prop} {vs : List Nat} {ds : List D} {Sx : Mu → Prop} {μ1 : Mu} {fin : List D → Mu → Prop} (g : D → D) (size : ds.length ≤ sizeLine) (stay : Sx μ1)
    (turn : ∀ (k : Nat) d, ds[k]? = some d → ∃ env2, rel d (wipeE env vs) env2 ∧ AllB S scope fun S' => E S' elt env2 μ1 fun x m => x = g d ∧ m = μ1)
    (done : fin (ds.map g) μ1) : ∃ I, Comp S scope rel vs elt [] env I ds Sx μ1 fin := by
  refine Comp.pure (fun d => some (g d)) size stay (fun k d hd => ?_) (by rw [List.filterMap_eq_map']; exact done)
  obtain ⟨env2, h1, h2⟩ := turn k d hd
  exact ⟨env2, true, h1, fun s H C cl fp => ts_nil ⟨rfl, rfl⟩, fun _ => ⟨_, rfl, h2⟩, fun z => nomatch z⟩
theorem filt_eq (p : D → Bool) : ∀ ds : List D, (ds.filterMap fun d => if p d = true then some d else none) = ds.filter p
  | [] => rfl
  | d :: ds => by
    rw [List.filterMap_cons, List.filter_cons]
    by_cases h : p d = true
    · simp only [if_pos h, filt_eq p ds]
    · simp only [if_neg h, filt_eq p ds]
/-- .. that picks -/
theorem Comp.filt {rel : D → En → En → Prop} {vs : List Nat} {ds : List D} {Sx : Mu → Prop} {μ1 : Mu} {fin : List D → Mu → Prop} (p : D → Bool) (size : ds.length ≤ sizeLine) (stay : Sx μ1)
    (turn : ∀ (k : Nat) d, ds[k]? = some d → ∃ env2, rel d (wipeE env vs) env2 ∧ AllB S scope (fun S' => T S' c env2 μ1 fun b m => b = p d ∧ m = μ1) ∧ (p d = true → AllB S scope fun S' => E S' elt env2 μ1 fun x m => x = d ∧ m = μ1))
    (done : fin (ds.filter p) μ1) : ∃ I, Comp S scope rel vs elt [c] env I ds Sx μ1 fin := by
  refine Comp.pure (fun d => if p d = true then some d else none) size stay (fun k d hd => ?_) (by rw [filt_eq]; exact done)
  obtain ⟨env2, h1, h2, h3⟩ := turn k d hd
  exact ⟨env2, p d, h1, fun s H C cl fp => ts_one (h2 s H C cl fp), fun z => ⟨_, if_pos z, h3 z⟩, fun z => if_neg (by rw [z]; exact Bool.false_ne_true)⟩
end
end Me

/-! Me6: operations on values. -/
namespace Me
open PySem PySem.Spec PyProof.Rows L2
mutual
/-- as the library's data -/
def D.py : D → PyData
  | .non => .none
  | .bl b => .bool b
  | .int i => .int i
  | .str x => .str x
  | .lst ds => .list (D.pys ds)
  | .tup ds => .tuple (D.pys ds)
  | .dct _ _ => .dict []
  | .ins _ _ => .none
  | .err _ _ => .none
  | .ty _ => .none
  | .cls _ => .none
  | .cell _ => .none
def D.pys : List D → List PyData
  | [] => []
  | d :: ds => d.py :: D.pys ds
end
mutual
def D.isPy : D → Bool
  | .non => true
  | .bl _ => true
  | .int _ => true
  | .str _ => true
  | .lst ds => D.isPys ds
  | .tup ds => D.isPys ds
  | .dct t kvs => !t && kvs.isEmpty
  | .ins _ _ => false
  | .err _ _ => false
  | .ty _ => false
  | .cls _ => false
  | .cell _ => false
def D.isPys : List D → Bool
  | [] => true
  | d :: ds => d.isPy && D.isPys ds
end
theorem pys_map : ∀ ds : List D, D.pys ds = ds.map D.py
  | [] => rfl
  | d :: ds => by rw [D.pys, pys_map ds]; rfl
theorem isPys_all : ∀ ds : List D, D.isPys ds = ds.all D.isPy
  | [] => rfl
  | d :: ds => by rw [D.isPys, isPys_all ds]; rfl
section
variable {Γ : Gam} {F H : Hp} {as : List Ad} {μ : Mu} {v : V} {d : D} {ds : List D} {vs : List V}
mutual
theorem DV.dp (K : PySem.W.Frag) (s : Same F H) {v : V} {d : D} (h : DV Γ F as v d) (hp : d.isPy = true) (c : d.py.canLay0 = true) : Dp K H v d.py := by
  cases h with
  | non => exact .non
  | bl b => exact .bl b
  | int i => exact .int i
  | str x => exact .str x
  | lst h1 h2 => exact .lst (.inl (.inl (s _ _ h1))) (DVs.dp K s h2 (by simpa [D.isPy] using hp) (by simpa [D.py, PyData.canLay0] using c))
  | tup h1 h2 => exact .tup (.inl (.inl (s _ _ h1))) (DVs.dp K s h2 (by simpa [D.isPy] using hp) (by simpa [D.py, PyData.canLay0] using c))
  | dctK h1 h2 => simp [D.py, PyData.canLay0] at c
  | dctT h1 h2 => simp [D.py, PyData.canLay0] at c
  | ins _ _ _ => simp [D.isPy] at hp
  | err0 _ _ => simp [D.isPy] at hp
  | ty _ => simp [D.isPy] at hp
  | cls _ => simp [D.isPy] at hp
  | err1 _ _ _ _ => simp [D.isPy] at hp
  | cell _ => simp [D.isPy] at hp
theorem DVs.dp (K : PySem.W.Frag) (s : Same F H) {vs : List V} {ds : List D} (h : DVs Γ F as vs ds) (hp : D.isPys ds = true) (c : PyData.canLayAll0 (D.pys ds) = true) : DpAll K H vs (D.pys ds) := by
  cases h with
  | nil => exact .nil
  | cons h1 h2 =>
    simp only [D.isPys, Bool.and_eq_true] at hp
    simp only [D.pys, PyData.canLayAll0, Bool.and_eq_true] at c
    exact .cons (DV.dp K s h1 hp.1 c.1) (DVs.dp K s h2 hp.2 c.2)
end
mutual
theorem DV.dpn (K : PySem.W.Frag) (s : Same F H) {v : V} {d : D} (h : DV Γ F as v d) (hp : d.isPy = true) (c : d.py.hasDict = false) : Dp K H v d.py := by
  cases h with
  | non => exact .non
  | bl b => exact .bl b
  | int i => exact .int i
  | str x => exact .str x
  | lst h1 h2 => exact .lst (.inl (.inl (s _ _ h1))) (DVs.dpn K s h2 (by simpa [D.isPy] using hp) (by simpa [D.py, PyData.hasDict] using c))
  | tup h1 h2 => exact .tup (.inl (.inl (s _ _ h1))) (DVs.dpn K s h2 (by simpa [D.isPy] using hp) (by simpa [D.py, PyData.hasDict] using c))
  | dctK h1 h2 => simp [D.py, PyData.hasDict] at c
  | dctT h1 h2 => simp [D.py, PyData.hasDict] at c
  | ins _ _ _ => simp [D.isPy] at hp
  | err0 _ _ => simp [D.isPy] at hp
  | ty _ => simp [D.isPy] at hp
  | cls _ => simp [D.isPy] at hp
  | err1 _ _ _ _ => simp [D.isPy] at hp
  | cell _ => simp [D.isPy] at hp
theorem DVs.dpn (K : PySem.W.Frag) (s : Same F H) {vs : List V} {ds : List D} (h : DVs Γ F as vs ds) (hp : D.isPys ds = true) (c : PyData.hasDictAll (D.pys ds) = false) : DpAll K H vs (D.pys ds) := by
  cases h with
  | nil => exact .nil
  | cons h1 h2 =>
    simp only [D.isPys, Bool.and_eq_true] at hp
    simp only [D.pys, PyData.hasDictAll, Bool.or_eq_false_iff] at c
    exact .cons (DV.dpn K s h1 hp.1 c.1) (DVs.dpn K s h2 hp.2 c.2)
end
/-- what a value is now: a list that is a cell's is opened -/
theorem Wd.dp (K : PySem.W.Frag) (W : Wd Γ F H as μ) {v : V} {d d' : D} (h : DV Γ F as v d) (e : vw μ d = d') (hp : d'.isPy = true) (c : d'.py.canLay0 = true) : Dp K H v d'.py := by
  by_cases hc : ∃ j, d = .cell j
  · obtain ⟨j, rfl⟩ := hc
    match hm : μ[j]? with
    | none => simp only [vw, hm] at e; subst e; simp [D.isPy] at hp
    | some .dead => simp only [vw, hm] at e; subst e; simp [D.isPy] at hp
    | some (.ins _ _) => simp only [vw, hm] at e; subst e; simp [D.isPy] at hp
    | some (.dct _ _ _) => simp only [vw, hm] at e; subst e; simp [D.py, PyData.canLay0] at c
    | some (.lst ds) =>
      obtain ⟨a, vs, rfl, h1, h2⟩ := W.lst (ds := ds) h (by simp only [vw, hm])
      simp only [vw, hm] at e
      subst e
      exact .lst (.inl (.inl h1)) (DVs.dp K W.sub h2 (by simpa [D.isPy] using hp) (by simpa [D.py, PyData.canLay0] using c))
  · have : vw μ d = d := by
      cases d <;> first | rfl | exact absurd ⟨_, rfl⟩ hc
    rw [this] at e
    subst e
    exact h.dp K W.sub hp c
theorem Wd.dpn (K : PySem.W.Frag) (W : Wd Γ F H as μ) {v : V} {d d' : D} (h : DV Γ F as v d) (e : vw μ d = d') (hp : d'.isPy = true) (c : d'.py.hasDict = false) : Dp K H v d'.py := by
  by_cases hc : ∃ j, d = .cell j
  · obtain ⟨j, rfl⟩ := hc
    match hm : μ[j]? with
    | none => simp only [vw, hm] at e; subst e; simp [D.isPy] at hp
    | some .dead => simp only [vw, hm] at e; subst e; simp [D.isPy] at hp
    | some (.ins _ _) => simp only [vw, hm] at e; subst e; simp [D.isPy] at hp
    | some (.dct _ _ _) => simp only [vw, hm] at e; subst e; simp [D.py, PyData.hasDict] at c
    | some (.lst ds) =>
      obtain ⟨a, vs, rfl, h1, h2⟩ := W.lst (ds := ds) h (by simp only [vw, hm])
      simp only [vw, hm] at e
      subst e
      exact .lst (.inl (.inl h1)) (DVs.dpn K W.sub h2 (by simpa [D.isPy] using hp) (by simpa [D.py, PyData.hasDict] using c))
  · have : vw μ d = d := by
      cases d <;> first | rfl | exact absurd ⟨_, rfl⟩ hc
    rw [this] at e
    subst e
    exact h.dpn K W.sub hp c
end

section
variable {S : Sc} {env : En} {μ : Mu} {P : KD} {d d1 d2 : D} {i j : Int} {x y : Str} {ds es : List D}
/-- a new list, a new tuple -/
theorem Kv.newL {F H : Hp} {as : List Ad} {Q : VK} (k : Kv S F H as P Q) (W : Wd S.Γ F H as μ) {p : Addr} {vs : List V} (n : H p = none) (h : P (.lst ds) μ) (dv : DVs S.Γ F as vs ds) : Q (.ref p) (upd H p (.lst vs)) := by
  obtain ⟨W3, g3⟩ := W.addF (o := .lst vs) n
  exact k _ _ _ _ _ _ h g3 W3 (.lst upd_same (dv.mono g3))
theorem Kv.newC {F H : Hp} {as : List Ad} {Q : VK} (k : Kv S F H as P Q) (W : Wd S.Γ F H as μ) {p : Addr} {vs : List V} (n : H p = none) (h : P (.cell μ.length) (μ ++ [.lst ds])) (dv : DVs S.Γ F as vs ds) : Q (.ref p) (upd H p (.lst vs)) := by
  obtain ⟨W3, g3⟩ := W.addO (o := .lst vs) (c := .lst ds) n fun nF => ⟨rfl, nF, vs, upd_same, dv.to (Same.refl F) (fun j hj ad e => by rw [List.getElem?_append_left (List.getElem?_eq_some_iff.mp e).1]; exact e)⟩
  exact k _ _ _ _ _ _ h g3 W3 (.cell (ad := ⟨p, none⟩) (W.last _))
theorem Kv.newT {F H : Hp} {as : List Ad} {Q : VK} (k : Kv S F H as P Q) (W : Wd S.Γ F H as μ) {p : Addr} {vs : List V} (n : H p = none) (h : P (.tup ds) μ) (dv : DVs S.Γ F as vs ds) : Q (.ref p) (upd H p (.tup vs)) := by
  obtain ⟨W3, g3⟩ := W.addF (o := .tup vs) n
  exact k _ _ _ _ _ _ h g3 W3 (.tup upd_same (dv.mono g3))
theorem Kv.now {F H : Hp} {as : List Ad} {Q : VK} {v : V} (k : Kv S F H as P Q) (W : Wd S.Γ F H as μ) (h : P d μ) (r : DV S.Γ F as v d) : Q v H := k d μ v F H as h (Go.refl _ _ _) W r
/-- a list may become a cell or stay -/
inductive Nl (P : KD) (ds : List D) (μ : Mu) : Prop
  | l : P (.lst ds) μ → Nl P ds μ
  | c : P (.cell μ.length) (μ ++ [.lst ds]) → Nl P ds μ
theorem Kv.new {F H : Hp} {as : List Ad} {Q : VK} (k : Kv S F H as P Q) (W : Wd S.Γ F H as μ) {p : Addr} {vs : List V} (n : H p = none) (h : Nl P ds μ) (dv : DVs S.Γ F as vs ds) : Q (.ref p) (upd H p (.lst vs)) := by
  cases h with
  | l h => exact k.newL W n h dv
  | c h => exact k.newC W n h dv

/-! ### ints -/
theorem o_add (k : P (.int (i + j)) μ) : Op2 S (binaryOp .Add) (.int i) (.int j) env μ P :=
  Op2.of op_add fun F H as x y Q W h1 h2 kk => by cases h1; cases h2; exact ⟨_, _, rfl, rfl, kk.now W k (.int _)⟩
theorem o_sub (k : P (.int (i - j)) μ) : Op2 S (binaryOp .Sub) (.int i) (.int j) env μ P :=
  Op2.of op_sub fun F H as x y Q W h1 h2 kk => by cases h1; cases h2; exact ⟨_, _, rfl, rfl, kk.now W k (.int _)⟩
theorem o_mul (hm : CMul i j) (k : P (.int (i * j)) μ) : Op2 S (binaryOp .Mult) (.int i) (.int j) env μ P :=
  Op2.of op_mul fun F H as x y Q W h1 h2 kk => by cases h1; cases h2; exact ⟨_, _, rfl, rfl, hm, kk.now W k (.int _)⟩
theorem o_fdiv (hm : 0 < j ∧ j < 1073741824) (k : P (.int (i / j)) μ) : Op2 S (binaryOp .FloorDiv) (.int i) (.int j) env μ P :=
  Op2.of op_fdiv fun F H as x y Q W h1 h2 kk => by cases h1; cases h2; exact ⟨_, _, rfl, rfl, hm, kk.now W k (.int _)⟩
theorem o_mod (hm : 0 < j) (k : P (.int (i % j)) μ) : Op2 S (binaryOp .Mod) (.int i) (.int j) env μ P :=
  Op2.of op_mod fun F H as x y Q W h1 h2 kk => by cases h1; cases h2; exact ⟨_, _, rfl, rfl, hm, kk.now W k (.int _)⟩
theorem o_pow (hm : 0 ≤ j ∧ j ≤ 1000000 ∧ i.natAbs < 2 ^ 64) (k : P (.int (i ^ j.toNat)) μ) : Op2 S (binaryOp .Pow) (.int i) (.int j) env μ P :=
  Op2.of op_pow fun F H as x y Q W h1 h2 kk => by cases h1; cases h2; exact ⟨_, _, rfl, rfl, hm, kk.now W k (.int _)⟩
theorem o_lt (k : P (.bl (decide (i < j))) μ) : Op2 S (compareOp .Lt) (.int i) (.int j) env μ P :=
  Op2.of op_lt fun F H as x y Q W h1 h2 kk => by cases h1; cases h2; exact ⟨_, _, rfl, rfl, kk.now W k (.bl _)⟩
theorem o_le (k : P (.bl (decide (i ≤ j))) μ) : Op2 S (compareOp .LtE) (.int i) (.int j) env μ P :=
  Op2.of op_le fun F H as x y Q W h1 h2 kk => by cases h1; cases h2; exact ⟨_, _, rfl, rfl, kk.now W k (.bl _)⟩
theorem o_gt (k : P (.bl (decide (j < i))) μ) : Op2 S (compareOp .Gt) (.int i) (.int j) env μ P :=
  Op2.of op_gt fun F H as x y Q W h1 h2 kk => by cases h1; cases h2; exact ⟨_, _, rfl, rfl, kk.now W k (.bl _)⟩
theorem o_ge (k : P (.bl (decide (j ≤ i))) μ) : Op2 S (compareOp .GtE) (.int i) (.int j) env μ P :=
  Op2.of op_ge fun F H as x y Q W h1 h2 kk => by cases h1; cases h2; exact ⟨_, _, rfl, rfl, kk.now W k (.bl _)⟩
theorem o_neg (k : P (.int (-i)) μ) : Op1 S (unaryOp .USub) (.int i) env μ P :=
  Op1.of un_neg fun F H as x Q W h1 kk => by cases h1; exact ⟨_, rfl, kk.now W k (.int _)⟩
/-! ### texts, lists, tuples -/
theorem o_cat (hz : x.length + y.length ≤ sizeLine) (k : P (.str (x ++ y)) μ) : Op2 S (binaryOp .Add) (.str x) (.str y) env μ P :=
  Op2.of op_add_str fun F H as x y Q W h1 h2 kk => by cases h1; cases h2; exact ⟨_, _, rfl, rfl, hz, kk.now W k (.str _)⟩
theorem o_addL (h1 : vw μ d1 = .lst ds) (h2 : vw μ d2 = .lst es) (hz : ds.length + es.length ≤ sizeLine) (k : Nl P (ds ++ es) μ) : Op2 S (binaryOp .Add) d1 d2 env μ P :=
  Op2.of op_cat fun F H as x y Q W r1 r2 kk => by
    obtain ⟨a, vs, rfl, e1, q1⟩ := W.lst r1 h1
    obtain ⟨b, ws, rfl, e2, q2⟩ := W.lst r2 h2
    exact ⟨a, b, vs, ws, rfl, rfl, e1, e2, by rw [q1.length, q2.length]; exact hz, fun p np => kk.new W np k (q1.append q2)⟩
theorem o_addT (hz : ds.length + es.length ≤ sizeLine) (k : P (.tup (ds ++ es)) μ) : Op2 S (binaryOp .Add) (.tup ds) (.tup es) env μ P :=
  Op2.of op_catA fun F H as x y Q W r1 r2 kk => by
    obtain ⟨a, vs, rfl, e1, q1⟩ := r1.tupV
    obtain ⟨b, ws, rfl, e2, q2⟩ := r2.tupV
    refine ⟨_, _, _, _, rfl, rfl, .inl (.inl (W.sub _ _ e1)), .inl (.inl (W.sub _ _ e2)), by rw [q1.length, q2.length]; exact hz, fun z => ?_, fun _ z => ?_, fun _ _ p np => kk.newT W np k (q1.append q2)⟩
    · subst z
      cases q1
      exact kk.now W k (.tup e2 q2)
    · subst z
      cases q2
      rw [List.append_nil] at k
      exact kk.now W k (.tup e1 q1)
def rMulS : R2 := fun x y H Q => ∃ a n, x = .str a ∧ y = .int n ∧ PySem.MulOk a n ∧ Q (.str (PySem.Txt.mul a n)) H
theorem op_mulS {X : Cx} : OpR X (binaryOp .Mult) rMulS := by
  intro pins s σ H x y v u Q I rx ry h
  obtain ⟨a, n, rfl, rfl, hok, q⟩ := h
  obtain ⟨t, rfl⟩ := rx
  obtain ⟨t', rfl⟩ := ry
  exact PySem.SB.mul hok fun t2 k => ⟨.str _, H, I.tok _, ⟨t2, rfl⟩, q⟩
theorem o_mulS (hz : PySem.MulOk x i) (k : P (.str (PySem.Txt.mul x i)) μ) : Op2 S (binaryOp .Mult) (.str x) (.int i) env μ P :=
  Op2.of op_mulS fun F H as x y Q W h1 h2 kk => by cases h1; cases h2; exact ⟨_, _, rfl, rfl, hz, kk.now W k (.str _)⟩
theorem o_mulL (h1 : vw μ d1 = .lst ds) (hz : -(2 ^ 63) ≤ i ∧ i < 2 ^ 63 ∧ ds.length * i.toNat ≤ sizeLine) (k : Nl P (List.replicate i.toNat ds).flatten μ) : Op2 S (binaryOp .Mult) d1 (.int i) env μ P :=
  Op2.of op_rep fun F H as x y Q W r1 r2 kk => by
    obtain ⟨a, vs, rfl, e1, q1⟩ := W.lst r1 h1
    cases r2
    exact ⟨a, _, vs, rfl, rfl, e1, hz.1, hz.2.1, by rw [q1.length]; exact hz.2.2, fun p np => kk.new W np k (q1.rep _)⟩
/-! ### equality of data -/
@[reducible] def EqOk (d e : D) : Prop := d.isPy = true ∧ e.isPy = true ∧ SeqAt.shaped d.py = true ∧ SeqAt.shaped e.py = true
theorem lay_of {d : PyData} (h : SeqAt.shaped d = true) : d.canLay0 = true := by
  unfold SeqAt.shaped at h
  simp only [Bool.and_eq_true] at h
  exact h.1
def eqv (d e : D) : Bool := PyData.eqv d.py e.py
theorem o_eq {e1 e2 : D} (h1 : vw μ d1 = e1) (h2 : vw μ d2 = e2) (hk : EqOk e1 e2) (kk : P (.bl (eqv e1 e2)) μ) : Op2 S (compareOp .Eq) d1 d2 env μ P :=
  Op2.of (op_eqD (by have := S.hu; omega)) fun F H as x y Q W r1 r2 kq => ⟨e1.py, e2.py, W.dp _ r1 h1 hk.1 (lay_of hk.2.2.1), W.dp _ r2 h2 hk.2.1 (lay_of hk.2.2.2), hk.2.2.1, hk.2.2.2, kq.now W kk (.bl _)⟩
theorem o_ne {e1 e2 : D} (h1 : vw μ d1 = e1) (h2 : vw μ d2 = e2) (hk : EqOk e1 e2) (kk : P (.bl (!eqv e1 e2)) μ) : Op2 S (compareOp .NotEq) d1 d2 env μ P :=
  Op2.of (op_neD (by have := S.hu; omega)) fun F H as x y Q W r1 r2 kq => ⟨e1.py, e2.py, W.dp _ r1 h1 hk.1 (lay_of hk.2.2.1), W.dp _ r2 h2 hk.2.1 (lay_of hk.2.2.2), hk.2.2.1, hk.2.2.2, kq.now W kk (.bl _)⟩
theorem o_eqI (k : P (.bl (decide (i = j))) μ) : Op2 S (compareOp .Eq) (.int i) (.int j) env μ P :=
  Op2.of op_eq fun F H as x y Q W h1 h2 kk => by
    cases h1; cases h2
    have e : decide (V.int i = V.int j) = decide (i = j) := by simp
    exact ⟨rfl, by rw [e]; exact kk.now W k (.bl _)⟩
theorem o_neI (k : P (.bl (!decide (i = j))) μ) : Op2 S (compareOp .NotEq) (.int i) (.int j) env μ P :=
  Op2.of op_ne fun F H as x y Q W h1 h2 kk => by
    cases h1; cases h2
    have e : decide (V.int i = V.int j) = decide (i = j) := by simp
    exact ⟨rfl, by rw [e]; exact kk.now W k (.bl _)⟩
theorem o_eqS (k : P (.bl (decide (x = y))) μ) : Op2 S (compareOp .Eq) (.str x) (.str y) env μ P :=
  Op2.of op_eq fun F H as u v Q W h1 h2 kk => by
    cases h1; cases h2
    have e : decide (V.str x = V.str y) = decide (x = y) := by simp
    exact ⟨rfl, by rw [e]; exact kk.now W k (.bl _)⟩
theorem o_neS (k : P (.bl (!decide (x = y))) μ) : Op2 S (compareOp .NotEq) (.str x) (.str y) env μ P :=
  Op2.of op_ne fun F H as u v Q W h1 h2 kk => by
    cases h1; cases h2
    have e : decide (V.str x = V.str y) = decide (x = y) := by simp
    exact ⟨rfl, by rw [e]; exact kk.now W k (.bl _)⟩
/-! ### is None -/
def isNone : D → Bool
  | .non => true
  | _ => false
theorem isNone_v {Γ : Gam} {F : Hp} {as : List Ad} {v : V} (h : DV Γ F as v d) : decide (v = .non) = isNone d := by cases h <;> rfl
theorem o_isN (k : P (.bl (isNone d)) μ) : Op2 S (compareOp .Is) d .non env μ P :=
  Op2.of op_isN fun F H as u v Q W h1 h2 kk => by
    cases h2
    exact ⟨rfl, by rw [isNone_v h1]; exact kk.now W k (.bl _)⟩
theorem o_isntN (k : P (.bl (!isNone d)) μ) : Op2 S (compareOp .IsNot) d .non env μ P :=
  Op2.of op_notN fun F H as u v Q W h1 h2 kk => by
    cases h2
    exact ⟨rfl, by rw [isNone_v h1]; exact kk.now W k (.bl _)⟩
/-! ### in -/
theorem o_inL {e1 : D} (h1 : vw μ d1 = e1) (h2 : vw μ d2 = .lst ds) (hk : EqOk e1 (.lst ds)) (kk : P (.bl (ds.any fun z => eqv z e1)) μ) : Op2 S (compareOp .In) d1 d2 env μ P :=
  Op2.of (op_inD (by have := S.hu; omega)) fun F H as x y Q W r1 r2 kq => ⟨e1.py, D.pys ds, W.dp _ r1 h1 hk.1 (lay_of hk.2.2.1), by have := W.dp S.X.K r2 h2 hk.2.1 (lay_of hk.2.2.2); rwa [D.py] at this, hk.2.2.1, by have := hk.2.2.2; rwa [D.py] at this,
    by have e : ((D.pys ds).any fun z => PyData.eqv z e1.py) = ds.any fun z => eqv z e1 := by rw [pys_map, List.any_map]; rfl
       rw [e]; exact kq.now W kk (.bl _)⟩
theorem o_notInL {e1 : D} (h1 : vw μ d1 = e1) (h2 : vw μ d2 = .lst ds) (hk : EqOk e1 (.lst ds)) (kk : P (.bl (!ds.any fun z => eqv z e1)) μ) : Op2 S (compareOp .NotIn) d1 d2 env μ P :=
  Op2.of (op_notInD (by have := S.hu; omega)) fun F H as x y Q W r1 r2 kq => ⟨e1.py, D.pys ds, W.dp _ r1 h1 hk.1 (lay_of hk.2.2.1), by have := W.dp S.X.K r2 h2 hk.2.1 (lay_of hk.2.2.2); rwa [D.py] at this, hk.2.2.1, by have := hk.2.2.2; rwa [D.py] at this,
    by have e : ((D.pys ds).any fun z => PyData.eqv z e1.py) = ds.any fun z => eqv z e1 := by rw [pys_map, List.any_map]; rfl
       rw [e]; exact kq.now W kk (.bl _)⟩
theorem o_inS {c : Nat} (k : P (.bl (decide (c ∈ y.cps.toList))) μ) : Op2 S (compareOp .In) (.str ⟨#[c]⟩) (.str y) env μ P :=
  Op2.of op_in_sign fun F H as u v Q W h1 h2 kk => by cases h1; cases h2; exact ⟨_, _, rfl, rfl, kk.now W k (.bl _)⟩
theorem o_notInS {c : Nat} (k : P (.bl (!decide (c ∈ y.cps.toList))) μ) : Op2 S (compareOp .NotIn) (.str ⟨#[c]⟩) (.str y) env μ P :=
  Op2.of op_notIn_sign fun F H as u v Q W h1 h2 kk => by cases h1; cases h2; exact ⟨_, _, rfl, rfl, kk.now W k (.bl _)⟩
/-! ### subscripts -/
theorem DVs.atI {Γ : Gam} {F : Hp} {as : List Ad} {vs : List V} (h : DVs Γ F as vs ds) (e : L2.atI ds i = some d) : ∃ v, L2.atI vs i = some v ∧ DV Γ F as v d := by
  unfold L2.atI at e ⊢
  rw [h.length]
  cases hi : ixN ds.length i with
  | none => rw [hi] at e; exact nomatch e
  | some j => rw [hi] at e; exact h.get e
theorem x_lst (h1 : vw μ d1 = .lst ds) (h : L2.atI ds i = some d) (k : P d μ) : Ix2 S d1 (.int i) env μ P :=
  Ix2.of ix_seq fun F H as x y Q W r1 r2 kk => by
    obtain ⟨a, vs, rfl, e1, q1⟩ := W.lst r1 h1
    cases r2
    obtain ⟨v, hv, dv⟩ := q1.atI h
    exact .inl ⟨a, vs, _, v, rfl, rfl, .inl (.inl e1), hv, kk.now W k dv⟩
theorem x_tup (h : L2.atI ds i = some d) (k : P d μ) : Ix2 S (.tup ds) (.int i) env μ P :=
  Ix2.of ix_seq fun F H as x y Q W r1 r2 kk => by
    obtain ⟨a, vs, rfl, e1, q1⟩ := r1.tupV
    cases r2
    obtain ⟨v, hv, dv⟩ := q1.atI h
    exact .inr (.inl ⟨_, _, _, v, rfl, rfl, .inl (.inl (W.sub _ _ e1)), hv, kk.now W k dv⟩)
theorem x_str {c : Nat} (hz : x.length ≤ sizeLine) (h : L2.atI x.cps.toList i = some c) (k : P (.str ⟨#[c]⟩) μ) : Ix2 S (.str x) (.int i) env μ P :=
  Ix2.of ix_seq fun F H as u v Q W r1 r2 kk => by cases r1; cases r2; exact .inr (.inr ⟨_, _, c, rfl, rfl, hz, h, kk.now W k (.str _)⟩)
/-! ### slices -/
def cutD (ds : List D) (lo hi : Option Int) : List D := (ds.drop (HT.sIx ds.length 0 lo)).take (HT.sIx ds.length ds.length hi - HT.sIx ds.length 0 lo)
theorem DVs.cut {Γ : Gam} {F : Hp} {as : List Ad} {vs : List V} (h : DVs Γ F as vs ds) (lo hi : Option Int) : DVs Γ F as (cutV vs lo hi) (cutD ds lo hi) := by
  unfold cutV cutD
  rw [h.length]
  exact (h.drop _).take _
theorem cut_allD (vs : List D) (lo hi : Option Int) (h : HT.sIx vs.length 0 lo = 0 ∧ HT.sIx vs.length vs.length hi = vs.length) : cutD vs lo hi = vs := by
  unfold cutD
  rw [h.1, h.2, List.drop_zero, Nat.sub_zero, List.take_length]
theorem s_lst {lo hi : Option Int} (h1 : vw μ d1 = .lst ds) (k : Nl P (cutD ds lo hi) μ) : Sl3 S d1 lo hi μ P := ⟨_, sl_list, fun F H as x Q W r1 kk => by
  obtain ⟨a, vs, rfl, e1, q1⟩ := W.lst r1 h1
  exact ⟨a, vs, rfl, .inl (.inl e1), fun p np => kk.new W np k (q1.cut lo hi)⟩⟩
theorem s_tup {lo hi : Option Int} (k : P (.tup (cutD ds lo hi)) μ) : Sl3 S (.tup ds) lo hi μ P := ⟨_, sl_tupA, fun F H as x Q W r1 kk => by
  obtain ⟨a, vs, rfl, e1, q1⟩ := r1.tupV
  refine ⟨_, _, rfl, .inl (.inl (W.sub _ _ e1)), fun z => ?_, fun _ p np => kk.newT W np k (q1.cut lo hi)⟩
  rw [q1.length] at z
  rw [cut_allD _ lo hi z] at k
  exact kk.now W k (.tup e1 q1)⟩
theorem s_str {lo hi : Option Int} (hz : x.length ≤ sizeLine) (k : P (.str (cutS x lo hi)) μ) : Sl3 S (.str x) lo hi μ P := ⟨_, sl_str, fun F H as u Q W r1 kk => by cases r1; exact ⟨_, rfl, hz, kk.now W k (.str _)⟩⟩
/-! ### built-in calls -/
theorem dvs1 {Γ : Gam} {F : Hp} {as : List Ad} {xs : List V} (h : DVs Γ F as xs [d]) : ∃ x, xs = [x] ∧ DV Γ F as x d := by
  cases h with
  | cons h t => cases t; exact ⟨_, rfl, h⟩
theorem dvs2 {Γ : Gam} {F : Hp} {as : List Ad} {xs : List V} (h : DVs Γ F as xs [d, d1]) : ∃ x y, xs = [x, y] ∧ DV Γ F as x d ∧ DV Γ F as y d1 := by
  cases h with
  | cons h t =>
    obtain ⟨y, rfl, h2⟩ := dvs1 t
    exact ⟨_, _, rfl, h, h2⟩
theorem c_lenL (h1 : vw μ d = .lst ds) (k : P (.int ds.length) μ) : Cl S (.builtin "len") [d] env μ P :=
  Cl.of call_len_seq fun F H as xs Q W r kk => by
    obtain ⟨x, rfl, r1⟩ := dvs1 r
    obtain ⟨a, vs, rfl, e, q⟩ := W.lst r1 h1
    exact ⟨a, vs, rfl, .inl (.inl (.inl e)), by rw [q.length]; exact kk.now W k (.int _)⟩
theorem c_lenT (k : P (.int ds.length) μ) : Cl S (.builtin "len") [.tup ds] env μ P :=
  Cl.of call_len_seq fun F H as xs Q W r kk => by
    obtain ⟨x, rfl, r1⟩ := dvs1 r
    obtain ⟨a, vs, rfl, e, q⟩ := r1.tupV
    exact ⟨a, vs, rfl, .inr (.inl (.inl (W.sub _ _ e))), by rw [q.length]; exact kk.now W k (.int _)⟩
theorem c_lenS (hz : x.length ≤ sizeLine) (k : P (.int x.length) μ) : Cl S (.builtin "len") [.str x] env μ P :=
  Cl.of call_len_str fun F H as xs Q W r kk => by
    obtain ⟨_, rfl, r1⟩ := dvs1 r
    cases r1
    exact ⟨_, rfl, hz, kk.now W k (.int _)⟩
theorem c_tupL (h1 : vw μ d = .lst ds) (k : P (.tup ds) μ) : Cl S (.type "tuple") [d] env μ P :=
  Cl.of call_tuple_of fun F H as xs Q W r kk => by
    obtain ⟨x, rfl, r1⟩ := dvs1 r
    obtain ⟨a, vs, rfl, e, q⟩ := W.lst r1 h1
    exact ⟨a, vs, rfl, .inl ⟨.inl (.inl e), fun l hl => kk.newT W hl k q⟩⟩
theorem c_tupT (k : P (.tup ds) μ) : Cl S (.type "tuple") [.tup ds] env μ P :=
  Cl.of call_tuple_of fun F H as xs Q W r kk => by
    obtain ⟨x, rfl, r1⟩ := dvs1 r
    obtain ⟨a, vs, rfl, e, q⟩ := r1.tupV
    exact ⟨a, vs, rfl, .inr ⟨.inl (.inl (W.sub _ _ e)), kk.now W k (.tup e q)⟩⟩
theorem c_lstL (h1 : vw μ d = .lst ds) (k : Nl P ds μ) : Cl S (.type "list") [d] env μ P :=
  Cl.of call_list_of fun F H as xs Q W r kk => by
    obtain ⟨x, rfl, r1⟩ := dvs1 r
    obtain ⟨a, vs, rfl, e, q⟩ := W.lst r1 h1
    exact ⟨a, vs, rfl, .inl (.inl (.inl e)), fun l hl => kk.new W hl k q⟩
theorem c_lstT (k : Nl P ds μ) : Cl S (.type "list") [.tup ds] env μ P :=
  Cl.of call_list_of fun F H as xs Q W r kk => by
    obtain ⟨x, rfl, r1⟩ := dvs1 r
    obtain ⟨a, vs, rfl, e, q⟩ := r1.tupV
    exact ⟨a, vs, rfl, .inr (.inl (.inl (W.sub _ _ e))), fun l hl => kk.new W hl k q⟩
@[reducible] def ReprOk (d : D) : Prop := d.isPy = true ∧ d.py.showable = true ∧ d.py.hasDict = false ∧ d.py.depth ≤ 64 ∧ d.py.shown.length ≤ sizeLine
theorem c_repr {e1 : D} (h1 : vw μ d = e1) (hk : ReprOk e1) (k : P (.str e1.py.shown) μ) : Cl S (.builtin "repr") [d] env μ P :=
  Cl.of (Gd.cr_repr S.hg (by have := S.hu; omega)) fun F H as xs Q W r kk => by
    obtain ⟨x, rfl, r1⟩ := dvs1 r
    exact ⟨x, e1.py, rfl, W.dpn _ r1 h1 hk.1 hk.2.2.1, hk.2.1, hk.2.2.1, hk.2.2.2.1, hk.2.2.2.2, kk.now W k (.str _)⟩
theorem c_int (k : P (.int i) μ) : Cl S (.type "int") [.int i] env μ P :=
  Cl.of call_int1 fun F H as xs Q W r kk => by
    obtain ⟨x, rfl, r1⟩ := dvs1 r
    cases r1
    exact .inl ⟨i, rfl, kk.now W k (.int _)⟩
theorem c_intB {b : Bool} (k : P (.int (if b then 1 else 0)) μ) : Cl S (.type "int") [.bl b] env μ P :=
  Cl.of call_int1 fun F H as xs Q W r kk => by
    obtain ⟨x, rfl, r1⟩ := dvs1 r
    cases r1
    exact .inr ⟨b, rfl, kk.now W k (.int _)⟩
theorem c_abs (k : P (.int (if i < 0 then -i else i)) μ) : Cl S (.builtin "abs") [.int i] env μ P :=
  Cl.of call_abs fun F H as xs Q W r kk => by
    obtain ⟨x, rfl, r1⟩ := dvs1 r
    cases r1
    exact ⟨i, rfl, kk.now W k (.int _)⟩
end
end Me

/-! Me7: contracts of defs, calls. -/
namespace Me
open PySem PySem.Spec PyProof.Rows L2
/-- the cells speak of cells among them -/
def Low (μ : Mu) : Prop := ∀ (j : Nat) (c : Cell), μ[j]? = some c → ∀ i ∈ c.refs, i < μ.length
theorem Wd.lows {Γ : Gam} {F H : Hp} {as : List Ad} {μ : Mu} (W : Wd Γ F H as μ) : Low μ := fun _ _ h => W.low h
theorem take_at {α : Type} {l : List α} {n j : Nat} {x : α} (h : (l.take n)[j]? = some x) : l[j]? = some x ∧ j < n := by
  rw [List.getElem?_take] at h
  split at h
  · exact ⟨h, by assumption⟩
  · exact nomatch h
/-- a state seen otherwise: cells from n on are dropped, or become stable -/
structure ShR (Γ : Gam) (n : Nat) (F : Hp) (as : List Ad) (F' : Hp) (as' : List Ad) : Prop where
  sub : Same F F'
  new : ∀ a, F a = none → F' a ≠ none → a ∈ ads (as.drop n)
  pre : ∃ more, as' = as.take n ++ more ∧ ∀ ad ∈ more, ad ∈ as.drop n
def Sh (Γ : Gam) (n : Nat) (d : D) (μ : Mu) (d' : D) (μ' : Mu) : Prop := ∀ F H as v, Wd Γ F H as μ → DV Γ F as v d → n ≤ as.length → ∃ F' as', Wd Γ F' H as' μ' ∧ DV Γ F' as' v d' ∧ ShR Γ n F as F' as'
theorem ShR.refl {Γ : Gam} {n : Nat} {F : Hp} {as : List Ad} (h : n ≤ as.length) : ShR Γ n F as F as :=
  ⟨Same.refl F, fun a h h' => absurd h h', as.drop n, (List.take_append_drop n as).symm, fun _ h => h⟩
theorem ShR.trans {Γ : Gam} {n : Nat} {F F1 F2 : Hp} {as as1 as2 : List Ad} (hn : n ≤ as.length) (h : ShR Γ n F as F1 as1) (h' : ShR Γ n F1 as1 F2 as2) : ShR Γ n F as F2 as2 := by
  obtain ⟨m1, e1, k1⟩ := h.pre
  obtain ⟨m2, e2, k2⟩ := h'.pre
  have t : as1.take n = as.take n := by
    rw [e1, List.take_append, List.take_take, Nat.min_self, List.length_take, Nat.min_eq_left hn, Nat.sub_self, List.take_zero, List.append_nil]
  have dr : as1.drop n = m1 := by
    rw [e1, List.drop_append, List.drop_eq_nil_of_le (by rw [List.length_take]; omega), List.length_take, Nat.min_eq_left hn, Nat.sub_self, List.drop_zero, List.nil_append]
  refine ⟨h.sub.trans h'.sub, fun a q q' => ?_, m2, by rw [e2, t], fun ad z => k1 ad (dr ▸ k2 ad z)⟩
  by_cases z : F1 a = none
  · have := h'.new a z q'
    rw [dr] at this
    obtain ⟨ad, z1, z2⟩ := List.mem_map.mp this
    exact List.mem_map.mpr ⟨ad, k1 ad z1, z2⟩
  · exact h.new a q z
theorem Go.sh {Γ : Gam} {F H F2 H2 F3 : Hp} {as as2 as3 : List Ad} (g : Go F H as F2 H2 as2) (h : ShR Γ as.length F2 as2 F3 as3) : Go F H as F3 H2 as3 := by
  obtain ⟨more, e, n⟩ := g.pre
  obtain ⟨m1, e1, k1⟩ := h.pre
  have t : as2.take as.length = as := by rw [e, List.take_left]
  have dr : as2.drop as.length = more := by rw [e, List.drop_left]
  refine ⟨g.keep, g.dom, g.sub.trans h.sub, fun a q q' => ?_, m1, by rw [e1, t], fun ad z => n ad (dr ▸ k1 ad z)⟩
  by_cases z : F2 a = none
  · have := h.new a z q'
    rw [dr] at this
    obtain ⟨ad, z1, rfl⟩ := List.mem_map.mp this
    exact .inl (n ad z1)
  · exact g.new a q z
section
variable {Γ : Gam} {F H : Hp} {as : List Ad} {μ ext : Mu} {n : Nat} {d : D}
theorem Wd.cut (W : Wd Γ F H as (μ ++ ext)) (lo : Low μ) : Wd Γ F H (as.take μ.length) μ := by
  refine ⟨W.sub, ?_, ?_, fun j a c ha hc => ?_, fun a ha => W.seen a (List.mem_of_mem_take ha)⟩
  · show ((as.take μ.length).map Ad.a).Nodup
    rw [List.map_take]
    exact List.Sublist.nodup (List.take_sublist _ _) W.nd
  · have := W.len
    rw [List.length_append] at this
    rw [List.length_take]
    omega
  · obtain ⟨h1, h2⟩ := take_at ha
    refine (W.ok j a c h1 (by rw [List.getElem?_append_left h2]; exact hc)).go (Same.refl F) (fun z => z) (fun o z => z) (fun i hi b z => ?_)
    rw [List.getElem?_take, if_pos (lo j c hc i hi)]
    exact z
theorem Sh.refl {μ : Mu} : Sh Γ n d μ d μ := fun F H as v W r hn => ⟨F, as, W, r, ShR.refl hn⟩
theorem Sh.trans {d1 d2 : D} {μ μ1 μ2 : Mu} (h : Sh Γ n d μ d1 μ1) (h' : Sh Γ n d1 μ1 d2 μ2) (hn : n ≤ μ1.length) : Sh Γ n d μ d2 μ2 := fun F H as v W r hl => by
  obtain ⟨F1, as1, W1, r1, s1⟩ := h F H as v W r hl
  obtain ⟨F2, as2, W2, r2, s2⟩ := h' F1 H as1 v W1 r1 (by rw [W1.len]; exact hn)
  exact ⟨F2, as2, W2, r2, s1.trans hl s2⟩
theorem Sh.drop (hr : ∀ i ∈ d.refs, i < μ.length) (lo : Low μ) (hn : n ≤ μ.length) : Sh Γ n d (μ ++ ext) d μ := fun F H as v W r hl => by
  have hlen := W.len
  rw [List.length_append] at hlen
  refine ⟨F, as.take μ.length, W.cut lo, r.to (Same.refl F) fun i hi ad z => ?_, Same.refl F, fun a h h' => absurd h h', (as.take μ.length).drop n, ?_, fun ad z => ?_⟩
  · rw [List.getElem?_take, if_pos (hr i hi)]
    exact z
  · have e0 : as.take n = (as.take μ.length).take n := by rw [List.take_take, Nat.min_eq_left hn]
    rw [e0, List.take_append_drop]
  · rw [List.drop_take] at z
    exact List.mem_of_mem_take z
/-- a cell becomes stable; its place is empty -/
theorem Wd.freeze {j : Nat} {ad : Ad} {o : HO} {μ : Mu} (W : Wd Γ F H as μ) (ha : as[j]? = some ad) (hv : H ad.a = some o) (nF : F ad.a = none) : Wd Γ (upd F ad.a o) H as (μ.set j .dead) ∧ Same F (upd F ad.a o) := by
  have sF : Same F (upd F ad.a o) := fun b u e => by rw [upd_ne (ne_of_none e nF)]; exact e
  refine ⟨⟨fun b u e => ?_, W.nd, by rw [List.length_set]; exact W.len, fun k b c hb hc => ?_, W.seen⟩, sF⟩
  · by_cases hb : b = ad.a
    · subst hb; rw [upd_same] at e; rw [hv]; exact e
    · rw [upd_ne hb] at e; exact W.sub b u e
  · by_cases hk : j = k
    · subst hk
      rw [List.getElem?_set, if_pos rfl] at hc
      split at hc
      · obtain rfl := Option.some.inj hc; trivial
      · exact nomatch hc
    · rw [List.getElem?_set, if_neg hk] at hc
      have hba : b.a ≠ ad.a := fun z => hk (W.inj ha hb z.symm)
      exact (W.ok k b c hb hc).go sF (fun z => by rw [upd_ne hba]; exact z) (fun o z => z) (fun _ _ _ z => z)
theorem freeze_sh {j : Nat} {ad : Ad} {o : HO} (ha : as[j]? = some ad) (hn : n ≤ j) (hl : n ≤ as.length) (sF : Same F (upd F ad.a o)) : ShR Γ n F as (upd F ad.a o) as := by
  refine ⟨sF, fun a q q' => ?_, as.drop n, (List.take_append_drop n as).symm, fun _ h => h⟩
  by_cases z : a = ad.a
  · subst z
    refine List.mem_map.mpr ⟨ad, ?_, rfl⟩
    refine List.mem_of_getElem? (i := j - n) ?_
    rw [List.getElem?_drop, show n + (j - n) = j by omega]
    exact ha
  · rw [upd_ne z] at q'
    exact absurd q q'
theorem Sh.frz {j : Nat} {ds : List D} {μ : Mu} (hj : μ[j]? = some (.lst ds)) (hn : n ≤ j) : Sh Γ n (.cell j) μ (.lst ds) (μ.set j .dead) := fun F H as v W r hl => by
  cases r with
  | cell ha =>
    obtain ⟨_, nF, vs, hv, dv⟩ := W.ok j _ _ ha hj
    obtain ⟨W', sF⟩ := W.freeze ha hv nF
    exact ⟨_, as, W', .lst upd_same (dv.to sF fun _ _ _ z => z), freeze_sh ha hn hl sF⟩
theorem Sh.frzI {j : Nat} {c : String} {fs : List (Str × D)} {μ : Mu} (hj : μ[j]? = some (.ins c fs)) (hn : n ≤ j) : Sh Γ n (.cell j) μ (.ins c fs) (μ.set j .dead) := fun F H as v W r hl => by
  cases r with
  | cell ha =>
    obtain ⟨_, nF, C, dx, vs, hc, hv, dv⟩ := W.ok j _ _ ha hj
    obtain ⟨W', sF⟩ := W.freeze ha hv nF
    exact ⟨_, as, W', .ins upd_same hc (dv.to sF fun _ _ _ z => z), freeze_sh ha hn hl sF⟩
end

/-! ### promises -/
abbrev KX := Ex → Mu → Prop
abbrev Ct := List D → Mu → KD → KX → Prop
def spM (Γ : Gam) (C : Ct) : Sp := fun vs H Q E => ∃ F as args μ P Z, C args μ P Z ∧ DVs Γ F as vs args ∧ Wd Γ F H as μ ∧
  (∀ d μ' v F' H' as', P d μ' → Go F H as F' H' as' → Wd Γ F' H' as' μ' → DV Γ F' as' v d → Q v H') ∧
  (∀ x μ' cls dx F' H' as', Z x μ' → Go F H as F' H' as' → Wd Γ F' H' as' μ' → XOk Γ F' H' as' cls dx x → E cls dx H')
/-- what is returned, seen as is wanted -/
def Rt (Γ : Gam) (μ0 : Mu) (P : KD) (d : D) (μ : Mu) : Prop := Low μ0 → ∃ d' μ', Sh Γ μ0.length d μ d' μ' ∧ P d' μ'
def RetR (Γ : Gam) (μ0 : Mu) (P : KD) : Out → Prop
  | .ret d m => Rt Γ μ0 P d m
  | .next _ m => Rt Γ μ0 P .non m
  | _ => False
/-- what is raised, local cells dropped -/
def ZR (μ0 : Mu) (Z : KX) : Ex → En → Mu → Prop := fun x _ m => Low μ0 → ∃ m' ext, m = m' ++ ext ∧ μ0.length ≤ m'.length ∧ Low m' ∧ (∀ i ∈ D.refsF x.fs, i < m'.length) ∧ Z x m'
section
variable {Γ : Gam} {μ0 μ ext : Mu} {P : KD} {Z : KX} {d : D} {j : Nat} {ds : List D} {x : Ex} {env : En}
theorem rt (h : P d μ) : Rt Γ μ0 P d μ := fun _ => ⟨d, μ, Sh.refl, h⟩
theorem rt_drop (h : P d μ) (hr : ∀ i ∈ d.refs, i < μ.length) (hn : μ0.length ≤ μ.length) (lo : Low μ0 → Low μ) : Rt Γ μ0 P d (μ ++ ext) := fun l => ⟨d, μ, Sh.drop hr (lo l) hn, h⟩
theorem rt_drop0 (h : P d μ0) (hr : ∀ i ∈ d.refs, i < μ0.length) : Rt Γ μ0 P d (μ0 ++ ext) := rt_drop h hr (Nat.le_refl _) id
theorem rt_frz (hj : μ[j]? = some (.lst ds)) (hn : μ0.length ≤ j) (h : Rt Γ μ0 P (.lst ds) (μ.set j .dead)) : Rt Γ μ0 P (.cell j) μ := fun l => by
  obtain ⟨d', μ', s, p⟩ := h l
  refine ⟨d', μ', (Sh.frz hj hn).trans s ?_, p⟩
  rw [List.length_set]
  have := (List.getElem?_eq_some_iff.mp hj).1
  omega
theorem rt_frzI {c : String} {fs : List (Str × D)} (hj : μ[j]? = some (.ins c fs)) (hn : μ0.length ≤ j) (h : Rt Γ μ0 P (.ins c fs) (μ.set j .dead)) : Rt Γ μ0 P (.cell j) μ := fun l => by
  obtain ⟨d', μ', s, p⟩ := h l
  refine ⟨d', μ', (Sh.frzI hj hn).trans s ?_, p⟩
  rw [List.length_set]
  have := (List.getElem?_eq_some_iff.mp hj).1
  omega
/-- the last cell goes out as a stable list -/
theorem rt_last (h : P (.lst ds) μ0) (hr : ∀ i ∈ D.refsL ds, i < μ0.length) : Rt Γ μ0 P (.cell μ0.length) (μ0 ++ [.lst ds]) := by
  refine rt_frz (ds := ds) (by simp) (Nat.le_refl _) ?_
  rw [show (μ0 ++ [Cell.lst ds]).set μ0.length .dead = μ0 ++ [.dead] by simp]
  exact rt_drop0 h (by rw [D.refs]; exact hr)
theorem zr (h : Z x μ) (hn : μ0.length ≤ μ.length) (lo : Low μ0 → Low μ) (hr : ∀ i ∈ D.refsF x.fs, i < μ.length) : ZR μ0 Z x env (μ ++ ext) := fun l => ⟨μ, ext, rfl, hn, lo l, hr, h⟩
theorem zr0 (h : Z x μ0) (hr : ∀ i ∈ D.refsF x.fs, i < μ0.length) : ZR μ0 Z x env μ0 := fun l => ⟨μ0, [], (List.append_nil _).symm, Nat.le_refl _, l, hr, h⟩
end
theorem env_start {Γ : Gam} {F : Hp} {as : List Ad} {args : List D} {vs : List V} (r : DVs Γ F as vs args) (n : Nat) : EnvOk Γ F as (args.map some ++ List.replicate (n - args.length) none) (vs.map some ++ List.replicate (n - vs.length) none) := by
  have hl := r.length
  refine ⟨by simp [hl], fun i d e => ?_⟩
  by_cases hi : i < args.length
  · rw [List.getElem?_append_left (by simpa using hi), List.getElem?_map] at e
    obtain ⟨d', h1, h2⟩ := Option.map_eq_some_iff.mp e
    obtain rfl := Option.some.inj h2
    obtain ⟨v, q1, q2⟩ := r.get h1
    exact ⟨v, by rw [List.getElem?_append_left (by simpa [hl] using hi), List.getElem?_map, q1]; rfl, q2⟩
  · rw [List.getElem?_append_right (by simpa using hi), List.getElem?_replicate] at e
    split at e <;> exact nomatch e
section
variable {w : World} {P : Program} {base : Heap} {mg : Str → Option Value} {K : PySem.W.Frag}
abbrev bodyX (P : Program) (w : World) (K : PySem.W.Frag) (mg : Str → Option Value) (base : Heap) (N : List Str) (qual : Str) (st : Stmt) (f : Addr) (cdv : Value) (A : Around) (outer : List Env) (s : Shared) (H : Hp) (E : XK) : Cx :=
  cxOf (L2.CX P w) P w K mg base N qual (defScope st) f cdv A outer s H E
/-- the scene of a body -/
abbrev bodyS (P : Program) (w : World) (K : PySem.W.Frag) (mg : Str → Option Value) (base : Heap) (Γ : Gam) (hK : Γ.K = K) (N : List Str) (qual : Str) (st : Stmt) (f : Addr) (cdv : Value) (A : Around) (outer : List Env) (s : Shared) (H : Hp) (E : XK)
    (Z : Ex → En → Mu → Prop) (hg : A.guards = some []) (hN : N.Nodup) (hb : Bi mg) (k : Nat) (rm : L2H.RoomH k (A.deeper (envOfC qual (defScope st) s.heap.objs.size f cdv))) : Sc := ⟨Γ, bodyX P w K mg base N qual st f cdv A outer s H E, Z, hK, hg, hN, passes_of rfl, hb, k, rm⟩
theorem okM {Γ : Gam} (hK : Γ.K = K) (hb' : Bi mg) {x qual : Str} {st : Stmt} {f : Addr} {fd : FuncData} {N ps : List Str} {k : Nat} {C : Ct} (F : Fun K x qual st f fd) (S : FnScope N ps (defScope st)) (ct : ∀ args μ P Z, C args μ P Z → args.length = ps.length)
    (hb : ∀ (cdv : Value) (A : Around) (outer : List Env) (s : Shared) (H : Hp) (E : XK) (hg : A.guards = some []) (rm : L2H.RoomH k (A.deeper (envOfC qual (defScope st) s.heap.objs.size f cdv))),
      ∀ args μ Q Z, C args μ Q Z → B (bodyS P w K mg base Γ hK N qual st f cdv A outer s H E (ZR μ Z) hg S.nd hb' k rm) (defBody st) (args.map some ++ List.replicate (N.length - args.length) none) μ (RetR Γ μ Q)) :
    Gd.FnG P w K mg base (L2.CX P w) (k + 1) f fd ps (spM Γ C) := by
  obtain ⟨oc, od, kV, doc, pm, an, cdv, ct', osl, rfl, lk, hcd⟩ := F.ex
  refine Gd.fn_ofG lk hcd S (fun vs H Q E ⟨F, as, args, μ, P, Z, hC, r, _⟩ => by rw [r.length]; exact ct _ _ _ _ hC) fun A outer s H vs Q E gA hr hsp => ?_
  obtain ⟨F, as, args, μ, Pd, Z, hC, r, W, kp, kz⟩ := hsp
  have hbb := hb cdv A outer s H E gA ⟨hr.dp, hr.un⟩ args μ Pd Z hC
  have hln : as.length = μ.length := W.len
  refine ⟨_, hbb, F, as, ⟨env_start r N.length, W, ?_⟩, ?_, ?_, ?_, ?_⟩
  · intro x env μ' σ cls dx F' H' as' z g e W' xo
    obtain ⟨m', ext, rfl, hn, lo, hrf, hz⟩ := z W.lows
    have W2 := W'.cut lo
    refine Wk.of (takes_of (X := bodyX P w K mg base N qual st f cdv A outer s H E) rfl rfl rfl rfl) (kz x m' cls dx F' H' (as'.take m'.length) hz ?_ W2 ?_)
    · obtain ⟨more, e1, n1⟩ := g.pre
      refine ⟨g.keep, g.dom, g.sub, g.new, more.take (m'.length - as.length), ?_, fun a ha => n1 a (List.mem_of_mem_take ha)⟩
      rw [e1, List.take_append, List.take_of_length_le (by omega)]
    · obtain ⟨C0, h1, h2, h3⟩ := xo
      refine ⟨C0, h1, h2, ?_⟩
      rcases h3 with h3 | ⟨dx', vs', e1, e2, e3⟩
      · exact .inl h3
      · refine .inr ⟨dx', vs', e1, e2, e3.to (Same.refl F') fun i hi ad z => ?_⟩
        rw [List.getElem?_take, if_pos (hrf i hi)]
        exact z
  · intro env2 m2 σ2 F2 H2 as2 h2 g2 e2 W2
    obtain ⟨d', μ', sh, p⟩ := h2 W.lows
    have l2 : as.length ≤ as2.length := by obtain ⟨more, e1, _⟩ := g2.pre; rw [e1, List.length_append]; omega
    obtain ⟨F3, as3, W3, r3, s3⟩ := sh F2 H2 as2 .non W2 .non (by omega)
    exact kp _ μ' _ F3 H2 as3 p (g2.sh (by rw [hln]; exact s3)) W3 r3
  · intro d2 m2 v F2 H2 as2 h2 g2 W2 r2
    obtain ⟨d', μ', sh, p⟩ := h2 W.lows
    have l2 : as.length ≤ as2.length := by obtain ⟨more, e1, _⟩ := g2.pre; rw [e1, List.length_append]; omega
    obtain ⟨F3, as3, W3, r3, s3⟩ := sh F2 H2 as2 v W2 r2 (by omega)
    exact kp _ μ' _ F3 H2 as3 p (g2.sh (by rw [hln]; exact s3)) W3 r3
  · exact fun _ _ _ _ _ _ h => h.elim
  · exact fun _ _ _ _ _ _ h => h.elim
/-- a def of the module by its name -/
structure Fn (P : Program) (w : World) (K : PySem.W.Frag) (mg : Str → Option Value) (base : Heap) (Γ : Gam) (k : Nat) (x : Str) (C : Ct) : Prop where
  ex : ∃ f fd ps, Gd.FnG P w K mg base (L2.CX P w) k f fd ps (spM Γ C) ∧ mg x = some (.ref f) ∧ PySem.W.keepIn K (.ref f) = true ∧ Binds K fd ps []
end
section
variable {S : Sc} {env : En} {μ : Mu} {e : Expr} {es : List Expr} {pos p0 : Pos} {x : Str} {k j : Nat} {C : Ct} {P : KD}
theorem run_fnM {X : Cx} {f : Addr} {fd : FuncData} {ps : List Str} {sp : Sp} {pins : List (Addr × Obj)} {σ : L2.St} {H : Hp} {s : Shared} {Q : VK} {us ds : List Value} {vs dvs : List V}
    (F : Gd.FnG X.prog X.w X.K X.mg X.base (L2.CX X.prog X.w) k f fd ps sp) (gX : X.A.guards = some []) (hr : Room k X.A) (hb : Binds X.K fd ps ds)
    (hd : Vals dvs ds) (I : Inv X pins σ H s) (r : Vals vs us) (h : sp (vs ++ dvs) H Q (fun cls d H' => Wk X cls d σ H')) :
    wpAny (model X.prog X.w) X.A (call (.ref f) us) (EP X pins σ Q) X.xe s := by
  have rr : Vals (vs ++ dvs) (us ++ ds) := r.append hd
  have len : (us ++ ds).length = ps.length := rr.length ▸ F.lenG _ _ _ _ h
  refine wpAny_call (codeAny_mono (F.runG X.A X.stack s H ⟨us, []⟩ (us ++ ds) (vs ++ dvs) Q _ gX hr I.env0 (hb s us I.kIn len) rr h) fun res s' hq => ?_)
  match res, hq with
  | .error e, hq => exact takes_wk _ _ (XE.of_call (W := Wk X) I (fun _ _ _ z => z) hq)
  | .ok (.ret u), hq => exact I.after hq
  | .ok .next, hq => exact False.elim hq
  | .ok .brk, hq => exact False.elim hq
  | .ok .cont, hq => exact False.elim hq
theorem spM_of {ds : List D} {F H : Hp} {as : List Ad} {σ : L2.St} {Q : VK} {vs : List V} (hC : C ds μ P (fun x m => S.Z x env m)) (a : At S env μ σ H F as) (r : DVs S.Γ F as vs ds) (k : Kv S F H as P Q) :
    spM S.Γ C (vs ++ []) H Q (fun cls d H' => Wk S.X cls d σ H') := by
  rw [List.append_nil]
  exact ⟨F, as, ds, μ, P, _, hC, r, a.w, k, fun x μ' cls dx F' H' as' z g W' xo => a.k x env μ' σ cls dx F' H' as' z g (a.e.mono g) W' xo⟩
theorem e_call (F : Fn S.X.prog S.X.w S.X.K S.X.mg S.X.base S.Γ k x C) (h : A S (e :: es) env μ fun ds μ1 => C ds μ1 P (fun x m => S.Z x env m)) (hkj : k ≤ S.k := by first | decide | assumption | omega) (hc : S.X.calm = true := by rfl) (hg : Gl S.X x := by rfl) (hdb : (x == ("__debug__" : Str)) = false := by decide)
    (he : starEach (e :: es) S.X.env = (false, eval e S.X.env) :: starEach es S.X.env := by rfl) (hpl : (backTo pos (starEach es S.X.env)).any (·.1) = false := by rfl) : E S (.Call (.Name x p0) (e :: es) [] pos) env μ P := by
  obtain ⟨f, fd, ps, F1, hm, hk, hb⟩ := F.ex
  refine ⟨fun pins s σ H Q I ⟨F0, as, a, k0⟩ => wpAny_Call_Name_kw (ld_glob I hg hm ?_ hdb)⟩
  refine PySem.W.callWith_K (h₀ := S.X.base) I.ok.mod.kin hk (thn (h.run pos pins s σ H (fun vs H1 => spM S.Γ C (vs ++ []) H1 Q (fun cls d H' => Wk S.X cls d σ H')) I ⟨F0, as, a, ?_⟩) ?_) he hpl
  · exact fun ds μ1 vs F1 H1 as1 p1 g1 W1 r1 => spM_of p1 (a.go g1 W1) r1 (k0.go g1)
  · intro us s1 ⟨vs, H1, I1, r1, q1⟩
    exact ⟨I1.kIn, run_fnM F1 S.hg ⟨I1.ok.hd hc, (S.rm.mono hkj).dp, (S.rm.mono hkj).un⟩ hb .nil I1 r1 q1⟩
end
end Me

/-! Me8: methods of built-in types, stores to places. -/
namespace Me
open PySem PySem.Spec PyProof.Rows L2
section
variable {S : Sc} {env : En} {μ : Mu} {a b c e o : Expr} {es : List Expr} {rest : List Stmt} {R : Out → Prop} {pos p0 apos cpos tpos : Pos} {x y : Str} {P : KD} {d d1 d2 : D} {ds : List D} {i j : Int} {n : Nat}
/-- what type a receiver has -/
def Ty (S : Sc) (Tn : String) (d : D) (μ : Mu) : Prop := ∀ F H as v, Wd S.Γ F H as μ → DV S.Γ F as v d → tyV S.X.K Tn v H
theorem ty_lst (h : vw μ d = .lst ds) : Ty S "list" d μ := fun F H as v W r => by
  obtain ⟨a, vs, rfl, h1, _⟩ := W.lst r h
  exact .inl ⟨rfl, vs, .inl (.inl h1)⟩
theorem ty_str : Ty S "str" (.str x) μ := fun F H as v W r => by cases r; rfl
/-- a method of a built-in type, by values -/
def Mt (S : Sc) (id : String) (d : D) (ds : List D) (μ : Mu) (P : KD) : Prop := ∃ r, MtR S.X id r ∧ ∀ F H as x xs Q, Wd S.Γ F H as μ → DV S.Γ F as x d → DVs S.Γ F as xs ds → Kv S F H as P Q → r x xs H Q
def yMt (X : Cx) (id : String) : V → List V → Hp → VK → Prop := fun x xs H Q => ∃ r, MtR X id r ∧ r x xs H Q
theorem mt_y {X : Cx} {id : String} : MtR X id (yMt X id) := fun pins s σ H x xs v us Q I rx rs ⟨r, h, q⟩ => h pins s σ H x xs v us Q I rx rs q
theorem e_bm {Tn id : String} {name : Str} (pa : PlainAttrs Tn) (slot : Slot Tn name id) (hty : typeOf (.builtin id) = pure (.type "method_descriptor"))
    (h : E S o env μ fun d μ1 => Ty S Tn d μ1 ∧ A S (e :: es) env μ1 fun ds μ2 => Mt S id d ds μ2 P)
    (hbase : attributeBase o name S.X.env (eval o S.X.env) = eval o S.X.env := by rfl)
    (hfew : ((backTo cpos (starEach (e :: es) S.X.env)).all (fun x => !x.1) && (backToKw cpos (keywordEach [] S.X.env)).all (fun x => x.1.isSome) && decide ((e :: es).length + ([] : List Keyword).length + (if ([] : List Keyword).isEmpty then 0 else 1) < 30)) = true := by rfl)
    (hline : (apos.endLine == cpos.line) = true := by rfl) (hs : starEach (e :: es) S.X.env = (false, eval e S.X.env) :: starEach es S.X.env := by rfl) (hpl : (backTo cpos (starEach es S.X.env)).any (·.1) = false := by rfl) :
    E S (.Call (.Attribute o name apos) (e :: es) [] cpos) env μ P := by
  refine PE.imp (pe_bm pa slot hty mt_y h pa_y hbase hfew hline hs hpl) fun σ H Q ⟨F, as, a, k⟩ => ⟨F, as, a, fun d μ1 v F1 H1 as1 ⟨t1, p1⟩ g1 W1 r1 => ⟨t1 F1 H1 as1 v W1 r1, ?_⟩⟩
  refine p1.go (a.go g1 W1) fun ds μ2 vs F2 H2 as2 ⟨r, hr, hh⟩ g2 W2 r2 => ⟨r, hr, ?_⟩
  exact hh F2 H2 as2 v vs Q W2 (r1.mono g2) r2 ((k.go g1).go g2)
theorem e_bm0 {Tn id : String} {name : Str} (pa : PlainAttrs Tn) (slot : Slot Tn name id) (hty : typeOf (.builtin id) = pure (.type "method_descriptor"))
    (h : E S o env μ fun d μ1 => Ty S Tn d μ1 ∧ Mt S id d [] μ1 P)
    (hbase : attributeBase o name S.X.env (eval o S.X.env) = eval o S.X.env := by rfl) (hline : (apos.endLine == cpos.line) = true := by rfl) :
    E S (.Call (.Attribute o name apos) [] [] cpos) env μ P := by
  refine PE.imp (pe_bm0 pa slot hty mt_y h hbase hline) fun σ H Q ⟨F, as, a, k⟩ => ⟨F, as, a, fun d μ1 v F1 H1 as1 ⟨t1, r, hr, hh⟩ g1 W1 r1 => ⟨t1 F1 H1 as1 v W1 r1, r, hr, ?_⟩⟩
  exact hh F1 H1 as1 v [] Q W1 r1 .nil (k.go g1)
/-- a list cell is changed -/
theorem Wd.setL {Γ : Gam} {F H : Hp} {as : List Ad} {m : Nat} {ad : Ad} {vs : List V} {es : List D} (W : Wd Γ F H as μ) (ha : as[m]? = some ad) (hc : μ[m]? = some (.lst es)) (hv : DVs Γ F as vs ds) :
    Wd Γ F (upd H ad.a (.lst vs)) as (μ.set m (.lst ds)) ∧ Go F H as F (upd H ad.a (.lst vs)) as := by
  obtain ⟨k0, nF, _⟩ := W.ok m ad _ ha hc
  exact W.setO ha nF ⟨k0, nF, vs, upd_same, hv⟩
theorem cellL {Γ : Gam} {F H : Hp} {as : List Ad} {m : Nat} {v : V} (W : Wd Γ F H as μ) (r : DV Γ F as v (.cell m)) (hc : μ[m]? = some (.lst ds)) : ∃ ad vs, v = .ref ad.a ∧ as[m]? = some ad ∧ H ad.a = some (.lst vs) ∧ DVs Γ F as vs ds := by
  cases r with
  | cell ha =>
    obtain ⟨_, _, vs, h1, h2⟩ := W.ok m _ _ ha hc
    exact ⟨_, vs, rfl, ha, h1, h2⟩
theorem m_append {m : Nat} (hc : μ[m]? = some (.lst ds)) (hz : ds.length < sizeLine) (k : P .non (μ.set m (.lst (ds ++ [d])))) : Mt S "list.append" (.cell m) [d] μ P := ⟨_, mt_append, fun F H as x xs Q W r rs kk => by
  obtain ⟨ad, vs, rfl, ha, h1, dv⟩ := cellL W r hc
  obtain ⟨u, rfl, ru⟩ := dvs1 rs
  obtain ⟨W2, g2⟩ := W.setL ha hc (dv.append (.cons ru .nil))
  exact ⟨_, vs, u, rfl, rfl, h1, by rw [dv.length]; exact hz, kk _ _ _ _ _ _ k g2 W2 .non⟩⟩
theorem m_extend {m : Nat} {es : List D} (hc : μ[m]? = some (.lst ds)) (h2 : vw μ d = .lst es) (hz : ds.length + es.length ≤ sizeLine) (k : P .non (μ.set m (.lst (ds ++ es)))) : Mt S "list.extend" (.cell m) [d] μ P := ⟨_, mt_extend, fun F H as x xs Q W r rs kk => by
  obtain ⟨ad, vs, rfl, ha, h1, dv⟩ := cellL W r hc
  obtain ⟨u, rfl, ru⟩ := dvs1 rs
  obtain ⟨b, ws, rfl, h3, dw⟩ := W.lst ru h2
  obtain ⟨W2, g2⟩ := W.setL ha hc (dv.append dw)
  exact ⟨_, _, vs, ws, rfl, rfl, h1, h3, by rw [dv.length, dw.length]; exact hz, kk _ _ _ _ _ _ k g2 W2 .non⟩⟩
theorem m_insert {m : Nat} (hc : μ[m]? = some (.lst ds)) (hz : ds.length < sizeLine) (hi : 0 ≤ i ∧ i < 2 ^ 63) (k : P .non (μ.set m (.lst (ds.take i.toNat ++ [d] ++ ds.drop i.toNat)))) : Mt S "list.insert" (.cell m) [.int i, d] μ P := ⟨_, mt_insert, fun F H as x xs Q W r rs kk => by
  obtain ⟨ad, vs, rfl, ha, h1, dv⟩ := cellL W r hc
  obtain ⟨u, u2, rfl, ru, ru2⟩ := dvs2 rs
  cases ru
  obtain ⟨W2, g2⟩ := W.setL ha hc (((dv.take i.toNat).append (.cons ru2 .nil)).append (dv.drop i.toNat))
  exact ⟨_, vs, i, _, rfl, rfl, h1, by rw [dv.length]; exact hz, hi.1, hi.2, kk _ _ _ _ _ _ k g2 W2 .non⟩⟩
theorem m_pop {m : Nat} (hc : μ[m]? = some (.lst ds)) (hd : ds[ds.length - 1]? = some d) (k : P d (μ.set m (.lst ds.dropLast))) : Mt S "list.pop" (.cell m) [] μ P := ⟨_, mt_pop, fun F H as x xs Q W r rs kk => by
  obtain ⟨ad, vs, rfl, ha, h1, dv⟩ := cellL W r hc
  cases rs
  obtain ⟨u, hu, du⟩ := dv.get hd
  obtain ⟨W2, g2⟩ := W.setL ha hc dv.dropLast
  exact ⟨_, vs, u, rfl, rfl, h1, by rw [dv.length]; exact hu, kk _ _ _ _ _ _ k g2 W2 (du.mono g2)⟩⟩
theorem m_reverse {m : Nat} (hc : μ[m]? = some (.lst ds)) (k : P .non (μ.set m (.lst ds.reverse))) : Mt S "list.reverse" (.cell m) [] μ P := ⟨_, mt_reverse, fun F H as x xs Q W r rs kk => by
  obtain ⟨ad, vs, rfl, ha, h1, dv⟩ := cellL W r hc
  cases rs
  obtain ⟨W2, g2⟩ := W.setL ha hc dv.reverse
  exact ⟨_, vs, rfl, rfl, h1, kk _ _ _ _ _ _ k g2 W2 .non⟩⟩
theorem m_clear {m : Nat} (hc : μ[m]? = some (.lst ds)) (k : P .non (μ.set m (.lst []))) : Mt S "list.clear" (.cell m) [] μ P := ⟨_, mt_clear, fun F H as x xs Q W r rs kk => by
  obtain ⟨ad, vs, rfl, ha, h1, dv⟩ := cellL W r hc
  cases rs
  obtain ⟨W2, g2⟩ := W.setL (ds := []) (vs := []) ha hc .nil
  exact ⟨_, vs, rfl, rfl, h1, kk _ _ _ _ _ _ k g2 W2 .non⟩⟩
theorem e_append (h : E S o env μ fun d μ1 => ∃ m, d = .cell m ∧ (∃ ds, vw μ1 d = .lst ds) ∧ E S e env μ1 fun d2 μ2 => ∃ ds, μ2[m]? = some (.lst ds) ∧ ds.length < sizeLine ∧ P .non (μ2.set m (.lst (ds ++ [d2]))))
    (hbase : attributeBase o "append" S.X.env (eval o S.X.env) = eval o S.X.env := by rfl) (hline : (apos.endLine == cpos.line) = true := by rfl) (hs : starEach [e] S.X.env = (false, eval e S.X.env) :: starEach [] S.X.env := by rfl) :
    E S (.Call (.Attribute o "append" apos) [e] [] cpos) env μ P := by
  refine e_bm PySem.F.plainAttrs_list PySem.F.slot_list_append PySem.F.type_list_append (h.imp fun d μ1 ⟨m, e1, ⟨ds, h1⟩, h2⟩ => ⟨ty_lst h1, ?_⟩) hbase (by rw [hs]; rfl) hline hs (by rfl)
  subst e1
  exact a_cons (h2.imp fun d2 μ2 ⟨ds, q1, q2, q3⟩ => a_nil (m_append q1 q2 q3)) hs

/-! ### stores to places -/
/-- o[i] = v by values -/
def St3 (S : Sc) (o i v : D) (env : En) (μ : Mu) (P : Mu → Prop) : Prop :=
  ∀ (pins : List (Addr × Obj)) (s : Shared) (σ : L2.St) (H : Hp) (x y z : V) (ov iv u : Value) (Q : Hp → Prop) (F : Hp) (as : List Ad), Inv S.X pins σ H s → RelV x ov → RelV y iv → RelV z u →
    At S env μ σ H F as → DV S.Γ F as x o → DV S.Γ F as y i → DV S.Γ F as z v → (∀ μ' F' H' as', P μ' → Go F H as F' H' as' → Wd S.Γ F' H' as' μ' → Q H') →
    wpAny (model S.X.prog S.X.w) S.X.A (setItem ov iv u) (fun _ s' => ∃ H', Inv S.X pins σ H' s' ∧ Q H') S.X.xe s
theorem St3.of {t : TSet} {P : Mu → Prop} {o i v : D} (hs : PSet S.X t) (h : ∀ F H as x y z Q, Wd S.Γ F H as μ → DV S.Γ F as x o → DV S.Γ F as y i → DV S.Γ F as z v → (∀ μ' F' H' as', P μ' → Go F H as F' H' as' → Wd S.Γ F' H' as' μ' → Q H') → t x y z H Q) : St3 S o i v env μ P :=
  fun pins s σ H x y z ov iv u Q F as I r1 r2 r3 a h1 h2 h3 k => hs pins s σ H x y z ov iv u Q I r1 r2 r3 (h F H as x y z Q a.w h1 h2 h3 k)
theorem t_setL {m : Nat} {P : Mu → Prop} (hc : μ[m]? = some (.lst ds)) (hn : n < ds.length) (k : P (μ.set m (.lst (ds.set n d)))) : St3 S (.cell m) (.int (n : Nat)) d env μ P :=
  St3.of set_list fun F H as x y z Q W r1 r2 r3 kk => by
    obtain ⟨ad, vs, rfl, ha, h1, dv⟩ := cellL W r1 hc
    cases r2
    obtain ⟨W2, g2⟩ := W.setL ha hc (dv.set r3 n)
    refine ⟨ad.a, vs, n, n, rfl, rfl, h1, ?_, kk _ _ _ _ k g2 W2⟩
    unfold ixN
    rw [if_pos (Int.natCast_nonneg n), if_pos (by rw [dv.length]; omega)]
    rfl
theorem b_setIx (h : E S e env μ fun d μ1 => E S a env μ1 fun o μ2 => E S b env μ2 fun i μ3 => St3 S o i d env μ3 fun μ4 => B S rest env μ4 R)
    (hs : swapsWithSole [.Subscript a b p0] e pos.line S.X.env = pure false := by rfl) (hw : swappedStores [.Subscript a b p0] e S.X.env = pure none := by rfl)
    (h1 : (assignEach [.Subscript a b p0] S.X.env).map (·.2) = [assign (.Subscript a b p0) S.X.env] := by rfl)
    (ha : ∀ v, assign (.Subscript a b p0) S.X.env v = (do
      let ov ← holding [v] (eval a S.X.env)
      let iv ← holding [v, ov] (eval b S.X.env)
      standAt p0
      holding [v, ov, iv] (setItem ov iv v)
      release [v, ov, iv] []) := by intro _; rfl) : B S (.Assign [.Subscript a b p0] e pos :: rest) env μ R := by
  have pg : PG S.X (.Subscript a b p0) (fun v σ H Q => yE S.X a σ H fun x H1 => yE S.X b σ H1 fun y H2 => ∀ (pins : List (Addr × Obj)) (s : Shared) (ov iv u : Value), Inv S.X pins σ H2 s → RelV x ov → RelV y iv → RelV v u →
      wpAny (model S.X.prog S.X.w) S.X.A (setItem ov iv u) (fun _ s' => ∃ H', Inv S.X pins σ H' s' ∧ Q σ H') S.X.xe s) := by
    refine ⟨fun pins s σ H v u Q I r h => ?_⟩
    rw [ha]
    refine wpAny_bind (wpAny_holding (thn (pe_y.run pins s σ H _ I h) fun ov s1 ⟨x1, H1, I1, r1, q1⟩ => ?_))
    refine wpAny_bind (wpAny_holding (thn (pe_y.run pins s1 σ H1 _ I1 q1) fun iv s2 ⟨x2, H2, I2, r2, q2⟩ => ?_))
    refine wpAny_bind (wpAny_standAt (wpAny_bind (wpAny_holding (thn (q2 pins s2 ov iv u I2 r1 r2 r) fun _ s3 ⟨H3, I3, q3⟩ => ?_))))
    exact wpAny_release ⟨σ, H3, I3, q3⟩
  refine b_cons (PS.imp (ps_asg h pg hs hw h1) fun D σ H ⟨F, as, a, k⟩ => ?_)
  refine ⟨F, as, a, fun d μ1 v F1 H1 as1 p1 g1 W1 r1 => p1.go (a.go g1 W1) fun o μ2 vo F2 H2 as2 p2 g2 W2 r2 => p2.go ((a.go g1 W1).go g2 W2) fun i μ3 vi F3 H3 as3 p3 g3 W3 r3 => ?_⟩
  intro pins s ov iv u I q1 q2 q3
  have a3 := ((a.go g1 W1).go g2 W2).go g3 W3
  refine p3 pins s σ H3 vo vi v ov iv u _ F3 as3 I q1 q2 q3 a3 (r2.mono g3) r3 ((r1.mono g2).mono g3) fun μ4 F4 H4 as4 p4 g4 W4 => ?_
  exact k.nx env μ4 σ F4 H4 as4 p4 (((g1.trans g2).trans g3).trans g4) ((a3.go g4 W4).e) W4
def rGetL (K : PySem.W.Frag) : R2 := fun o i H Q => ∃ p xs k v, o = .ref p ∧ i = .int (k : Nat) ∧ SqL K H p xs ∧ xs[k]? = some v ∧ Q v H
theorem get_list {X : Cx} : PGet X (rGetL X.K) := by
  intro pins s σ H o i ov iv Q I ro ri h
  obtain ⟨p, xs, k, v, rfl, rfl, hq, hk, q⟩ := h
  cases ro
  obtain ⟨t, rfl⟩ := ri
  obtain ⟨its, r, hl, hz⟩ := I.list hq
  obtain ⟨u, hu, ru⟩ := r.get hk
  have hlt := (List.getElem?_eq_some_iff.mp hu).1
  have hn := line63
  have hrl := r.length
  refine wpAny_getItem_list hl.isList (by omega) (by omega) (x := u) (by simpa using hu) ⟨v, H, I, ru, q⟩
/-- x[n] += e, x a list, ints -/
theorem b_augIx (h : E S a env μ fun o μ1 => E S b env μ1 fun ix μ2 => ∃ (m n : Nat) (i : Int) (ds : List D), o = .cell m ∧ ix = .int (n : Nat) ∧ μ2[m]? = some (.lst ds) ∧ ds[n]? = some (.int i) ∧
      E S e env μ2 fun y μ3 => ∃ (k : Int) (es : List D), y = .int k ∧ μ3[m]? = some (.lst es) ∧ n < es.length ∧ B S rest env (μ3.set m (.lst (es.set n (.int (i + k))))) R)
    (ha : ∀ ov iv new, augStore b ov iv new = (do holding [new, ov, iv] (setItem ov iv new); release [new, ov, iv] []; pure .next) := by intros; rfl) : B S (.AugAssign (.Subscript a b tpos) .Add e pos :: rest) env μ R := by
  refine b_cons (PS.imp (ps_augS pe_y pe_y get_list pe_y ip_add set_list ha) fun D σ H ⟨F, as, a, k⟩ => ?_)
  refine h.go a fun o μ1 v F1 H1 as1 p1 g1 W1 r1 => p1.go (a.go g1 W1) fun ix μ2 v2 F2 H2 as2 ⟨m, n, i, ds, e1, e2, hc, hd, p2⟩ g2 W2 r2 => ?_
  subst e1 e2
  cases r2
  obtain ⟨ad, vs, rfl, hp, q, dv⟩ := cellL W2 (r1.mono g2) hc
  obtain ⟨u, hu, du⟩ := dv.get hd
  cases du
  have a2 := (a.go g1 W1).go g2 W2
  refine ⟨ad.a, vs, n, _, rfl, rfl, .inl (.inl q), hu, p2.go a2 fun y μ3 v3 F3 H3 as3 ⟨k3, es, e3, hc3, hn, p3⟩ g3 W3 r3 => ?_⟩
  subst e3
  cases r3
  obtain ⟨ad3, vs3, e4, hp3, q3, dv3⟩ := cellL W3 (DV.cell (g3.at hp)) hc3
  obtain ⟨W4, g4⟩ := W3.setL hp3 hc3 (dv3.set (.int (i + k3)) n)
  refine ⟨i, k3, rfl, rfl, ad3.a, vs3, n, n, e4, rfl, q3, ?_, k.nx env _ σ _ _ as3 p3 (((g1.trans g2).trans g3).trans g4) ((a2.go g3 W3).go g4 W4).e W4⟩
  unfold ixN
  rw [if_pos (Int.natCast_nonneg n), if_pos (by rw [dv3.length]; omega)]
  rfl
end
end Me

/-! Me9: instances: fields, methods, making; isinstance. -/
namespace Me
open PySem PySem.Spec PyProof.Rows L2
def putF' (f : Str) (d : D) : List (Str × D) → List (Str × D)
  | [] => [(f, d)]
  | (g, x) :: r => if g = f then (g, d) :: r else (g, x) :: putF' f d r
section
variable {Γ : Gam} {F H : Hp} {as : List Ad} {μ : Mu} {v : V} {d : D} {c : String} {f : Str} {fs : List (Str × D)} {vs : List (Str × V)}
theorem DFs.put (r : DV Γ F as v d) : ∀ {vs : List (Str × V)} {fs : List (Str × D)}, DFs Γ F as vs fs → DFs Γ F as (putF f v vs) (putF' f d fs)
  | _, _, .nil => .cons r .nil
  | (g, x) :: vs, (_, y) :: fs, .cons h t => by
    unfold putF putF'
    by_cases e : g = f
    · subst e
      rw [if_pos rfl]
      simp only [if_true]
      exact .cons r t
    · rw [if_neg e, if_neg e]
      exact .cons h (t.put r)
theorem DFs.look : ∀ {vs : List (Str × V)} {fs : List (Str × D)}, DFs Γ F as vs fs → fs.lookup f = some d → ∃ v, vs.lookup f = some v ∧ DV Γ F as v d
  | _, _, .nil, e => nomatch e
  | (g, x) :: vs, (_, y) :: fs, .cons h t, e => by
    rw [List.lookup_cons] at e ⊢
    cases hg : (f == g) with
    | true => rw [hg] at e; obtain rfl := Option.some.inj e; exact ⟨x, rfl, h⟩
    | false => rw [hg] at e; exact t.look e
theorem DFs.lookN : ∀ {vs : List (Str × V)} {fs : List (Str × D)}, DFs Γ F as vs fs → fs.lookup f = none → vs.lookup f = none
  | _, _, .nil, _ => rfl
  | (g, x) :: vs, (_, y) :: fs, .cons h t, e => by
    rw [List.lookup_cons] at e ⊢
    cases hg : (f == g) with
    | true => rw [hg] at e; exact nomatch e
    | false => rw [hg] at e; exact t.lookN e
theorem DFs.length : ∀ {vs : List (Str × V)} {fs : List (Str × D)}, DFs Γ F as vs fs → vs.length = fs.length
  | _, _, .nil => rfl
  | _, _, .cons _ t => congrArg (· + 1) t.length
/-- an instance, a cell's or a stable one -/
theorem Wd.ins (W : Wd Γ F H as μ) (r : DV Γ F as v d) (h : vw μ d = .ins c fs) : ∃ a C dx vs, v = .ref a ∧ Γ.cls c = some C ∧ H a = some (.ins C dx vs) ∧ DFs Γ F as vs fs := by
  cases r with
  | ins h1 hc h2 =>
    obtain ⟨rfl, rfl⟩ := D.ins.inj h
    exact ⟨_, _, _, _, rfl, hc, W.sub _ _ h1, h2⟩
  | @cell j ad h1 =>
    simp only [vw] at h
    match hm : μ[j]?, h with
    | none, h => cases h
    | some (.lst _), h => cases h
    | some (.dct _ _ _), h => cases h
    | some .dead, h => cases h
    | some (.ins c' fs'), h =>
      obtain ⟨rfl, rfl⟩ := D.ins.inj h
      obtain ⟨_, _, C, dx, vs, hc, h2, h3⟩ := W.ok j ad _ h1 hm
      exact ⟨_, C, dx, vs, rfl, hc, h2, h3⟩
  | lst _ _ => cases h
  | non => cases h
  | bl _ => cases h
  | int _ => cases h
  | str _ => cases h
  | tup _ _ => cases h
  | dctK _ _ => cases h
  | dctT _ _ => cases h
  | err0 _ _ => cases h
  | ty _ => cases h
  | cls _ => cases h
  | err1 _ _ _ _ => cases h
end
/-- the class c has no attribute f of its own -/
structure Fld (Γ : Gam) (c : String) (f : Str) : Prop where
  ex : ∃ C, Γ.cls c = some C ∧ Cls Γ.K C ∧ NoAttr Γ.K C f
section
variable {S : Sc} {env : En} {μ : Mu} {a b e o : Expr} {es : List Expr} {rest : List Stmt} {R : Out → Prop} {pos p0 p1 pos' apos : Pos} {x f m : Str} {c : String} {P : KD} {d : D} {k : Nat} {C : Ct}
theorem e_fld (c : String) (hf : Fld S.Γ c f) (h : E S e env μ fun d μ1 => ∃ fs d', vw μ1 d = .ins c fs ∧ fs.lookup f = some d' ∧ P d' μ1) (hb : attributeBase e f S.X.env (eval e S.X.env) = eval e S.X.env := by rfl) : E S (.Attribute e f pos) env μ P := by
  obtain ⟨C, hc, cl, hn⟩ := hf.ex
  rw [S.hK] at cl hn
  refine PE.imp (pe_fld h hb) fun σ H Q ⟨F, as, a, k⟩ => ⟨F, as, a, fun d μ1 v F1 H1 as1 ⟨fs, d', hv, hl, p1⟩ g1 W1 r1 => ?_⟩
  obtain ⟨p, C', dx, vs, rfl, hc', h1, h2⟩ := W1.ins r1 hv
  rw [hc] at hc'
  obtain rfl := Option.some.inj hc'
  obtain ⟨u, h3, h4⟩ := h2.look hl
  exact ⟨p, C, dx, vs, u, rfl, h1, cl, hn, h3, k d' μ1 u F1 H1 as1 p1 g1 W1 h4⟩
theorem b_fld (c : String) (hf : Fld S.Γ c f) (h : E S e env μ fun d μ1 => E S o env μ1 fun q μ2 => ∃ (j : Nat) (fs : List (Str × D)), q = .cell j ∧ μ2[j]? = some (.ins c fs) ∧ fs.length < 1000 ∧ B S rest env (μ2.set j (.ins c (putF' f d fs))) R)
    (hs : swapsWith e (some (.Attribute o f pos')) pos.line S.X.env = pure false := by rfl) : B S (.Assign [.Attribute o f pos'] e pos :: rest) env μ R := by
  obtain ⟨C, hc, cl, hn⟩ := hf.ex
  rw [S.hK] at cl hn
  refine b_cons (PS.imp (ps_fld pe_y h hs) fun D σ H ⟨F, as, a, k⟩ => ⟨F, as, a, fun d μ1 v F1 H1 as1 p1 g1 W1 r1 => p1.go (a.go g1 W1) fun q μ2 u F2 H2 as2 ⟨j, fs, e1, hj, hl, p2⟩ g2 W2 r2 => ?_⟩)
  subst e1
  cases r2 with
  | @cell _ ad ha =>
    obtain ⟨k0, nF, C', dx, vs, hc', h1, h2⟩ := W2.ok j ad _ ha hj
    have e2 := hc'
    rw [hc] at e2
    obtain rfl := Option.some.inj e2
    refine ⟨ad.a, C, dx, vs, rfl, h1, cl, hn, by rw [h2.length]; exact hl, ?_⟩
    obtain ⟨W3, g3⟩ := W2.setO (o := .ins C dx (putF f v vs)) (c := .ins c (putF' f d fs)) ha nF ⟨k0, nF, C, dx, _, hc, upd_same, h2.put (r1.mono g2)⟩
    exact k.nx _ _ _ F2 _ as2 p2 ((g1.trans g2).trans g3) ((((a.e.mono g1).mono g2)).mono g3) W3
/-- a method by its name -/
structure Mth (P : Program) (w : World) (K : PySem.W.Frag) (mg : Str → Option Value) (base : Heap) (Γ : Gam) (k : Nat) (c : String) (m : Str) (C : Ct) : Prop where
  ex : ∃ Ca f fd ps, Γ.cls c = some Ca ∧ Cls K Ca ∧ Meth K Ca m f ∧ Gd.FnG P w K mg base (L2.CX P w) k f fd ps (spM Γ C) ∧ Binds K fd ps []
theorem e_meth {pl : Sem Bool} (M : Mth S.X.prog S.X.w S.X.K S.X.mg S.X.base S.Γ k c m C)
    (h : E S o env μ fun d μ1 => (∃ fs, vw μ1 d = .ins c fs ∧ fs.lookup m = none) ∧ A S (e :: es) env μ1 fun ds μ2 => C (d :: ds) μ2 P (fun x m => S.Z x env m)) (hkj : k ≤ S.k := by first | decide | assumption | omega) (hc : S.X.calm = true := by rfl)
    (hst : starEach (e :: es) S.X.env = (false, eval e S.X.env) :: starEach es S.X.env := by rfl) (hpl : (backTo pos (starEach es S.X.env)).any (·.1) = false := by rfl)
    (ht : eval (.Call (.Attribute o m apos) (e :: es) [] pos) S.X.env = (do
      let ov ← eval o S.X.env
      standAt apos.atName
      let (f, first) ← holding [ov] (getMethod ov m pl)
      callWith pos f first (backTo pos (starEach (e :: es) S.X.env)) (backToKw pos (keywordEach [] S.X.env))) := by rfl) : E S (.Call (.Attribute o m apos) (e :: es) [] pos) env μ P := by
  obtain ⟨Ca, f, fd, ps, hcl, cl, hm, F1, hb⟩ := M.ex
  refine ⟨fun pins s σ H Q I ⟨F, as, a, k0⟩ => PySem.W.methodCall_KW (pl := pl) (thn (h.run pins s σ H (fun x H1 => ∃ p dx vs, x = .ref p ∧ H1 p = some (.ins Ca dx vs) ∧ vs.lookup m = none ∧ yA S.X (e :: es) σ H1 fun ws H2 => spM S.Γ C ((x :: ws) ++ []) H2 Q (fun cls d H' => Wk S.X cls d σ H')) I ⟨F, as, a, ?_⟩) ?_) ht⟩
  · intro d μ1 v F2 H2 as2 ⟨⟨fs, hv, hl⟩, p1⟩ g1 W1 r1
    obtain ⟨p, C', dx, vs, rfl, hc', h1, h2⟩ := W1.ins r1 hv
    rw [hcl] at hc'
    obtain rfl := Option.some.inj hc'
    refine ⟨p, dx, vs, rfl, h1, h2.lookN hl, p1.go (a.go g1 W1) fun ds μ2 ws F3 H3 as3 p2 g2 W2 r2 => ?_⟩
    exact spM_of (ds := d :: ds) p2 ((a.go g1 W1).go g2 W2) (.cons (r1.mono g2) r2) ((k0.go g1).go g2)
  · intro u s1 ⟨xx, H1, I1, rx, p, dx, vs, ex, ea, l, q⟩
    subst ex
    obtain rfl : u = Value.ref p := rx
    refine getmeth_ok I1 ea cl hm l (PySem.W.callWith_K (first := [.ref p]) (h₀ := S.X.base) I.ok.mod.kin hm.kp (thn (pa_y.run pos pins s1 σ H1 _ I1 q) fun us s2 ⟨ws, H2, I2, r, q2⟩ => ⟨I2.kIn, ?_⟩) hst hpl)
    exact run_fnM (us := .ref p :: us) (vs := .ref p :: ws) F1 S.hg ⟨I2.ok.hd hc, (S.rm.mono hkj).dp, (S.rm.mono hkj).un⟩ hb .nil I2 (.cons rfl r) q2
theorem e_meth0 {pl : Sem Bool} (M : Mth S.X.prog S.X.w S.X.K S.X.mg S.X.base S.Γ k c m C)
    (h : E S o env μ fun d μ1 => (∃ fs, vw μ1 d = .ins c fs ∧ fs.lookup m = none) ∧ C [d] μ1 P (fun x m => S.Z x env m)) (hkj : k ≤ S.k := by first | decide | assumption | omega) (hc : S.X.calm = true := by rfl)
    (ht : eval (.Call (.Attribute o m apos) [] [] pos) S.X.env = (do
      let ov ← eval o S.X.env
      standAt apos.atName
      let (f, first) ← holding [ov] (getMethod ov m pl)
      callWith pos f first (backTo pos (starEach [] S.X.env)) (backToKw pos (keywordEach [] S.X.env))) := by rfl) : E S (.Call (.Attribute o m apos) [] [] pos) env μ P := by
  obtain ⟨Ca, f, fd, ps, hcl, cl, hm, F1, hb⟩ := M.ex
  refine ⟨fun pins s σ H Q I ⟨F, as, a, k0⟩ => PySem.W.methodCall_KW (pl := pl) (thn (h.run pins s σ H (fun x H1 => ∃ p dx vs, x = .ref p ∧ H1 p = some (.ins Ca dx vs) ∧ vs.lookup m = none ∧ spM S.Γ C ([x] ++ []) H1 Q (fun cls d H' => Wk S.X cls d σ H')) I ⟨F, as, a, ?_⟩) ?_) ht⟩
  · intro d μ1 v F2 H2 as2 ⟨⟨fs, hv, hl⟩, p1⟩ g1 W1 r1
    obtain ⟨p, C', dx, vs, rfl, hc', h1, h2⟩ := W1.ins r1 hv
    rw [hcl] at hc'
    obtain rfl := Option.some.inj hc'
    exact ⟨p, dx, vs, rfl, h1, h2.lookN hl, spM_of (ds := [d]) p1 (a.go g1 W1) (.cons r1 .nil) (k0.go g1)⟩
  · intro u s1 ⟨xx, H1, I1, rx, p, dx, vs, ex, ea, l, q⟩
    subst ex
    obtain rfl : u = Value.ref p := rx
    exact getmeth_ok I1 ea cl hm l (PySem.W.callWith_K0 (first := [.ref p]) I1.kIn hm.kp (run_fnM (us := [.ref p]) (vs := [.ref p]) F1 S.hg ⟨I1.ok.hd hc, (S.rm.mono hkj).dp, (S.rm.mono hkj).un⟩ hb .nil I1 (.cons rfl .nil) q))
/-! ### making -/
/-- a new instance beside its dict -/
theorem Wd.born {Γ : Gam} {F H : Hp} {as : List Ad} {Ca : Addr} (W : Wd Γ F H as μ) (hc : Γ.cls c = some Ca) {x dx : Addr} (nx : H x = none) (nd : H dx = none) (ne : dx ≠ x) :
    Wd Γ F (upd (upd H dx (.own x)) x (.ins Ca dx [])) (as ++ [⟨x, none⟩]) (μ ++ [.ins c []]) ∧ Go F H as F (upd (upd H dx (.own x)) x (.ins Ca dx [])) (as ++ [⟨x, none⟩]) := by
  obtain ⟨f1, f2⟩ := W.nofree nd
  have W1 := W.off (o := .own x) f1 f2
  have nx1 : upd H dx (.own x) x = none := by rw [upd_ne (fun z => ne z.symm)]; exact nx
  have z := W1.addO (c := .ins c []) (o := .ins Ca dx []) nx1 fun nF => ⟨rfl, nF, Ca, dx, [], hc, upd_same, .nil⟩
  exact ⟨z.1, ((Go.refl F H as).off nd).trans z.2⟩
/-- a class by its name, and what its __init__ promises -/
structure Mak (P : Program) (w : World) (K : PySem.W.Frag) (mg : Str → Option Value) (base : Heap) (Γ : Gam) (k : Nat) (c : String) (x : Str) (C : Ct) : Prop where
  ex : ∃ Ca f fd ps, Γ.cls c = some Ca ∧ Mk K Ca f ∧ mg x = some (.ref Ca) ∧ Gd.FnG P w K mg base (L2.CX P w) k f fd ps (spM Γ C) ∧ Binds K fd ps []
theorem run_makeM {X : Cx} {f Ca : Addr} {fd : FuncData} {ps : List Str} {sp : Sp} {pins : List (Addr × Obj)} {σ : L2.St} {H : Hp} {s : Shared} {Q : VK} {us : List Value} {vs : List V} (M : Mk X.K Ca f)
    (G : Gd.FnG X.prog X.w X.K X.mg X.base (L2.CX X.prog X.w) k f fd ps sp) (gX : X.A.guards = some []) (hr : Room (k + 1) X.A) (hb : Binds X.K fd ps []) (I : Inv X pins σ H s) (r : Vals vs us)
    (h : ∀ x dx, H x = none → H dx = none → dx ≠ x → sp (.ref x :: vs) (upd (upd H dx (.own x)) x (.ins Ca dx [])) (fun v H2 => v = .non ∧ Q (.ref x) H2) (fun cls d H' => Wk X cls d σ H')) :
    wpAny (model X.prog X.w) X.A (call (.ref Ca) us) (EP X pins σ Q) X.xe s := by
  have hq := h (s.heap.objs.size + 1) s.heap.objs.size (I.hok.fresh (Nat.le_succ _)) (I.hok.fresh (Nat.le_refl _)) (Nat.ne_of_lt (Nat.lt_succ_self _))
  have J := Inv.made (C := Ca) I
  have rr : Vals (V.ref (s.heap.objs.size + 1) :: vs) (Value.ref (s.heap.objs.size + 1) :: us) := .cons rfl r
  have hl : ((Value.ref (s.heap.objs.size + 1) :: us) ++ []).length = ps.length := by
    rw [List.append_nil]
    exact rr.length.symm.trans (G.lenG _ _ _ _ hq)
  have bd := hb _ (Value.ref (s.heap.objs.size + 1) :: us) J.kIn hl
  rw [List.append_nil] at bd
  refine wpAny_call (make_map (f := f) I.kIn M.makes M.init (beq_iff_eq.mp M.fn) (codeAny_mono (G.runG _ X.stack _ _ ⟨Value.ref (s.heap.objs.size + 1) :: us, []⟩ _ _ _ _ gX (hr.make Ca us []) (J.env0.make Ca us []) bd rr hq) fun res s' hq' => ?_))
  match res, hq' with
  | .error e, hq' => exact takes_wk _ _ (XE.of_call (W := Wk X) J (fun _ _ _ z => z) hq')
  | .ok (.ret u), hq' =>
    obtain ⟨v, H', J3, rv, ev, q3⟩ := J.after hq'
    subst ev
    exact ⟨rv, ⟨V.ref (s.heap.objs.size + 1), H', J3, rfl, q3⟩⟩
  | .ok .next, hq' => exact False.elim hq'
  | .ok .brk, hq' => exact False.elim hq'
  | .ok .cont, hq' => exact False.elim hq'
theorem e_make (M : Mak S.X.prog S.X.w S.X.K S.X.mg S.X.base S.Γ k c x C)
    (h : A S (e :: es) env μ fun ds μ1 => C (.cell μ1.length :: ds) (μ1 ++ [.ins c []]) (fun d m => d = .non ∧ P (.cell μ1.length) m) (fun x m => S.Z x env m)) (hkj : k + 1 ≤ S.k := by first | decide | assumption | omega) (hc : S.X.calm = true := by rfl)
    (hg : Gl S.X x := by rfl) (hdb : (x == ("__debug__" : Str)) = false := by decide)
    (he : starEach (e :: es) S.X.env = (false, eval e S.X.env) :: starEach es S.X.env := by rfl) (hpl : (backTo pos (starEach es S.X.env)).any (·.1) = false := by rfl) : E S (.Call (.Name x p0) (e :: es) [] pos) env μ P := by
  obtain ⟨Ca, f, fd, ps, hcl, M1, hm, F1, hb⟩ := M.ex
  refine ⟨fun pins s σ H Q I ⟨F0, as, a, k0⟩ => wpAny_Call_Name_kw (ld_glob I hg hm ?_ hdb)⟩
  refine PySem.W.callWith_K (h₀ := S.X.base) I.ok.mod.kin M1.kp (thn (h.run pos pins s σ H (fun vs H1 => ∀ x dx, H1 x = none → H1 dx = none → dx ≠ x → spM S.Γ C (.ref x :: vs) (upd (upd H1 dx (.own x)) x (.ins Ca dx [])) (fun v H2 => v = .non ∧ Q (.ref x) H2) (fun cls d H' => Wk S.X cls d σ H')) I ⟨F0, as, a, ?_⟩) ?_) he hpl
  · intro ds μ1 vs F1 H1 as1 p1 g1 W1 r1 y dx ny nd ne
    obtain ⟨W2, g2⟩ := W1.born hcl ny nd ne
    have hat : DV S.Γ F1 (as1 ++ [⟨y, none⟩]) (.ref y) (.cell μ1.length) := .cell (ad := ⟨y, none⟩) (W1.last _)
    refine ⟨F1, _, _, _, _, _, p1, .cons hat (r1.mono g2), W2, ?_, ?_⟩
    · intro d m v F3 H3 as3 ⟨e1, p3⟩ g3 W3 r3
      subst e1
      cases r3
      exact ⟨rfl, k0 _ m _ F3 H3 as3 p3 ((g1.trans g2).trans g3) W3 (hat.mono g3)⟩
    · exact fun x μ' cls dx F' H' as' z g W' xo => a.k x env μ' σ cls dx F' H' as' z ((g1.trans g2).trans g) (a.e.mono ((g1.trans g2).trans g)) W' xo
  · intro us s1 ⟨vs, H1, I1, r1, q1⟩
    exact ⟨I1.kIn, run_makeM M1 F1 S.hg ⟨I1.ok.hd hc, (S.rm.mono hkj).dp, (S.rm.mono hkj).un⟩ hb I1 r1 q1⟩
end
end Me

/-! Me10: special methods of own classes; isinstance; chains. -/
namespace Me
open PySem PySem.Spec PyProof.Rows L2
section
variable {S : Sc} {env : En} {μ : Mu} {a b e o : Expr} {es : List Expr} {rest : List Stmt} {R : Out → Prop} {pos p0 p1 pos' apos : Pos} {x f m : Str} {c : String} {P : KD} {d d1 d2 d3 : D} {k : Nat} {C : Ct}
/-- as run_fnM, somewhere beneath -/
theorem run_fnA {X : Cx} {A' : Around} {f : Addr} {fd : FuncData} {ps : List Str} {sp : Sp} {pins : List (Addr × Obj)} {σ : L2.St} {H : Hp} {s : Shared} {Q : VK} {us : List Value} {vs : List V}
    (F : Gd.FnG X.prog X.w X.K X.mg X.base (L2.CX X.prog X.w) k f fd ps sp) (gX : A'.guards = some []) (hr : Room k A') (e0 : Env0 X.prog X.w X.K X.mg X.base A' X.stack s H) (hb : Binds X.K fd ps [])
    (I : Inv X pins σ H s) (r : Vals vs us) (h : sp vs H Q (fun cls d H' => Wk X cls d σ H')) :
    wpAny (model X.prog X.w) A' (call (.ref f) us) (EP X pins σ Q) X.xe s := by
  have len : (us ++ []).length = ps.length := by rw [List.append_nil, ← r.length]; exact F.lenG _ _ _ _ h
  have bd := hb s us I.kIn len
  rw [List.append_nil] at bd
  refine wpAny_call (codeAny_mono (F.runG A' X.stack s H ⟨us, []⟩ us vs Q _ gX hr e0 bd r h) fun res s' hq => ?_)
  match res, hq with
  | .error e, hq => exact takes_wk _ _ (XE.of_call (W := Wk X) I (fun _ _ _ z => z) hq)
  | .ok (.ret u), hq => exact I.after hq
  | .ok .next, hq => exact False.elim hq
  | .ok .brk, hq => exact False.elim hq
  | .ok .cont, hq => exact False.elim hq
/-- a special method -/
structure Dn (P : Program) (w : World) (K : PySem.W.Frag) (mg : Str → Option Value) (base : Heap) (Γ : Gam) (k : Nat) (c : String) (m : Str) (C : Ct) : Prop where
  ex : ∃ Ca f fd ps, Γ.cls c = some Ca ∧ PySem.W.findIn K (.ref Ca) m = some (some (.ref f)) ∧ PySem.W.isFn K (.ref f) = true ∧ PySem.W.fnIn K f = true ∧ PySem.W.noSeq K Ca = true ∧ PySem.W.selfFirst K Ca = true ∧ Gd.FnG P w K mg base (L2.CX P w) k f fd ps (spM Γ C) ∧ Binds K fd ps []
theorem instAt {X : Cx} {pins : List (Addr × Obj)} {σ : L2.St} {H : Hp} {s : Shared} {p Ca dx : Addr} {vs : List (Str × V)} (I : Inv X pins σ H s) (h : H p = some (.ins Ca dx vs)) : ∃ od, PySem.W.InstAt s.heap p (PySem.W.instObj Ca dx) Ca (some od) := by
  obtain ⟨mA, J, _⟩ := ins_get I.hok h
  obtain ⟨od, J, _⟩ := J.look
  exact ⟨od, J⟩
/-- calls at the place itself -/
theorem Sc.room (S : Sc) {pins : List (Addr × Obj)} {σ : L2.St} {H : Hp} {s : Shared} (I : Inv S.X pins σ H s) (hc : S.X.calm = true) (h : k ≤ S.k) : Room k S.X.A := ⟨I.ok.hd hc, (S.rm.mono h).dp, (S.rm.mono h).un⟩
theorem o_inI (M : Dn S.X.prog S.X.w S.X.K S.X.mg S.X.base S.Γ k c "__contains__" C) {fs : List (Str × D)} (hv : vw μ d2 = .ins c fs) (h : C [d2, d1] μ (fun r m => ∃ q, r = .bl q ∧ P (.bl q) m) (fun x m => S.Z x env m)) (hkj : k ≤ S.k := by first | decide | assumption | omega) (hc : S.X.calm = true := by rfl) :
    Op2 S (compareOp .In) d1 d2 env μ P := by
  obtain ⟨Ca, f, fd, ps, hcl, hs, hf, _, _, _, F1, hb⟩ := M.ex
  intro pins s σ H x y v u Q F as I rx ry a r1 r2 kk
  obtain ⟨p, C', dx, vs, rfl, hc', h1, _⟩ := a.w.ins r2 hv
  rw [hcl] at hc'
  obtain rfl := Option.some.inj hc'
  cases ry
  obtain ⟨od, J⟩ := instAt I h1
  obtain ⟨m0, hF⟩ := I.fr
  refine PySem.W.in_K hF I.ok.mod.kin J hs hf (thn (run_fnA (us := [.ref p, v]) (vs := [.ref p, x]) (Q := fun r H' => ∃ q, r = .bl q ∧ Q (.bl q) H') F1 S.hg (S.room I hc hkj) I.env0 hb I (.cons rfl (.cons rx .nil)) ?_) ?_)
  · have := spM_of (ds := [d2, d1]) (C := C) h a (.cons r2 (.cons r1 .nil)) (Q := fun r H' => ∃ q, r = .bl q ∧ Q (.bl q) H') fun d m v F' H' as' ⟨q, e1, p1⟩ g W' r => by
      subst e1
      cases r
      exact ⟨q, rfl, kk _ m _ F' H' as' p1 g W' (.bl q)⟩
    rwa [List.append_nil] at this
  · rintro w s2 ⟨z, H2, I2, rz, q, e1, hq⟩
    subst e1
    cases rz
    exact wpAny_truthy_bool ⟨.bl q, H2, I2, rfl, hq⟩
theorem o_notInI (M : Dn S.X.prog S.X.w S.X.K S.X.mg S.X.base S.Γ k c "__contains__" C) {fs : List (Str × D)} (hv : vw μ d2 = .ins c fs) (h : C [d2, d1] μ (fun r m => ∃ q, r = .bl q ∧ P (.bl (!q)) m) (fun x m => S.Z x env m)) (hkj : k ≤ S.k := by first | decide | assumption | omega) (hc : S.X.calm = true := by rfl) :
    Op2 S (compareOp .NotIn) d1 d2 env μ P := by
  obtain ⟨Ca, f, fd, ps, hcl, hs, hf, _, _, _, F1, hb⟩ := M.ex
  intro pins s σ H x y v u Q F as I rx ry a r1 r2 kk
  obtain ⟨p, C', dx, vs, rfl, hc', h1, _⟩ := a.w.ins r2 hv
  rw [hcl] at hc'
  obtain rfl := Option.some.inj hc'
  cases ry
  obtain ⟨od, J⟩ := instAt I h1
  obtain ⟨m0, hF⟩ := I.fr
  refine PySem.W.notIn_K hF I.ok.mod.kin J hs hf (thn (run_fnA (us := [.ref p, v]) (vs := [.ref p, x]) (Q := fun r H' => ∃ q, r = .bl q ∧ Q (.bl (!q)) H') F1 S.hg (S.room I hc hkj) I.env0 hb I (.cons rfl (.cons rx .nil)) ?_) ?_)
  · have := spM_of (ds := [d2, d1]) (C := C) h a (.cons r2 (.cons r1 .nil)) (Q := fun r H' => ∃ q, r = .bl q ∧ Q (.bl (!q)) H') fun d m v F' H' as' ⟨q, e1, p1⟩ g W' r => by
      subst e1
      cases r
      exact ⟨q, rfl, kk _ m _ F' H' as' p1 g W' (.bl _)⟩
    rwa [List.append_nil] at this
  · rintro w s2 ⟨z, H2, I2, rz, q, e1, hq⟩
    subst e1
    cases rz
    exact wpAny_truthy_bool ⟨.bl (!q), H2, I2, rfl, hq⟩
/-- a subscript whose receiver may have its own method -/
def Ix2' (S : Sc) (d1 d2 : D) (env : En) (μ : Mu) (P : KD) : Prop :=
  ∀ (value slice : Expr) (pins : List (Addr × Obj)) (s : Shared) (σ : L2.St) (H : Hp) (x y : V) (v u : Value) (Q : VK) (F : Hp) (as : List Ad), Inv S.X pins σ H s → RelV x v → RelV y u →
    At S env μ σ H F as → DV S.Γ F as x d1 → DV S.Γ F as y d2 → Kv S F H as P Q → subscripted slice true v u = runValue (.builtin "lifetime.subscript" ⟨[v, u], []⟩) → wpAny (model S.X.prog S.X.w) S.X.A (subscriptTail value slice v u) (EP S.X pins σ Q) S.X.xe s
theorem e_ix' (h : E S a env μ fun d1 μ1 => E S b env μ1 fun d2 μ2 => Ix2' S d1 d2 env μ2 P) (hp : ∀ v u, subscripted b true v u = runValue (.builtin "lifetime.subscript" ⟨[v, u], []⟩) := by intro _ _; with_unfolding_all rfl) : E S (.Subscript a b pos) env μ P := by
  refine ⟨fun pins s σ H Q I ⟨F, as, a1, k⟩ => ?_⟩
  refine Subscript_ (binT (R := fun x y H2 => ∃ F2 as2 d1 d2 μ2, At S env μ2 σ H2 F2 as2 ∧ DV S.Γ F2 as2 x d1 ∧ DV S.Γ F2 as2 y d2 ∧ Kv S F2 H2 as2 P Q ∧ Ix2' S d1 d2 env μ2 P) pe_y pe_y I ?_ fun v u s2 x y H2 I2 rx ry q2 => ?_)
  · exact h.go a1 fun d1 μ1 v1 F1 H1 as1 p1 g1 W1 r1 => p1.go (a1.go g1 W1) fun d2 μ2 v2 F2 H2 as2 p2 g2 W2 r2 => ⟨F2, as2, d1, d2, μ2, (a1.go g1 W1).go g2 W2, r1.mono g2, r2, (k.go g1).go g2, p2⟩
  · obtain ⟨F2, as2, d1, d2, μ2, a2, r1, r2, k2, p2⟩ := q2
    exact p2 _ _ pins s2 σ H2 x y v u Q F2 as2 I2 rx ry a2 r1 r2 k2 (hp _ _)
theorem x_ins (M : Dn S.X.prog S.X.w S.X.K S.X.mg S.X.base S.Γ k c "__getitem__" C) {fs : List (Str × D)} (hv : vw μ d1 = .ins c fs) (h : C [d1, d2] μ P (fun x m => S.Z x env m)) (hkj : k + 1 ≤ S.k := by first | decide | assumption | omega) (hc : S.X.calm = true := by rfl) :
    Ix2' S d1 d2 env μ P := by
  obtain ⟨Ca, f, fd, ps, hcl, hs, hf, hfn, _, _, F1, hb⟩ := M.ex
  intro value slice pins s σ H x y v u Q F as I rx ry a r1 r2 kk hsl
  obtain ⟨p, C', dx, vs, rfl, hc', h1, _⟩ := a.w.ins r1 hv
  rw [hcl] at hc'
  obtain rfl := Option.some.inj hc'
  cases rx
  obtain ⟨od, J⟩ := instAt I h1
  obtain ⟨m0, hF⟩ := I.fr
  refine PySem.W.sub_K hF I.ok.mod.kin J hs hfn hf (run_fnA (us := [.ref p, u]) (vs := [.ref p, y]) F1 S.hg (S.room I hc hkj).in1 I.env0.in1 hb I (.cons rfl (.cons ry .nil)) ?_) hsl
  have := spM_of (ds := [d1, d2]) (C := C) h a (.cons r1 (.cons r2 .nil)) kk
  rwa [List.append_nil] at this
theorem c_lenI (M : Dn S.X.prog S.X.w S.X.K S.X.mg S.X.base S.Γ k c "__len__" C) {fs : List (Str × D)} (hv : vw μ d = .ins c fs) (h : C [d] μ (fun r m => ∃ n : Int, r = .int n ∧ 0 ≤ n ∧ n < 2 ^ 63 ∧ P (.int n) m) (fun x m => S.Z x env m)) (hkj : k + 1 ≤ S.k := by first | decide | assumption | omega) (hc : S.X.calm = true := by rfl) :
    Cl S (.builtin "len") [d] env μ P := by
  obtain ⟨Ca, f, fd, ps, hcl, hs, hf, _, _, _, F1, hb⟩ := M.ex
  intro pins s σ H xs us Q F as I rx a r0 kk
  obtain ⟨x, rfl, r1⟩ := dvs1 r0
  obtain ⟨p, C', dx, vs, rfl, hc', h1, _⟩ := a.w.ins r1 hv
  rw [hcl] at hc'
  obtain rfl := Option.some.inj hc'
  cases rx with
  | cons rx rt =>
    cases rt
    cases rx
    obtain ⟨od, J⟩ := instAt I h1
    obtain ⟨m0, hF⟩ := I.fr
    refine PySem.W.len_K hF I.ok.mod.kin J hs hf (thn (run_fnA (us := [.ref p]) (vs := [.ref p]) (Q := fun r H' => ∃ n : Int, r = .int n ∧ 0 ≤ n ∧ n < 2 ^ 63 ∧ Q (.int n) H') F1 S.hg (S.room I hc hkj).in1 I.env0.in1 hb I (.cons rfl .nil) ?_) ?_)
    · have := spM_of (ds := [d]) (C := C) h a (.cons r1 .nil) (Q := fun r H' => ∃ n : Int, r = .int n ∧ 0 ≤ n ∧ n < 2 ^ 63 ∧ Q (.int n) H') fun d m v F' H' as' ⟨q, e1, q1, q2, p1⟩ g W' r => by
        subst e1
        cases r
        exact ⟨q, rfl, q1, q2, kk _ m _ F' H' as' p1 g W' (.int q)⟩
      rwa [List.append_nil] at this
    · rintro w s2 ⟨z, H2, I2, rz, q, e1, q1, q2, hq⟩
      subst e1
      obtain ⟨t, rfl⟩ := rz
      exact ⟨⟨q1, q2⟩, .int q, H2, I2.tok _, ⟨_, rfl⟩, hq⟩
theorem t_setI (M : Dn S.X.prog S.X.w S.X.K S.X.mg S.X.base S.Γ k c "__setitem__" C) {fs : List (Str × D)} {P : Mu → Prop} (hv : vw μ d1 = .ins c fs) (h : C [d1, d2, d3] μ (fun _ m => P m) (fun x m => S.Z x env m)) (hkj : k ≤ S.k := by first | decide | assumption | omega) (hc : S.X.calm = true := by rfl) :
    St3 S d1 d2 d3 env μ P := by
  obtain ⟨Ca, f, fd, ps, hcl, hs, hf, _, hq, _, F1, hb⟩ := M.ex
  intro pins s σ H x y z ov iv u Q F as I rx ry rz a r1 r2 r3 kk
  obtain ⟨p, C', dx, vs, rfl, hc', h1, _⟩ := a.w.ins r1 hv
  rw [hcl] at hc'
  obtain rfl := Option.some.inj hc'
  cases rx
  obtain ⟨od, J⟩ := instAt I h1
  obtain ⟨m0, hF⟩ := I.fr
  refine PySem.W.ksp_setItem hF I.ok.mod.kin J hq hs hf (thn (run_fnA (us := [.ref p, iv, u]) (vs := [.ref p, y, z]) (Q := fun _ H' => Q H') F1 S.hg (S.room I hc hkj) I.env0 hb I (.cons rfl (.cons ry (.cons rz .nil))) ?_) ?_)
  · have := spM_of (ds := [d1, d2, d3]) (C := C) h a (.cons r1 (.cons r2 (.cons r3 .nil))) (Q := fun _ H' => Q H') fun d m v F' H' as' p1 g W' r => kk m F' H' as' p1 g W'
    rwa [List.append_nil] at this
  · rintro w s2 ⟨z, H2, I2, rz, hq⟩
    exact ⟨H2, I2, hq⟩
theorem o_binI {op : Operator} (M : Dn S.X.prog S.X.w S.X.K S.X.mg S.X.base S.Γ k c (PySem.dunder op.info.2) C) {fs gs : List (Str × D)} (hv : vw μ d1 = .ins c fs) (hv2 : vw μ d2 = .ins c gs) (h : C [d1, d2] μ P (fun x m => S.Z x env m)) (hkj : k ≤ S.k := by first | decide | assumption | omega) (hc : S.X.calm = true := by rfl) :
    Op2 S (binaryOp op) d1 d2 env μ P := by
  obtain ⟨Ca, f, fd, ps, hcl, hs, hf, _, _, hsf, F1, hb⟩ := M.ex
  intro pins s σ H x y v u Q F as I rx ry a r1 r2 kk
  obtain ⟨p, C', dx, vs, rfl, hc', h1, _⟩ := a.w.ins r1 hv
  rw [hcl] at hc'
  obtain rfl := Option.some.inj hc'
  obtain ⟨p2, C2, dx2, vs2, rfl, hc2, h2, _⟩ := a.w.ins r2 hv2
  rw [hcl] at hc2
  obtain rfl := Option.some.inj hc2
  cases rx
  cases ry
  obtain ⟨od, J⟩ := instAt I h1
  obtain ⟨od2, J2⟩ := instAt I h2
  obtain ⟨m0, hF⟩ := I.fr
  refine PySem.W.binop_K hF I.ok.mod.kin J J2.type hsf hs hf (thn (run_fnA (us := [.ref p, .ref p2]) (vs := [.ref p, .ref p2]) (Q := Q) F1 S.hg (S.room I hc hkj) I.env0 hb I (.cons rfl (.cons rfl .nil)) ?_) ?_)
  · have := spM_of (ds := [d1, d2]) (C := C) h a (.cons r1 (.cons r2 .nil)) kk
    rwa [List.append_nil] at this
  · rintro w s2 ⟨z, H2, I2, rz, hq⟩
    have : w ≠ .notImplemented := fun e => by subst e; cases z <;> first | (cases rz; done) | (obtain ⟨_, e⟩ := rz; cases e)
    cases w <;> first | exact absurd rfl this | exact ⟨z, H2, I2, rz, hq⟩
end
end Me

/-! Me11: isinstance, chains of comparisons. -/
namespace Me
open PySem PySem.Spec PyProof.Rows L2
section
variable {S : Sc} {env : En} {μ : Mu} {a b c e : Expr} {pos p0 : Pos} {x : Str} {P : KD} {PB : Bool → Mu → Prop} {d : D} {i j k : Int}
/-- a class as a value -/
theorem e_ty {Tn : String} (hm : S.X.mg x = none) (hv : bootBuiltins x = some (.type Tn)) (k : P (.ty Tn) μ) (hg : Gl S.X x := by rfl) (hn : x ≠ "__name__" := by decide) (hd : (x == ("__debug__" : Str)) = false := by decide) : E S (.Name x pos) env μ P :=
  e_c (pe_bltn (v := .ty Tn) hg hm hv rfl hn hd) (fun _ _ => .ty Tn) k
theorem e_cls {cn : String} {C : Addr} (hC : S.Γ.cls cn = some C) (hm : S.X.mg x = some (.ref C)) (k : P (.cls cn) μ) (hg : Gl S.X x := by rfl) (hd : (x == ("__debug__" : Str)) = false := by decide) : E S (.Name x pos) env μ P :=
  e_c (pe_glob (v := .ref C) hg hm rfl hd) (fun _ _ => .cls hC) k
/-- a value's type -/
def TyI (S : Sc) (μ : Mu) (d : D) (t : Value) : Prop := ∀ F H as v, Wd S.Γ F H as μ → DV S.Γ F as v d → TyX S.X.K H v t
def tyN : D → Option String
  | .non => some "NoneType" | .bl _ => some "bool" | .int _ => some "int" | .str _ => some "str" | .lst _ => some "list" | .tup _ => some "tuple" | _ => none
theorem ty_dat {Tn : String} (h : tyN (vw μ d) = some Tn) : TyI S μ d (.type Tn) := fun F H as v W r => by
  by_cases hl : ∃ ds, vw μ d = .lst ds
  · obtain ⟨ds, e⟩ := hl
    obtain ⟨a, vs, rfl, h1, _⟩ := W.lst r e
    rw [e] at h
    obtain rfl := Option.some.inj h
    exact .base (.lst h1)
  · cases r with
    | non => obtain rfl := Option.some.inj h; exact .base .non
    | bl b => obtain rfl := Option.some.inj h; exact .base (.bl b)
    | int i => obtain rfl := Option.some.inj h; exact .base (.int i)
    | str x => obtain rfl := Option.some.inj h; exact .base (.str x)
    | tup h1 h2 => obtain rfl := Option.some.inj h; exact .base (.tup (W.sub _ _ h1))
    | lst h1 h2 => exact absurd ⟨_, rfl⟩ hl
    | dctK _ _ => exact nomatch h
    | dctT _ _ => exact nomatch h
    | ins _ _ _ => exact nomatch h
    | err0 _ _ => exact nomatch h
    | err1 _ _ _ _ => exact nomatch h
    | ty _ => exact nomatch h
    | cls _ => exact nomatch h
    | @cell m ad ha =>
      simp only [vw] at h hl
      match hm : μ[m]?, h, hl with
      | none, h, _ => exact nomatch h
      | some (.lst es), _, hl => exact absurd ⟨_, rfl⟩ hl
      | some (.dct _ _ _), h, _ => exact nomatch h
      | some (.ins _ _), h, _ => exact nomatch h
      | some .dead, h, _ => exact nomatch h
theorem ty_dct {m : Nat} {t : Bool} {kvs : List (DK × D)} (h : μ[m]? = some (.dct t none kvs)) : TyI S μ (.cell m) (.type "dict") := fun F H as v W r => by
  cases r with
  | cell ha =>
    cases t with
    | false =>
      obtain ⟨_, vs, h1, _⟩ := W.ok m _ _ ha h
      exact .base (.dK h1)
    | true =>
      obtain ⟨_, vs, h1, _⟩ := W.ok m _ _ ha h
      exact .base (.dT h1)
theorem ty_dctF {kvs : List (DK × D)} : TyI S μ (.dct false kvs) (.type "dict") := fun F H as v W r => by
  cases r with
  | dctK h1 _ => exact .fDict (W.sub _ _ h1)
/-- what isinstance asks of an own class -/
structure OwnC (Γ : Gam) (c : String) (C : Addr) : Prop where
  at_ : Γ.cls c = some C
  cl : Cls Γ.K C
  ha : PySem.W.findIn Γ.K (.ref C) "__class__" = some (some (.builtin "object.__class__"))
  hn : PySem.W.specialIn Γ.K (.builtin "object.__class__") "__get__" = some (some (.builtin "getset_descriptor.__get__"))
  htk : PySem.W.takesIn Γ.K (.builtin "object.__class__") = some true
  hm : PySem.W.mroIn Γ.K C (.type "object") = some true
theorem ty_ins {cn : String} {C : Addr} {fs : List (Str × D)} (O : OwnC S.Γ cn C) (h : vw μ d = .ins cn fs) : TyI S μ d (.ref C) := fun F H as v W r => by
  obtain ⟨a, C', dx, vs, rfl, hc, h1, _⟩ := W.ins r h
  rw [O.at_] at hc
  obtain rfl := Option.some.inj hc
  have := S.hK
  exact .base (.ins h1 (this ▸ O.cl) (this ▸ O.ha) (this ▸ O.hn) (this ▸ O.htk) (this ▸ O.hm))
/-- what a class is in the model -/
def clsV (Γ : Gam) : D → Option Value
  | .ty n => some (.type n)
  | .cls c => (Γ.cls c).map .ref
  | _ => none
def clsVs (Γ : Gam) : List D → Option (List Value)
  | [] => some []
  | d :: ds => (clsV Γ d).bind fun u => (clsVs Γ ds).bind fun us => some (u :: us)
theorem clsV_of {Γ : Gam} {F : Hp} {as : List Ad} {v : V} {u : Value} (r : DV Γ F as v d) (h : clsV Γ d = some u) : ClsV v u := by
  cases r with
  | ty n => obtain rfl := Option.some.inj h; exact .ty n
  | cls hc =>
    simp only [clsV, hc, Option.map_some] at h
    obtain rfl := Option.some.inj h
    exact .own _
  | _ => exact nomatch h
theorem clsVs_of {Γ : Gam} {F : Hp} {as : List Ad} : ∀ {ds : List D} {vs : List V} {us : List Value}, DVs Γ F as vs ds → clsVs Γ ds = some us → Paired ClsV vs us
  | [], _, us, .nil, h => by obtain rfl := Option.some.inj h; exact .nil
  | d :: ds, _, us, .cons r t, h => by
    unfold clsVs at h
    cases e1 : clsV Γ d with
    | none => rw [e1] at h; exact nomatch h
    | some u =>
      cases e2 : clsVs Γ ds with
      | none => rw [e1, e2] at h; exact nomatch h
      | some ws =>
        rw [e1, e2] at h
        obtain rfl := Option.some.inj h
        exact .cons (clsV_of r e1) (clsVs_of t e2)
theorem c_isi {t u : Value} {q : Bool} {dc : D} (ht : TyI S μ d t) (hu : clsV S.Γ dc = some u) (hk : PySem.W.kitOne S.X.K t u = some q) (k : P (.bl q) μ) : Cl S (.builtin "isinstance") [d, dc] env μ P :=
  Cl.of call_isi fun F H as xs Q W r kk => by
    obtain ⟨x, y, rfl, r1, r2⟩ := dvs2 r
    exact ⟨x, y, t, u, q, rfl, clsV_of r2 hu, ht F H as x W r1, hk, kk.now W k (.bl q)⟩
theorem c_isiT {t : Value} {us : List Value} {q : Bool} {dcs : List D} (ht : TyI S μ d t) (hu : clsVs S.Γ dcs = some us) (hk : PySem.W.kitAny S.X.K t us = some q) (k : P (.bl q) μ) : Cl S (.builtin "isinstance") [d, .tup dcs] env μ P :=
  Cl.of call_isiT fun F H as xs Q W r kk => by
    obtain ⟨x, y, rfl, r1, r2⟩ := dvs2 r
    obtain ⟨tp, vs, rfl, h1, dv⟩ := r2.tupV
    exact ⟨x, tp, vs, t, us, q, rfl, W.sub _ _ h1, clsVs_of dv hu, ht F H as x W r1, hk, kk.now W k (.bl q)⟩
/-! ### a <= b < c -/
theorem e_chLt (h : E S a env μ fun d1 μ1 => E S b env μ1 fun d2 μ2 => ∃ i j, d1 = .int i ∧ d2 = .int j ∧ (i ≤ j → E S c env μ2 fun d3 μ3 => ∃ k, d3 = .int k ∧ P (.bl (decide (j < k))) μ3) ∧ (¬ i ≤ j → P (.bl false) μ2)) (hm : lastMarks [.LtE, .Lt] [b, c] = false := by with_unfolding_all rfl) :
    E S (.Compare a [.LtE, .Lt] [b, c] pos) env μ P := by
  refine PE.imp (pe_chain op_le op_lt pe_y pe_y pe_y hm) fun σ H Q ⟨F, as, a1, kk⟩ => h.go a1 fun d1 μ1 v1 F1 H1 as1 p1 g1 W1 r1 => p1.go (a1.go g1 W1) fun d2 μ2 v2 F2 H2 as2 ⟨i, j, e1, e2, pt, pf⟩ g2 W2 r2 => ?_
  subst e1 e2
  cases r1
  cases r2
  refine ⟨i, j, rfl, rfl, _, rfl, ?_⟩
  by_cases hij : i ≤ j
  · rw [decide_eq_true hij, if_pos rfl]
    refine (pt hij).go ((a1.go g1 W1).go g2 W2) fun d3 μ3 v3 F3 H3 as3 ⟨k, e3, p3⟩ g3 W3 r3 => ?_
    subst e3
    cases r3
    exact ⟨j, k, rfl, rfl, kk _ μ3 _ F3 H3 as3 p3 ((g1.trans g2).trans g3) W3 (.bl _)⟩
  · rw [decide_eq_false hij, if_neg (by decide)]
    exact kk _ μ2 _ F2 H2 as2 (pf hij) (g1.trans g2) W2 (.bl false)
theorem e_chLe (h : E S a env μ fun d1 μ1 => E S b env μ1 fun d2 μ2 => ∃ i j, d1 = .int i ∧ d2 = .int j ∧ (i ≤ j → E S c env μ2 fun d3 μ3 => ∃ k, d3 = .int k ∧ P (.bl (decide (j ≤ k))) μ3) ∧ (¬ i ≤ j → P (.bl false) μ2)) (hm : lastMarks [.LtE, .LtE] [b, c] = false := by with_unfolding_all rfl) :
    E S (.Compare a [.LtE, .LtE] [b, c] pos) env μ P := by
  refine PE.imp (pe_chain op_le op_le pe_y pe_y pe_y hm) fun σ H Q ⟨F, as, a1, kk⟩ => h.go a1 fun d1 μ1 v1 F1 H1 as1 p1 g1 W1 r1 => p1.go (a1.go g1 W1) fun d2 μ2 v2 F2 H2 as2 ⟨i, j, e1, e2, pt, pf⟩ g2 W2 r2 => ?_
  subst e1 e2
  cases r1
  cases r2
  refine ⟨i, j, rfl, rfl, _, rfl, ?_⟩
  by_cases hij : i ≤ j
  · rw [decide_eq_true hij, if_pos rfl]
    refine (pt hij).go ((a1.go g1 W1).go g2 W2) fun d3 μ3 v3 F3 H3 as3 ⟨k, e3, p3⟩ g3 W3 r3 => ?_
    subst e3
    cases r3
    exact ⟨j, k, rfl, rfl, kk _ μ3 _ F3 H3 as3 p3 ((g1.trans g2).trans g3) W3 (.bl _)⟩
  · rw [decide_eq_false hij, if_neg (by decide)]
    exact kk _ μ2 _ F2 H2 as2 (pf hij) (g1.trans g2) W2 (.bl false)
theorem t_chLe (h : E S a env μ fun d1 μ1 => E S b env μ1 fun d2 μ2 => ∃ i j, d1 = .int i ∧ d2 = .int j ∧ (i ≤ j → E S c env μ2 fun d3 μ3 => ∃ k, d3 = .int k ∧ PB (decide (j ≤ k)) μ3) ∧ (¬ i ≤ j → PB false μ2)) (hm : lastMarks [.LtE, .LtE] [b, c] = false := by with_unfolding_all rfl) :
    T S (.Compare a [.LtE, .LtE] [b, c] pos) env μ PB := by
  refine PT.imp (pt_chain op_le op_le pe_y pe_y pe_y hm) fun σ H Q ⟨F, as, a1, kk⟩ => h.go a1 fun d1 μ1 v1 F1 H1 as1 p1 g1 W1 r1 => p1.go (a1.go g1 W1) fun d2 μ2 v2 F2 H2 as2 ⟨i, j, e1, e2, pt, pf⟩ g2 W2 r2 => ?_
  subst e1 e2
  cases r1
  cases r2
  refine ⟨i, j, rfl, rfl, _, rfl, ?_⟩
  by_cases hij : i ≤ j
  · rw [decide_eq_true hij, if_pos rfl]
    refine (pt hij).go ((a1.go g1 W1).go g2 W2) fun d3 μ3 v3 F3 H3 as3 ⟨k, e3, p3⟩ g3 W3 r3 => ?_
    subst e3
    cases r3
    exact ⟨j, k, rfl, rfl, _, rfl, kk _ μ3 F3 H3 as3 p3 ((g1.trans g2).trans g3) W3⟩
  · rw [decide_eq_false hij, if_neg (by decide)]
    exact ⟨false, rfl, kk _ μ2 F2 H2 as2 (pf hij) (g1.trans g2) W2⟩
end
end Me

/-! Me12: dicts. -/
namespace Me
open PySem PySem.Spec PyProof.Rows L2
def asKey : D → Option Key
  | .int i => some (.inl i)
  | .str x => some (.inr x)
  | _ => none
def asKeys : List D → Option (List Key)
  | [] => some []
  | d :: ds => match asKey d, asKeys ds with
    | some k, some ks => some (k :: ks)
    | _, _ => none
/-- a value as a key of a dict by keys (false), by tuples (true) -/
def asDK : Bool → D → Option DK
  | false, d => (asKey d).map .k
  | true, .tup ds => (asKeys ds).map .t
  | true, _ => none
theorem asKeys_strs : ∀ n : List Str, asKeys (n.map D.str) = some (n.map Sum.inr)
  | [] => rfl
  | x :: n => by rw [List.map_cons, asKeys, asKeys_strs n]; rfl
abbrev nmK (n : List Str) : DK := .t (n.map Sum.inr)
theorem asDK_name (n : List Str) : asDK true (.tup (n.map D.str)) = some (nmK n) := by
  show (asKeys (n.map D.str)).map DK.t = _
  rw [asKeys_strs]; rfl
theorem asDK_str (x : Str) : asDK false (.str x) = some (.k (.inr x)) := rfl
/-- what a dict holds at a key; a dict with a key put, dropped -/
def valD (kvs : List (DK × D)) (k : DK) : Option D := (kvs.find? fun kv => decide (kv.1 = k)).map (·.2)
def putD (kvs : List (DK × D)) (k : DK) (d : D) : List (DK × D) := if (kvs.any fun kv => decide (kv.1 = k)) = true then kvs.map (fun kv => if kv.1 = k then (kv.1, d) else kv) else kvs ++ [(k, d)]
def delD (kvs : List (DK × D)) (k : DK) : List (DK × D) := kvs.filter fun kv => decide (kv.1 ≠ k)
section
variable {Γ : Gam} {F H : Hp} {as : List Ad} {μ : Mu} {v : V} {d : D} {t : Bool} {kvs : List (DK × D)}
theorem DV.key {k : Key} (r : DV Γ F as v d) (h : asKey d = some k) : v = kV k := by
  cases r with
  | int i => obtain rfl := Option.some.inj h; rfl
  | str x => obtain rfl := Option.some.inj h; rfl
  | _ => exact nomatch h
theorem DVs.keys : ∀ {ds : List D} {vs : List V} {ks : List Key}, DVs Γ F as vs ds → asKeys ds = some ks → vs = ks.map kV
  | [], _, _, .nil, h => by obtain rfl := Option.some.inj h; rfl
  | d :: ds, _, _, .cons r t, h => by
    unfold asKeys at h
    cases e1 : asKey d with
    | none => rw [e1] at h; exact nomatch h
    | some k =>
      cases e2 : asKeys ds with
      | none => rw [e1, e2] at h; exact nomatch h
      | some ks =>
        rw [e1, e2] at h
        obtain rfl := Option.some.inj h
        rw [r.key e1, t.keys e2]; rfl
theorem DV.keyT {ks : List Key} (r : DV Γ F as v d) (h : asDK true d = some (.t ks)) : ∃ b, v = .ref b ∧ F b = some (.tup (ks.map kV)) := by
  cases r with
  | tup h1 h2 =>
    obtain ⟨ks', e1, e2⟩ := Option.map_eq_some_iff.mp h
    obtain rfl := DK.t.inj e2
    rw [h2.keys e1] at h1
    exact ⟨_, rfl, h1⟩
  | _ => exact nomatch h
theorem asDK_k {k : DK} (h : asDK false d = some k) : ∃ x, k = .k x ∧ asKey d = some x := by
  obtain ⟨x, e1, e2⟩ := Option.map_eq_some_iff.mp h
  exact ⟨x, e2.symm, e1⟩
theorem asDK_t {k : DK} (h : asDK true d = some k) : ∃ x, k = .t x := by
  cases d with
  | tup ds => obtain ⟨x, e1, e2⟩ := Option.map_eq_some_iff.mp h; exact ⟨x, e2.symm⟩
  | _ => exact nomatch h
/-- how what a dict holds is told -/
def RO (Γ : Gam) (F : Hp) (as : List Ad) : Option V → Option D → Prop
  | some v, some d => DV Γ F as v d
  | none, none => True
  | _, _ => False
theorem valD_cons (p : DK × D) (kvs : List (DK × D)) (k : DK) : valD (p :: kvs) k = if p.1 = k then some p.2 else valD kvs k := by
  unfold valD
  rw [List.find?_cons]
  by_cases h : p.1 = k
  · rw [decide_eq_true h, if_pos h]; rfl
  · rw [decide_eq_false h, if_neg h]
theorem DKs.val : ∀ {vs : List (Key × V)} {kvs : List (DK × D)} (k : Key), DKs Γ F as vs kvs → RO Γ F as (valV vs k) (valD kvs (.k k))
  | _, _, _, .nil => trivial
  | _, _, k, @DKs.cons _ _ _ k' v vs d ds h t => by
    rw [valD_cons]
    by_cases e : k' = k
    · rw [valV_pos e, if_pos (by rw [e])]; exact h
    · rw [valV_neg e, if_neg (fun z => e (DK.k.inj z))]; exact t.val k
theorem DTs.val : ∀ {vs : List (List Key × V)} {kvs : List (DK × D)} (k : List Key), DTs Γ F as vs kvs → RO Γ F as (valV vs k) (valD kvs (.t k))
  | _, _, _, .nil => trivial
  | _, _, k, @DTs.cons _ _ _ k' v vs d ds h t => by
    rw [valD_cons]
    by_cases e : k' = k
    · rw [valV_pos e, if_pos (by rw [e])]; exact h
    · rw [valV_neg e, if_neg (fun z => e (DK.t.inj z))]; exact t.val k
theorem RO.isSome : ∀ {o : Option V} {p : Option D}, RO Γ F as o p → o.isSome = p.isSome
  | some _, some _, _ => rfl
  | none, none, _ => rfl
theorem DKs.length : ∀ {vs : List (Key × V)} {kvs : List (DK × D)}, DKs Γ F as vs kvs → vs.length = kvs.length
  | _, _, .nil => rfl
  | _, _, .cons _ t => congrArg (· + 1) t.length
theorem DTs.length : ∀ {vs : List (List Key × V)} {kvs : List (DK × D)}, DTs Γ F as vs kvs → vs.length = kvs.length
  | _, _, .nil => rfl
  | _, _, .cons _ t => congrArg (· + 1) t.length
theorem valD_any (k : DK) : ∀ kvs : List (DK × D), (kvs.any fun kv => decide (kv.1 = k)) = (valD kvs k).isSome
  | [] => rfl
  | p :: r => by
    rw [List.any_cons, valD_cons, valD_any k r]
    by_cases e : p.1 = k
    · rw [if_pos e, decide_eq_true e]; rfl
    · rw [if_neg e, decide_eq_false e, Bool.false_or]
theorem DKs.map (k : Key) (r : DV Γ F as v d) : ∀ {vs : List (Key × V)} {kvs : List (DK × D)}, DKs Γ F as vs kvs → DKs Γ F as (vs.map fun kv => if kv.1 = k then (kv.1, v) else kv) (kvs.map fun kv => if kv.1 = .k k then (kv.1, d) else kv)
  | _, _, .nil => .nil
  | _, _, @DKs.cons _ _ _ k' v' vs d' ds h t => by
    rw [List.map_cons, List.map_cons]
    by_cases e : k' = k
    · rw [if_pos e, if_pos (by rw [e])]; exact .cons r (t.map k r)
    · rw [if_neg e, if_neg (fun z => e (DK.k.inj z))]; exact .cons h (t.map k r)
theorem DTs.map (k : List Key) (r : DV Γ F as v d) : ∀ {vs : List (List Key × V)} {kvs : List (DK × D)}, DTs Γ F as vs kvs → DTs Γ F as (vs.map fun kv => if kv.1 = k then (kv.1, v) else kv) (kvs.map fun kv => if kv.1 = .t k then (kv.1, d) else kv)
  | _, _, .nil => .nil
  | _, _, @DTs.cons _ _ _ k' v' vs d' ds h t => by
    rw [List.map_cons, List.map_cons]
    by_cases e : k' = k
    · rw [if_pos e, if_pos (by rw [e])]; exact .cons r (t.map k r)
    · rw [if_neg e, if_neg (fun z => e (DK.t.inj z))]; exact .cons h (t.map k r)
theorem DKs.snoc (k : Key) (r : DV Γ F as v d) : ∀ {vs : List (Key × V)} {kvs : List (DK × D)}, DKs Γ F as vs kvs → DKs Γ F as (vs ++ [(k, v)]) (kvs ++ [(.k k, d)])
  | _, _, .nil => .cons r .nil
  | _, _, .cons h t => .cons h (t.snoc k r)
theorem DTs.snoc (k : List Key) (r : DV Γ F as v d) : ∀ {vs : List (List Key × V)} {kvs : List (DK × D)}, DTs Γ F as vs kvs → DTs Γ F as (vs ++ [(k, v)]) (kvs ++ [(.t k, d)])
  | _, _, .nil => .cons r .nil
  | _, _, .cons h t => .cons h (t.snoc k r)
theorem DKs.put {vs : List (Key × V)} (k : Key) (r : DV Γ F as v d) (h : DKs Γ F as vs kvs) : DKs Γ F as (putK vs k v) (putD kvs (.k k) d) := by
  unfold putK putD
  rw [valV_any, valD_any, (h.val k).isSome]
  split
  · exact h.map k r
  · exact h.snoc k r
theorem DTs.put {vs : List (List Key × V)} (k : List Key) (r : DV Γ F as v d) (h : DTs Γ F as vs kvs) : DTs Γ F as (putK vs k v) (putD kvs (.t k) d) := by
  unfold putK putD
  rw [valV_any, valD_any, (h.val k).isSome]
  split
  · exact h.map k r
  · exact h.snoc k r
/-- a dict, a cell's or a stable one -/
def DctAt (Γ : Gam) (F H : Hp) (as : List Ad) (a : Addr) : Bool → List (DK × D) → Prop
  | false, kvs => ∃ vs, Rd H a (.dK vs) ∧ DKs Γ F as vs kvs
  | true, kvs => ∃ vs, Rd H a (.dT vs) ∧ DTs Γ F as vs kvs
theorem Wd.dct (W : Wd Γ F H as μ) (r : DV Γ F as v d) (h : vw μ d = .dct t kvs) : ∃ a, v = .ref a ∧ DctAt Γ F H as a t kvs := by
  cases r with
  | dctK h1 h2 =>
    obtain ⟨rfl, rfl⟩ := D.dct.inj h
    exact ⟨_, rfl, _, .inr ⟨_, W.sub _ _ h1⟩, h2⟩
  | dctT h1 h2 =>
    obtain ⟨rfl, rfl⟩ := D.dct.inj h
    exact ⟨_, rfl, _, .inr ⟨_, W.sub _ _ h1⟩, h2⟩
  | @cell j ad h1 =>
    simp only [vw] at h
    match hm : μ[j]?, h with
    | none, h => cases h
    | some (.lst _), h => cases h
    | some (.ins _ _), h => cases h
    | some .dead, h => cases h
    | some (.dct false lk ks), h =>
      obtain ⟨rfl, rfl⟩ := D.dct.inj h
      obtain ⟨_, vs, h2, h3⟩ := W.ok j ad _ h1 hm
      exact ⟨_, rfl, vs, h2.rd, h3⟩
    | some (.dct true lk ks), h =>
      obtain ⟨rfl, rfl⟩ := D.dct.inj h
      obtain ⟨_, vs, h2, h3⟩ := W.ok j ad _ h1 hm
      exact ⟨_, rfl, vs, h2.rd, h3⟩
  | _ => cases h
theorem DctAt.get {a : Addr} {y : V} {dk : D} {k : DK} (h : DctAt Γ F H as a t kvs) (s : Same F H) (r : DV Γ F as y dk) (hk : asDK t dk = some k) : ∃ o, DGet H a y o ∧ RO Γ F as o (valD kvs k) := by
  cases t with
  | false =>
    obtain ⟨vs, h1, h2⟩ := h
    obtain ⟨x, rfl, e⟩ := asDK_k hk
    rw [r.key e]
    exact ⟨_, .inl ⟨vs, x, h1, rfl, rfl⟩, h2.val x⟩
  | true =>
    obtain ⟨vs, h1, h2⟩ := h
    obtain ⟨x, rfl⟩ := asDK_t hk
    obtain ⟨b, rfl, e⟩ := r.keyT hk
    exact ⟨_, .inr ⟨vs, x, b, h1, rfl, s _ _ e, rfl⟩, h2.val x⟩
end
section
variable {S : Sc} {env : En} {μ : Mu} {P : KD} {d d1 d2 d3 : D} {t : Bool} {kvs : List (DK × D)} {k : DK} {pos : Pos}
theorem o_inD (hv : vw μ d2 = .dct t kvs) (hk : asDK t d1 = some k) (h : P (.bl (valD kvs k).isSome) μ) : Op2 S (compareOp .In) d1 d2 env μ P := by
  intro pins s σ H x y v u Q F as I rx ry a r1 r2 kk
  obtain ⟨p, rfl, dc⟩ := a.w.dct r2 hv
  obtain ⟨o, g, ro⟩ := dc.get a.w.sub r1 hk
  cases ry
  refine d_in (by have := S.hu; omega) I g rx fun s3 I3 => ⟨.bl o.isSome, H, I3, rfl, ?_⟩
  rw [ro.isSome]
  exact kk.now a.w h (.bl _)
theorem o_notInD (hv : vw μ d2 = .dct t kvs) (hk : asDK t d1 = some k) (h : P (.bl (!(valD kvs k).isSome)) μ) : Op2 S (compareOp .NotIn) d1 d2 env μ P := by
  intro pins s σ H x y v u Q F as I rx ry a r1 r2 kk
  obtain ⟨p, rfl, dc⟩ := a.w.dct r2 hv
  obtain ⟨o, g, ro⟩ := dc.get a.w.sub r1 hk
  cases ry
  refine d_notIn (by have := S.hu; omega) I g rx fun s3 I3 => ⟨.bl (!o.isSome), H, I3, rfl, ?_⟩
  rw [ro.isSome]
  exact kk.now a.w h (.bl _)
theorem x_dct (hv : vw μ d1 = .dct t kvs) (hk : asDK t d2 = some k) (hd : valD kvs k = some d) (h : P d μ) : Ix2 S d1 d2 env μ P := by
  intro value slice pins s σ H x y v u Q F as I rx ry a r1 r2 kk hs
  obtain ⟨p, rfl, dc⟩ := a.w.dct r1 hv
  obtain ⟨o, g, ro⟩ := dc.get a.w.sub r2 hk
  cases rx
  rw [hd] at ro
  cases o with
  | none => exact ro.elim
  | some w0 =>
    have hT := dict_typeIs I g
    have get : wpAny (model S.X.prog S.X.w) S.X.A (getItem (.ref p) u) (EP S.X pins σ Q) S.X.xe s := d_getItem (by have := S.hu; omega) I g ry fun w' s3 I3 rw' => ⟨w0, H, I3, rw', kk.now a.w h ro⟩
    unfold subscriptTail; refine wpAny_bind ?_; rw [getitemInPython_of_ne hT.not_modules]
    refine wpAny_bind (wpAny_specialOf hT PySem.F.slot_dict_getitem.lookup ?_)
    have fin : wpAny (model S.X.prog S.X.w) S.X.A (subscripted slice false (.ref p) u) (fun r s₃ => wpAny (model S.X.prog S.X.w) S.X.A (letTemporaryGo value (.ref p) r >>= fun _ => pure r) (EP S.X pins σ Q) S.X.xe s₃) S.X.xe s := by
      rw [hs]; exact wpAny_operating (thn get fun r s₃ h₃ => wpAny_bind (wpAny_letTemporaryGo (wpAny_pure h₃)))
    first
      | exact wpAny_pure (wpAny_bind fin) | exact wpAny_bind (wpAny_pure (wpAny_bind fin)) | exact wpAny_bind fin
/-- a dict cell is changed -/
theorem Wd.setD {Γ : Gam} {F H : Hp} {as : List Ad} {m : Nat} {ad : Ad} {o : HO} {es : List (DK × D)} (W : Wd Γ F H as μ) (ha : as[m]? = some ad) (hc : μ[m]? = some (.dct t none es))
    (h : F ad.a = none → CellOk Γ F (upd H ad.a o) as ad (.dct t none kvs)) : Wd Γ F (upd H ad.a o) as (μ.set m (.dct t none kvs)) ∧ Go F H as F (upd H ad.a o) as := by
  cases t with
  | false =>
    obtain ⟨nF, vs, _, _⟩ := W.ok m ad _ ha hc
    exact W.setO ha nF (h nF)
  | true =>
    obtain ⟨nF, vs, _, _⟩ := W.ok m ad _ ha hc
    exact W.setO ha nF (h nF)
theorem t_setD {m : Nat} {P : Mu → Prop} (hc : μ[m]? = some (.dct t none kvs)) (hk : asDK t d2 = some k) (hz : kvs.length < sizeLine) (h : P (μ.set m (.dct t none (putD kvs k d3)))) : St3 S (.cell m) d2 d3 env μ P := by
  intro pins s σ H x y z ov iv u Q F as I rx ry rz a r1 r2 r3 kk
  cases r1 with
  | @cell _ ad ha =>
    cases rx
    cases t with
    | false =>
      obtain ⟨nF, vs, h1, h2⟩ := a.w.ok m ad _ ha hc
      obtain ⟨x, rfl, e⟩ := asDK_k hk
      obtain rfl := r2.key e
      obtain ⟨W2, g2⟩ := a.w.setD (o := .dK (putK vs x z)) (kvs := putD kvs (.k x) d3) ha hc fun nF => ⟨nF, _, upd_same, h2.put x r3⟩
      exact d_setItem (by have := S.hu; omega) I (DPut.k h1 (by rw [h2.length]; exact hz)) ry rz fun s3 I3 => ⟨_, I3, kk _ _ _ _ h g2 W2⟩
    | true =>
      obtain ⟨nF, vs, h1, h2⟩ := a.w.ok m ad _ ha hc
      obtain ⟨x, rfl⟩ := asDK_t hk
      obtain ⟨b, rfl, e⟩ := r2.keyT hk
      obtain ⟨W2, g2⟩ := a.w.setD (o := .dT (putK vs x z)) (kvs := putD kvs (.t x) d3) ha hc fun nF => ⟨nF, _, upd_same, h2.put x r3⟩
      exact d_setItem (by have := S.hu; omega) I (DPut.t h1 (a.w.sub _ _ e) (by rw [h2.length]; exact hz)) ry rz fun s3 I3 => ⟨_, I3, kk _ _ _ _ h g2 W2⟩
/-- {} -/
theorem e_dict0 (t : Bool) (h : P (.cell μ.length) (μ ++ [.dct t none []])) : E S (.Dict [] [] pos) env μ P := by
  cases t with
  | false =>
    refine PE.imp pe_dnewK fun σ H Q ⟨F, as, a, k⟩ p np => ?_
    obtain ⟨W3, g3⟩ := a.w.addO (o := .dK []) (c := .dct false none []) np fun nF => ⟨nF, [], upd_same, .nil⟩
    exact k _ _ _ _ _ _ h g3 W3 (.cell (ad := ⟨p, none⟩) (a.w.last _))
  | true =>
    refine PE.imp pe_dnewT fun σ H Q ⟨F, as, a, k⟩ p np => ?_
    obtain ⟨W3, g3⟩ := a.w.addO (o := .dT []) (c := .dct true none []) np fun nF => ⟨nF, [], upd_same, .nil⟩
    exact k _ _ _ _ _ _ h g3 W3 (.cell (ad := ⟨p, none⟩) (a.w.last _))
end
end Me

/-! Me13: dicts: len, locks, walks, comprehensions. -/
namespace Me
open PySem PySem.Spec PyProof.Rows L2
/-- a key as a value -/
def dkD : DK → D
  | .k x => keyD x
  | .t xs => .tup (xs.map keyD)
section
variable {Γ : Gam} {F H : Hp} {as : List Ad} {μ : Mu}
theorem DV.ofKey (k : Key) : DV Γ F as (kV k) (keyD k) := by cases k with
  | inl i => exact .int i
  | inr x => exact .str x
theorem DVs.ofKeys : ∀ ks : List Key, DVs Γ F as (ks.map kV) (ks.map keyD)
  | [] => .nil
  | k :: ks => .cons (DV.ofKey k) (DVs.ofKeys ks)
theorem DKs.at : ∀ {vs : List (Key × V)} {kvs : List (DK × D)} {i : Nat} {k : Key} {v : V}, DKs Γ F as vs kvs → vs[i]? = some (k, v) → ∃ d, kvs[i]? = some (.k k, d) ∧ DV Γ F as v d
  | _, _, _, _, _, .nil, e => by simp at e
  | _, _, 0, _, _, .cons h _, e => by simp at e; obtain ⟨rfl, rfl⟩ := e; exact ⟨_, rfl, h⟩
  | _, _, i + 1, k, v, .cons _ t, e => by
    obtain ⟨d, h1, h2⟩ := DKs.at (i := i) t (by simpa using e)
    exact ⟨d, by simpa using h1, h2⟩
theorem DTs.at : ∀ {vs : List (List Key × V)} {kvs : List (DK × D)} {i : Nat} {k : List Key} {v : V}, DTs Γ F as vs kvs → vs[i]? = some (k, v) → ∃ d, kvs[i]? = some (.t k, d) ∧ DV Γ F as v d
  | _, _, _, _, _, .nil, e => by simp at e
  | _, _, 0, _, _, .cons h _, e => by simp at e; obtain ⟨rfl, rfl⟩ := e; exact ⟨_, rfl, h⟩
  | _, _, i + 1, k, v, .cons _ t, e => by
    obtain ⟨d, h1, h2⟩ := DTs.at (i := i) t (by simpa using e)
    exact ⟨d, by simpa using h1, h2⟩
end
section
variable {S : Sc} {env : En} {μ : Mu} {P : KD} {d : D} {t : Bool} {kvs : List (DK × D)} {pos p0 p1 : Pos} {e iter tg : Expr} {PI : KI} {j : Nat}
theorem c_lenD (hc : μ[j]? = some (.dct t none kvs)) (h : P (.int kvs.length) μ) : Cl S (.builtin "len") [.cell j] env μ P := by
  intro pins s σ H xs us Q F as I rx a r0 kk
  obtain ⟨x, rfl, r1⟩ := dvs1 r0
  cases r1 with
  | @cell _ ad ha =>
    cases t with
    | false =>
      obtain ⟨_, vs, h1, h2⟩ := a.w.ok j ad _ ha hc
      cases rx with
      | cons rx rt =>
        cases rt
        cases rx
        exact d_len I (.inl h1) fun tk s' I' => ⟨.int vs.length, H, I', ⟨tk, rfl⟩, by rw [h2.length]; exact kk.now a.w h (.int _)⟩
    | true =>
      obtain ⟨_, vs, h1, h2⟩ := a.w.ok j ad _ ha hc
      exact call_len_dT pins s σ H _ us Q I rx ⟨_, vs, rfl, h1, by rw [h2.length]; exact kk.now a.w h (.int _)⟩
/-- the scene where nothing is raised -/
abbrev Sc.cold (S : Sc) : Sc := { S with Z := fun _ _ _ => False }
theorem ko_cold {F H : Hp} {as : List Ad} : Ko S.cold F H as := fun _ _ _ _ _ _ _ _ _ z => z.elim
theorem E.warm (h : E S.cold e env μ P) : E S e env μ P := PE.imp h fun σ H Q ⟨F, as, a, k⟩ => ⟨F, as, ⟨a.e, a.w, ko_cold⟩, k⟩
/-- while a dict is locked -/
theorem e_lock (j : Nat) (hj : μ[j]? = some (.dct t none kvs)) (h : ∀ q, E S.cold e env (μ.set j (.dct t (some q) kvs)) fun d m => m[j]? = some (.dct t (some q) kvs) ∧ P d (m.set j (.dct t none kvs))) : E S e env μ P := by
  have h2 : PE S.X e (fun σ H Q => ∃ q, rdE S.cold env (μ.set j (.dct t (some q) kvs)) (fun d m => m[j]? = some (.dct t (some q) kvs) ∧ P d (m.set j (.dct t none kvs))) σ H Q) := ⟨fun pins s σ H Q I ⟨q, z⟩ => (h q).run pins s σ H Q I z⟩
  refine PE.imp (pe_lock h2) fun σ H Q ⟨F, as, a, kk⟩ => ?_
  obtain ⟨ad, hat, ck⟩ := a.w.adAt hj
  cases t with
  | false =>
    obtain ⟨nF, vs, hv, hk⟩ := ck
    refine ⟨ad.a, .dK vs, hv, trivial, fun od => ⟨.frz od (.dK vs), F, as, ?_⟩⟩
    obtain ⟨W1, g1⟩ := a.w.setO (o := .frz od (.dK vs)) (c := .dct false (some (.frz od (.dK vs))) kvs) hat nF ⟨nF, vs, ⟨upd_same, od, rfl⟩, hk⟩
    refine ⟨⟨a.e.mono g1, W1, ko_cold⟩, fun d m v F2 H2 as2 ⟨hm, p2⟩ g2 W2 r2 => ?_⟩
    obtain ⟨nF2, vs2, ⟨hv2, od2, hq⟩, hk2⟩ := W2.ok j ad _ (g2.at hat) hm
    obtain rfl : vs = vs2 := HO.dK.inj (HO.frz.inj hq).2
    refine ⟨hv2, ?_⟩
    obtain ⟨W3, g3⟩ := W2.setO (o := .dK vs) (c := .dct false none kvs) (g2.at hat) nF2 ⟨nF2, vs, upd_same, hk2⟩
    exact kk d _ v _ _ _ p2 ((g1.trans g2).trans g3) W3 (r2.mono g3)
  | true =>
    obtain ⟨nF, vs, hv, hk⟩ := ck
    refine ⟨ad.a, .dT vs, hv, trivial, fun od => ⟨.frz od (.dT vs), F, as, ?_⟩⟩
    obtain ⟨W1, g1⟩ := a.w.setO (o := .frz od (.dT vs)) (c := .dct true (some (.frz od (.dT vs))) kvs) hat nF ⟨nF, vs, ⟨upd_same, od, rfl⟩, hk⟩
    refine ⟨⟨a.e.mono g1, W1, ko_cold⟩, fun d m v F2 H2 as2 ⟨hm, p2⟩ g2 W2 r2 => ?_⟩
    obtain ⟨nF2, vs2, ⟨hv2, od2, hq⟩, hk2⟩ := W2.ok j ad _ (g2.at hat) hm
    obtain rfl : vs = vs2 := HO.dT.inj (HO.frz.inj hq).2
    refine ⟨hv2, ?_⟩
    obtain ⟨W3, g3⟩ := W2.setO (o := .dT vs) (c := .dct true none kvs) (g2.at hat) nF2 ⟨nF2, vs, upd_same, hk2⟩
    exact kk d _ v _ _ _ p2 ((g1.trans g2).trans g3) W3 (r2.mono g3)
/-- for key in a locked dict -/
theorem i_keys (h : E S iter env μ fun d m => ∃ (j : Nat) (t : Bool) (q : HO) (kvs : List (DK × D)), d = .cell j ∧ m[j]? = some (.dct t (some q) kvs) ∧ PI (kvs.map fun p => dkD p.1) (fun m' => m'[j]? = some (.dct t (some q) kvs)) m) : Iter S tg iter env μ PI := by
  refine Me.PI.imp (pi_keys h) fun σ H R ⟨F, as, a, k⟩ => ⟨F, as, a, fun d m v F1 H1 as1 ⟨j, t, q, kvs, e1, hj, p1⟩ g1 W1 r1 => ?_⟩
  subst e1
  cases r1 with
  | @cell _ ad hp =>
    cases t with
    | false =>
      obtain ⟨_, vs, ⟨hv, od, rfl⟩, hk⟩ := W1.ok j ad _ hp hj
      refine ⟨ad.a, od, rfl, .inl ⟨vs, hv, k _ _ m (Itk ad.a od vs) F1 H1 as1 p1 g1 W1 (stays_walk _ _ (by rw [List.length_map, ← hk.length]; exact walk_keys) ?_ ?_)⟩⟩
      · intro F2 H2 as2 μ2 g2 W2 h2
        exact (W2.ok j ad _ (g2.at hp) h2).2.choose_spec.1.1
      · rintro i F2 H2 as2 μ2 x H' g2 W2 h2 ⟨rfl, kk, u, h3, rfl⟩ hi
        obtain ⟨d, h4, _⟩ := hk.at h3
        exact ⟨rfl, keyD kk, by rw [List.getElem?_map, h4]; rfl, DV.ofKey kk⟩
    | true =>
      obtain ⟨_, vs, ⟨hv, od, rfl⟩, hk⟩ := W1.ok j ad _ hp hj
      refine ⟨ad.a, od, rfl, .inr ⟨vs, hv, k _ _ m (Itkt ad.a od vs) F1 H1 as1 p1 g1 W1 ⟨_, _, by rw [List.length_map, ← hk.length]; exact walk_keysT, ?_, ?_⟩⟩⟩
      · intro F2 H2 as2 μ2 g2 W2 h2
        exact (W2.ok j ad _ (g2.at hp) h2).2.choose_spec.1.1
      · rintro i F2 H2 as2 μ2 x H' g2 W2 h2 ⟨rfl, kk, u, q, h3, rfl, hq⟩ hi
        obtain ⟨d, h4, _⟩ := hk.at h3
        obtain ⟨F3, e3, W3, g3⟩ := W2.adopt hq
        exact ⟨F3, _, by rw [List.getElem?_map, h4]; rfl, g3, W3, .tup e3 (DVs.ofKeys kk)⟩
/-! ### dict comprehensions -/
theorem d_setG {X : Cx} {pins : List (Addr × Obj)} {σ : L2.St} {H H' : Hp} {s : Shared} {E : Value → Shared → Prop} {D0 : Addr} {y v : V} {u r : Value} {Q : Unit → Shared → Prop} (hu : X.A.units + 1 < cLine) (I : Inv X pins σ H s) (g : DPut H D0 y v H') (ry : RelV y u) (rv : RelV v r)
    (h : ∀ s', Inv X pins σ H' s' → Q () s') : wpAny (model X.prog X.w) X.A (dictSet D0 u r) Q E s := by
  rcases g with ⟨kvs, k, e, ey, l, eH⟩ | ⟨kvs, k, b, e, ey, eb, l, eH⟩
  · subst ey eH
    exact d_dictSet I e l ry rv h
  · subst ey eH
    cases (show u = Value.ref b from ry)
    obtain ⟨z, hd, xs, rel, dd⟩ := dt_of I.hok e
    have hl : (putK kvs k v).length ≤ sizeLine := Nat.le_trans (length_putK kvs k v) (by omega)
    refine wpAny_dictSet_heap (hsz := by rw [← Paired.length rel]; exact z) (show X.A.units < cLine by omega) (key_of I.hok eb) dd fun h' dd' hs => h _ ?_
    obtain ⟨q, es, ep, hq, h2, h3, h4, _, h5⟩ := dd'
    exact d_write I (by rw [e]; exact True.intro) hs ⟨q, hq⟩ ⟨hl, hd, _, (rel.put k eb rv).keeps fun c ys ec => by rw [upd_ne (ne_of ec e (fun z => nomatch z))]; exact ec, q, es, ep, hq, h2, h3, h4, h5⟩
/-- what a comprehension of a dict wishes: D0 the new dict, o0 what it is at first -/
def tDcG (o0 : HO) (wi : TI) (g : TG) (tt : TT) (tk tv : TE) (vs : List Nat) : TE := fun σ H Q => wi σ H fun J H1 => ∀ D0, H1 D0 = none → ∃ Y : Nat → Nat → Hp → Prop, (∃ m, Y 0 m (upd H1 D0 o0)) ∧ ∀ i m H, Y i m H →
  (J.stop i H ∧ Q (.ref D0) H) ∨ (J.go i H ∧ ∃ Nx : Hp → Prop, (∀ H', Nx H' → ∃ m', m' < m ∧ Y (i + 1) m' H') ∧ ∀ x H', J.yld i H x H' → g x (wipe σ vs) H' fun σ2 H2 => wipe σ2 vs = wipe σ vs ∧ tt σ2 H2 fun b H3 =>
    if b = true then tk σ2 H3 fun y H4 => tv σ2 H4 fun z H5 => ∃ H6, DPut H5 D0 y z H6 ∧ Nx H6 else Nx H3)
end
end Me

/-! Me14: the comprehension of a dict, by keys or by tuples. -/
namespace Me
open PySem PySem.Spec PyProof.Rows L2
section
variable {X : Cx}
abbrev newD : Obj := { cls := .type "dict", data := .dict #[] }
/-- in every block -/
abbrev InB (X : Cx) (scope : Scope) (p : Cx → Prop) : Prop := ∀ (s : Shared) (H : Hp) (C : Addr) (cl : List (Str × Addr)) (fp : List Addr), p (X.blk s H scope (compEnvC scope cl C X.env) fp)
theorem dcG_run {o0 : HO} {pins : List (Addr × Obj)} {s : Shared} {σ : L2.St} {H : Hp} {Q : VK} {kx vx tg iter : Expr} {ifs : List Expr} {scope : Scope} {own : List (Str × Nat)} {pos pos' : Pos} {wi : TI} {g : TG} {tt : TT} {tk tv : TE} {use : Option (Value → Sem Unit)} {Qf : Value → Shared → Prop}
    (new : ∀ (H : Hp) (h : Heap), sysModules < h.objs.size → ObjOk X.prog X.w H (h.push newD) h.objs.size o0) (hu : X.A.units + 1 < cLine)
    (hc : X.calm = true) (hN : X.N.Nodup) (I : Inv X pins σ H s) (hi : L2.PI X tg iter wi) (ok : BlkOk X.N X.env.scope scope own) (hg : InB X scope fun B => PG B tg g) (ht : InB X scope fun B => PTs B ifs tt)
    (hk : InB X scope fun B => PE B kx tk) (he : InB X scope fun B => PE B vx tv) (hs : ∀ x, foldedSetIterable iter X.env x = pure x) (h : tDcG o0 wi g tt tk tv (own.map (·.2)) σ H Q)
    (fin : ∀ D0 C s' m H', Inv X pins σ H' s' → Q (.ref D0) H' → s'.heap.Ns C m → FpOk X pins H' C → compPost (model X.prog X.w) X.A X.xe use Qf (.ref D0) C (.ok .next) s') :
    wpAny (model X.prog X.w) X.A (comprehension (.DictComp kx vx [⟨tg, iter, ifs, 0⟩] scope pos) scope X.env pos' newDict false (eval iter X.env) use) Qf X.xe s := by
  have clos : ∀ y ∈ scope.names, y.2 = .free → ∃ c, X.env.cells.lookup y.1 = some c := fun y hy e => (ok.free y hy e).elim (fun z => I.ok.has _ (.inl z)) fun z => I.ok.has _ (.inr z)
  refine wpAny_comprehension_free (use := use) rfl hs (closure_ok clos) ok.kind (fun y hy e => by rw [ok.uniq y hy, e]) (thn (hi.run pins s σ H _ I h) fun xv sa hx => thn hx fun itv sb hb => ?_)
  obtain ⟨it, fp, tn, J, Hb, rfl, Ib, T, stb, fb, q⟩ := hb
  refine wpAny_newObj_type (newEnv_comp ?_) -- the dict, the block's frame
  generalize eD : sb.heap.objs.size = D0
  have nD : Hb D0 = none := Ib.hok.fresh (Nat.le_of_eq eD)
  obtain ⟨Y, ⟨m0, y0⟩, turn⟩ := q D0 nD
  generalize ec : ({ sb with heap := sb.heap.push newD } : Shared) = sc
  have hpc : sc.heap = sb.heap.push newD := by rw [← ec]
  have Ic : Inv X pins σ (upd Hb D0 o0) sc := by
    rw [← ec]; refine Ib.laid (t' := sb.toks) (fun b o e => Heap.get?_push_of_some _ e) (Nat.le_of_eq eD) ?_
    rw [← eD]; exact new _ _ Ib.big
  have lt : ∀ b ∈ fp, b < sb.heap.objs.size := fun b hb => let ⟨o, e, _⟩ := T.obj _ _ stb b hb; Heap.lt_size e
  have fc : ∀ b ∈ fp, FpOk X pins (upd Hb D0 o0) b ∧ b < sc.heap.objs.size := fun b hb =>
    ⟨⟨by rw [upd_ne (by rw [← eD]; exact Nat.ne_of_lt (lt b hb))]; exact (fb b hb).1, (fb b hb).2⟩, by rw [hpc, Heap.size_push]; exact Nat.lt_succ_of_lt (lt b hb)⟩
  have stc : tn 0 sc.heap := T.keep _ _ _ stb fun b _ o e => by rw [hpc]; exact Heap.get?_push_of_some _ e
  have Id := block_start Ic ok hN fc
  generalize eC : sc.heap.objs.size = C0 at Id ⊢
  generalize eL : cellsFrom (C0 + 1) scope.names (cloFrom X.env.cells scope.names []) = cl at Id
  have pg := hg sc (upd Hb D0 o0) C0 cl fp
  have pt := ht sc (upd Hb D0 o0) C0 cl fp
  have pk := hk sc (upd Hb D0 o0) C0 cl fp
  have pv := he sc (upd Hb D0 o0) C0 cl fp
  have nfp : ∀ b ∈ fp, (upd Hb D0 o0) b = none := fun b hb => (fc b hb).1.1
  show codeAny _ _ (.compStart (.DictComp kx vx [⟨tg, iter, ifs, 0⟩] scope pos) 0 (.ref it) (.ref D0) (compEnvC scope cl C0 X.env)) (compPost (model X.prog X.w) X.A X.xe use Qf (.ref D0) C0) { sc with heap := pushCells (sc.heap.push newD) scope.names }
  generalize ee : compEnvC scope cl C0 X.env = ce at Id pg pt pk pv ⊢
  have cL : ce.locals = C0 := by subst ee; rfl
  generalize eH : upd Hb D0 o0 = Hc at Ic Id pg pt pk pv y0 nfp fc
  generalize ed : ({ sc with heap := pushCells (sc.heap.push newD) scope.names } : Shared) = sd at Id ⊢
  have std : tn 0 sd.heap := T.keep _ _ _ stc fun b _ o e => by rw [← ed]; exact pushCells_keeps _ _ _ _ (Heap.get?_push_of_some _ e)
  have hold : ∀ {σ' : L2.St} {H' : Hp} {s' : Shared}, Inv (X.blk sc Hc scope ce fp) [] σ' H' s' → (∀ b ∈ fp, H' b = none) → ∀ b ∈ fp, FpOk (X.blk sc Hc scope ce fp) [] H' b := fun {σ' H' s'} I' hn b hb =>
    ⟨hn b hb, (I'.ok.exf b hb).1, I'.ok.exfs b hb, .inl hb, fun x c e => (I'.ok.exf b hb).2 x c e, fun p hp => absurd (show p ∈ ([] : List (Addr × Obj)) ++ [] from hp) (by simp)⟩
  have loop : codeAny (model X.prog X.w) X.A (.compLoop (.DictComp kx vx [⟨tg, iter, ifs, 0⟩] scope pos) 0 (.ref it) (.ref D0) ce) (compPost (model X.prog X.w) X.A X.xe use Qf (.ref D0) C0) sd := by
    refine compLoop_anyD (fun n s' => ∃ i H', Inv (X.blk sc Hc scope ce fp) [] (wipe σ (own.map (·.2))) H' s' ∧ tn i s'.heap ∧ (∀ b ∈ fp, H' b = none) ∧ Y i n H') ?_ m0 ⟨0, Hc, Id, std, nfp, y0⟩
    rintro n s5 ⟨i, H5, I5, st5, n5, y5⟩
    rcases turn i n H5 y5 with ⟨stop, done⟩ | ⟨go, Nx, hNx, step⟩
    · refine thnF (T.done (X.blk sc Hc scope ce fp) rfl rfl rfl hc i [] s5 _ H5 (fun _ _ => False) I5 (hold I5 n5) st5 stop) fun r s6 ⟨hr, I6⟩ => ?_
      subst hr
      have I7 : Inv X pins σ H5 s6 := Ic.call' (ch := fp) I6.os I6.base I6.hok I6.bare fun b hb => let z := (fc b hb).1.2; ⟨z.2.2.1, z.1, z.2.2.2.1, z.2.2.2.2⟩
      have nC : H5 C0 = none := by rw [← cL]; exact I6.free
      obtain ⟨m, hn, _⟩ := I6.loc
      have hn : s6.heap.Ns ce.locals m := hn
      rw [cL] at hn
      exact fin D0 C0 s6 m H5 I7 done hn (Ic.fpOk (Nat.le_of_eq eC) nC)
    · refine thnF (T.item (X.blk sc Hc scope ce fp) rfl rfl rfl hc i [] s5 _ H5 (fun _ _ => False) I5 (hold I5 n5) st5 go) fun r s6 ⟨u, hr, h6⟩ => ?_
      subst hr
      refine thnF h6 fun _ s7 ⟨x, H7, I7, r7, yl, st7, n7⟩ => thnF (pg.run _ s7 _ H7 x u _ (I7.pinned (hold I7 n7) (T.obj _ _ st7)) r7 (step x H7 yl)) fun _ s8 ⟨σ8, H8, I8, hw, q8⟩ => thnF (pt.run _ s8 σ8 H8 _ I8 q8) fun b s9 ⟨H9, I9, q9⟩ => ?_
      have next : ∀ {s' : Shared} {H' : Hp}, Inv (X.blk sc Hc scope ce fp) ([] ++ pinsAt fp s7.heap) σ8 H' s' → Nx H' → ∃ m, m < n ∧ ∃ i H', Inv (X.blk sc Hc scope ce fp) [] (wipe σ (own.map (·.2))) H' s' ∧ tn i s'.heap ∧ (∀ b ∈ fp, H' b = none) ∧ Y i m H' := fun {s' H'} I' nx => by
        obtain ⟨m', hm, w'⟩ := hNx H' nx
        have pin : ∀ b ∈ fp, ∀ o, s7.heap.get? b = some o → s'.heap.get? b = some o ∧ H' b = none := fun b hb o e => let z := I'.pin (b, o) (List.mem_append_right _ (List.mem_append_right _ (mem_pinsAt hb e))); ⟨z.1, z.2.1⟩
        refine ⟨m', hm, i + 1, H', (I'.unpinned (pins := [])).weak (by rw [← hw, wipe_length]) (fun j v e => by rw [← hw] at e; exact (wipe_some e).1), T.keep _ _ _ st7 fun b hb o e => (pin b hb o e).1, fun b hb => ?_, w'⟩
        obtain ⟨o, e, _⟩ := T.obj _ _ st7 b hb
        exact (pin b hb o e).2
      cases b with
      | false =>
        rw [if_neg Bool.false_ne_true] at q9 ⊢
        exact next I9 q9
      | true =>
        simp only [if_true] at q9 ⊢
        refine thnF (pk.run _ s9 σ8 H9 _ I9 q9) fun z s10 ⟨yk, H10, I10, r10, q10⟩ => thnF (pv.run _ s10 σ8 H10 _ I10 q10) fun z2 s11 ⟨yv, H11, I11, r11, H12, dp, nx⟩ => ?_
        exact d_setG (X := X.blk sc Hc scope ce fp) hu I11 dp r10 r11 fun s12 I12 => next I12 nx
  exact codeAny_compStart_dict loop (T.self X.A 0 _ _ _ std loop)
theorem pe_dcG {o0 : HO} {kx vx tg iter : Expr} {ifs : List Expr} {scope : Scope} {own : List (Str × Nat)} {pos : Pos} {wi : TI} {g : TG} {tt : TT} {tk tv : TE}
    (new : ∀ (H : Hp) (h : Heap), sysModules < h.objs.size → ObjOk X.prog X.w H (h.push newD) h.objs.size o0) (hu : X.A.units + 1 < cLine)
    (hc : X.calm = true) (hN : X.N.Nodup) (hi : L2.PI X tg iter wi) (ok : BlkOk X.N X.env.scope scope own) (hg : InB X scope fun B => PG B tg g) (ht : InB X scope fun B => PTs B ifs tt)
    (hk : InB X scope fun B => PE B kx tk) (he : InB X scope fun B => PE B vx tv) (hs : ∀ x, foldedSetIterable iter X.env x = pure x) : PE X (.DictComp kx vx [⟨tg, iter, ifs, 0⟩] scope pos) (tDcG o0 wi g tt tk tv (own.map (·.2))) := by
  refine ⟨fun pins s σ H Q I h => ?_⟩
  rw [arm_eval_DictComp]
  refine dcG_run new hu hc hN I hi ok hg ht hk he hs h fun D0 C s' m H' I' q hn f => ⟨m, hn, fun h'' sb => ?_⟩
  exact ⟨.ref D0, H', I'.turned (t' := s'.toks) (fun b o hb e => (sb.2 b hb).trans e) f.1 f.2.1 f.2.2.2.1 f.2.2.2.2.1 f.2.2.2.2.2, rfl, q⟩
end
end Me

/-! Me15: dict comprehensions in continuation form. -/
namespace Me
open PySem PySem.Spec PyProof.Rows L2
def emptyO : Bool → HO
  | false => .dK []
  | true => .dT []
theorem empty_ok {P : Program} {w : World} (t : Bool) (H : Hp) (h : Heap) (hb : sysModules < h.objs.size) : ObjOk P w H (h.push newD) h.objs.size (emptyO t) := by
  cases t with
  | false => exact dk_empty h hb
  | true => exact dt_empty h hb
theorem putD_len (kvs : List (DK × D)) (k : DK) (d : D) : (putD kvs k d).length ≤ kvs.length + 1 := by
  unfold putD
  split
  · rw [List.length_map]; omega
  · rw [List.length_append]; exact Nat.le_refl _
/-- an open dict at a place -/
def DctO (Γ : Gam) (F H : Hp) (as : List Ad) (a : Addr) : Bool → List (DK × D) → Prop
  | false, kvs => ∃ vs, H a = some (.dK vs) ∧ DKs Γ F as vs kvs
  | true, kvs => ∃ vs, H a = some (.dT vs) ∧ DTs Γ F as vs kvs
section
variable {Γ : Gam} {F H F' H' : Hp} {as as' : List Ad} {a : Addr} {t : Bool} {kvs : List (DK × D)}
theorem DctO.apart (h : DctO Γ F H as a t kvs) (g : Go F H as F' H' as') (nF : F a = none) (na : a ∉ ads as) : DctO Γ F' H' as' a t kvs ∧ F' a = none ∧ a ∉ ads as' := by
  cases t with
  | false =>
    obtain ⟨vs, h1, h2⟩ := h
    obtain ⟨q1, q2, q3⟩ := g.apart h1 (fun xs z => nomatch z) nF na
    exact ⟨⟨vs, q1, h2.mono g⟩, q2, q3⟩
  | true =>
    obtain ⟨vs, h1, h2⟩ := h
    obtain ⟨q1, q2, q3⟩ := g.apart h1 (fun xs z => nomatch z) nF na
    exact ⟨⟨vs, q1, h2.mono g⟩, q2, q3⟩
theorem DctO.put {y v : V} {dk d : D} {k : DK} (h : DctO Γ F H as a t kvs) (s : Same F H) (r : DV Γ F as y dk) (hk : asDK t dk = some k) (rv : DV Γ F as v d) (hz : kvs.length < sizeLine) : ∃ o, DPut H a y v (upd H a o) ∧ DctO Γ F (upd H a o) as a t (putD kvs k d) := by
  cases t with
  | false =>
    obtain ⟨vs, h1, h2⟩ := h
    obtain ⟨x, rfl, e⟩ := asDK_k hk
    rw [r.key e]
    exact ⟨_, DPut.k h1 (by rw [h2.length]; exact hz), _, upd_same, h2.put x rv⟩
  | true =>
    obtain ⟨vs, h1, h2⟩ := h
    obtain ⟨x, rfl⟩ := asDK_t hk
    obtain ⟨b, rfl, e⟩ := r.keyT hk
    exact ⟨_, DPut.t h1 (s _ _ e) (by rw [h2.length]; exact hz), _, upd_same, h2.put x rv⟩
theorem DctO.cell {μ : Mu} (h : DctO Γ F H as a t kvs) (W : Wd Γ F (era H a) as μ) (nF : F a = none) : Wd Γ F H (as ++ [⟨a, none⟩]) (μ ++ [.dct t none kvs]) ∧ Go F (era H a) as F H (as ++ [⟨a, none⟩]) := by
  have kp : ∀ js, Kp as (as ++ [⟨a, none⟩]) js := fun js i hi ad e => by rw [List.getElem?_append_left (List.getElem?_eq_some_iff.mp e).1]; exact e
  cases t with
  | false =>
    obtain ⟨vs, h1, h2⟩ := h
    have z := W.addO (o := .dK vs) (c := .dct false none kvs) era_same fun nF => ⟨nF, vs, upd_same, h2.to (Same.refl F) (kp _)⟩
    rw [era_upd h1] at z
    exact z
  | true =>
    obtain ⟨vs, h1, h2⟩ := h
    have z := W.addO (o := .dT vs) (c := .dct true none kvs) era_same fun nF => ⟨nF, vs, upd_same, h2.to (Same.refl F) (kp _)⟩
    rw [era_upd h1] at z
    exact z
end
section
variable {S : Sc} {env : En} {μ : Mu} {kx vx tg iter : Expr} {ifs : List Expr} {pos p0 p1 p2 : Pos} {x y : Str} {scope : Scope} {P : KD} {t : Bool}
structure CompD (S : Sc) (scope : Scope) (rel : D → En → En → Prop) (vs : List Nat) (kx vx : Expr) (ifs : List Expr) (env : En) (t : Bool) (I : Nat → List (DK × D) → Mu → Prop) (ds : List D) (Sx : Mu → Prop) (μ1 : Mu) (fin : List (DK × D) → Mu → Prop) : Prop where
  size : ds.length ≤ sizeLine
  start : I 0 [] μ1
  stay : ∀ k acc μ, I k acc μ → Sx μ
  turn : ∀ k d acc m, ds[k]? = some d → I k acc m → ∃ env2 PB, rel d (wipeE env vs) env2 ∧ AllB S scope (fun S' => Ts S' ifs env2 m PB) ∧
    ∀ q m1, PB q m1 → (q = true → ∃ PK, AllB S scope (fun S' => E S' kx env2 m1 PK) ∧ ∀ dk m2, PK dk m2 → ∃ key, asDK t dk = some key ∧ AllB S scope fun S' => E S' vx env2 m2 fun d' m3 => I (k + 1) (putD acc key d') m3) ∧ (q = false → I (k + 1) acc m1)
  done : ∀ acc m, I ds.length acc m → fin acc m
theorem e_dcG {rel : D → En → En → Prop} (t : Bool) (own : List (Str × Nat)) (hc : S.X.calm = true) (ok : BlkOk S.X.N S.X.env.scope scope own) (hg : AllB S scope fun S' => Tg S' tg rel (own.map fun x : Str × Nat => x.2))
    (h : Iter S tg iter env μ fun ds Sx μ1 => ∃ I, CompD S scope rel (own.map fun x : Str × Nat => x.2) kx vx ifs env t I ds Sx μ1 fun acc m => P (.cell m.length) (m ++ [.dct t none acc])) (hf : ∀ x, foldedSetIterable iter S.X.env x = pure x := by intro _; rfl) :
    E S (.DictComp kx vx [⟨tg, iter, ifs, 0⟩] scope pos) env μ P := by
  refine PE.imp (pe_dcG (o0 := emptyO t) (own := own) (g := rdG S rel (own.map fun x : Str × Nat => x.2)) (tt := rdTT S scope ifs) (tk := rdEE S scope kx) (tv := rdEE S scope vx) (empty_ok t) (by have := S.hu; omega) hc S.hN h ok hg pts_all pe_all pe_all hf) fun σ H Q ⟨F, as, a, k⟩ => ?_
  generalize (own.map fun x : Str × Nat => x.2) = vs at *
  refine ⟨F, as, a, fun ds Sx μ1 J F1 H1 as1 ⟨I, L⟩ g1 W1 ⟨G, Y, w, hG, hY⟩ D0 nD => ?_⟩
  refine ⟨fun n mm H2 => mm = ds.length - n ∧ n ≤ ds.length ∧ ∃ acc m F2 as2, I n acc m ∧ acc.length ≤ n ∧ Wd S.Γ F2 H2 as2 m ∧ Go F1 H1 as1 F2 H2 as2 ∧ DctO S.Γ F2 H2 as2 D0 t acc ∧ F2 D0 = none ∧ D0 ∉ ads as2, ?_, ?_⟩
  · obtain ⟨f1, f2⟩ := W1.nofree nD
    refine ⟨_, rfl, Nat.zero_le _, [], μ1, F1, as1, L.start, Nat.le_refl _, W1.off f1 f2, (Go.refl _ _ _).off nD, ?_, f1, f2⟩
    cases t with
    | false => exact ⟨[], upd_same, .nil⟩
    | true => exact ⟨[], upd_same, .nil⟩
  rintro n mm H2 ⟨rfl, hn, acc, m, F2, as2, i2, l2, W2, g2, dc, nF, na⟩
  have gg := hG F2 H2 as2 m g2 W2 (L.stay n acc m i2)
  by_cases hlt : n < ds.length
  · refine .inr ⟨w.goes n H2 hlt gg, fun H' => n + 1 ≤ ds.length ∧ ∃ acc m F2 as2, I (n + 1) acc m ∧ acc.length ≤ n + 1 ∧ Wd S.Γ F2 H' as2 m ∧ Go F1 H1 as1 F2 H' as2 ∧ DctO S.Γ F2 H' as2 D0 t acc ∧ F2 D0 = none ∧ D0 ∉ ads as2, fun H' z => ⟨ds.length - (n + 1), by omega, rfl, z.1, z.2⟩, fun v H' y => ?_⟩
    obtain ⟨F3, d, hd1, g3, W3, dvd⟩ := hY n F2 H2 as2 m v H' g2 W2 (L.stay n acc m i2) (w.yields n H2 v H' hlt gg y) hlt
    obtain ⟨dc3, nF3, na3⟩ := dc.apart g3 nF na
    obtain ⟨env2, PB, r2, ht, hh⟩ := L.turn n d acc m hd1 i2
    refine ⟨d, wipeE env vs, env2, F3, as2, r2, dvd, W3.sub, (((a.e.mono g1).mono g2).mono g3).wipe vs, fun σ2 e2 hw => ⟨by rw [hw, wipe_wipe], env2, m, PB, F3, as2, ht, e2, W3, fun q m1 F4 H4 as4 p4 g4 W4 => ?_⟩⟩
    obtain ⟨dc4, nF4, na4⟩ := dc3.apart g4 nF3 na3
    obtain ⟨hT, hF⟩ := hh q m1 p4
    cases q with
    | true =>
      obtain ⟨PK, hk, hkv⟩ := hT rfl
      refine ⟨env2, m1, PK, F4, as4, hk, e2.mono g4, W4, fun dk m2 u F5 H5 as5 p5 g5 W5 r5 => ?_⟩
      obtain ⟨dc5, nF5, na5⟩ := dc4.apart g5 nF4 na4
      obtain ⟨key, ek, hv⟩ := hkv dk m2 p5
      refine ⟨env2, m2, _, F5, as5, hv, (e2.mono g4).mono g5, W5, fun d' m3 u2 F6 H6 as6 i3 g6 W6 r6 => ?_⟩
      obtain ⟨dc6, nF6, na6⟩ := dc5.apart g6 nF5 na5
      obtain ⟨o, dp, dc7⟩ := dc6.put W6.sub (r5.mono g6) ek r6 (by have := L.size; omega)
      refine ⟨_, dp, hlt, putD acc key d', m3, F6, as6, i3, ?_, W6.off nF6 na6, ((((g2.trans g3).trans g4).trans g5).trans g6).off nD, dc7, nF6, na6⟩
      have := putD_len acc key d'
      omega
    | false => exact ⟨hlt, acc, m1, F4, as4, hF rfl, by omega, W4, (g2.trans g3).trans g4, dc4, nF4, na4⟩
  · have e : n = ds.length := by omega
    subst e
    refine .inl ⟨w.stops H2 gg, ?_⟩
    obtain ⟨W5, g5⟩ := dc.cell (W2.era nF na) nF
    exact k _ _ _ _ _ _ (L.done acc m i2) ((g1.trans (g2.era nD)).trans g5) W5 (.cell (ad := ⟨D0, none⟩) ((W2.era nF na).last _))
theorem e_dc (t : Bool) (i : Nat) (hc : S.X.calm = true) (ok : BlkOk S.X.N S.X.env.scope scope [(x, i)])
    (h : Iter S (.Name x p1) iter env μ fun ds Sx μ1 => ∃ I, CompD S scope (rName i) [i] kx vx ifs env t I ds Sx μ1 fun acc m => P (.cell m.length) (m ++ [.dct t none acc]))
    (hn : S.X.N[i]? = some x := by rfl) (hx : NameOk S scope x := by exact fun _ _ _ _ _ => ⟨by first | exact .inl rfl | exact .inr rfl, by first | exact .inl rfl | exact .inr rfl⟩)
    (hf : ∀ x, foldedSetIterable iter S.X.env x = pure x := by intro _; rfl) : E S (.DictComp kx vx [⟨.Name x p1, iter, ifs, 0⟩] scope pos) env μ P :=
  e_dcG (rel := rName i) t [(x, i)] hc ok (fun s H C cl fp => g_name (S := Blk S scope s H C cl fp) i hn (hx s H C cl fp).1 (hx s H C cl fp).2) h hf
/-- a comprehension that changes nothing -/
theorem CompD.pure {rel : D → En → En → Prop} {vs : List Nat} {ds : List D} {Sx : Mu → Prop} {μ1 : Mu} {fin : List (DK × D) → Mu → Prop} (g : D → Option (DK × D)) (size : ds.length ≤ sizeLine) (stay : Sx μ1)
    (turn : ∀ (k : Nat) d, ds[k]? = some d → ∃ env2 q, rel d (wipeE env vs) env2 ∧ AllB S scope (fun S' => Ts S' ifs env2 μ1 fun b m => b = q ∧ m = μ1) ∧
      (q = true → ∃ dk key d', g d = some (key, d') ∧ asDK t dk = some key ∧ AllB S scope (fun S' => E S' kx env2 μ1 fun x m => x = dk ∧ m = μ1) ∧ AllB S scope fun S' => E S' vx env2 μ1 fun x m => x = d' ∧ m = μ1) ∧ (q = false → g d = none))
    (done : fin ((ds.filterMap g).foldl (fun acc p => putD acc p.1 p.2) []) μ1) : ∃ I, CompD S scope rel vs kx vx ifs env t I ds Sx μ1 fin := by
  refine ⟨fun k acc m => m = μ1 ∧ acc = ((ds.take k).filterMap g).foldl (fun acc p => putD acc p.1 p.2) [], size, ⟨rfl, rfl⟩, fun k acc m ⟨e, _⟩ => e ▸ stay, fun k d acc m hd ⟨e1, e2⟩ => ?_, fun acc m ⟨e1, e2⟩ => ?_⟩
  · subst e1 e2
    obtain ⟨env2, q, h1, h2, h3, h4⟩ := turn k d hd
    refine ⟨env2, _, h1, h2, fun b m1 ⟨e1, e2⟩ => ?_⟩
    subst e1 e2
    refine ⟨fun z => ?_, fun z => ⟨rfl, ?_⟩⟩
    · obtain ⟨dk, key, d', e, ek, hk, hv⟩ := h3 z
      refine ⟨_, hk, fun dk2 m2 ⟨q1, q2⟩ => ?_⟩
      subst q1 q2
      refine ⟨key, ek, fun s H C cl fp => (hv s H C cl fp).imp fun x m ⟨e1, e2⟩ => ⟨e2, ?_⟩⟩
      rw [take_snoc hd, List.filterMap_append, List.foldl_append, e1]
      simp [e]
    · rw [take_snoc hd, List.filterMap_append, List.foldl_append]
      simp [h4 z]
  · rw [e1, e2, List.take_length]
    exact done
end
end Me

/-! Me16: sorted. -/
namespace Me
open PySem PySem.Spec PyProof.Rows L2
theorem each_vals {Γ : Gam} {F : Hp} {as : List Ad} : ∀ {vs : List V} {ds : List D} {us : List Value}, DVs Γ F as vs ds → Vals vs us → PySem.W.EachIs (fun u d => ∃ v, RelV v u ∧ DV Γ F as v d) us ds
  | _, _, _, .nil, .nil => .nil
  | _, _, _, .cons h t, .cons r rs => .cons ⟨_, r, h⟩ (each_vals t rs)
theorem each_out {Γ : Gam} {F : Hp} {as : List Ad} : ∀ {us : List Value} {ds : List D}, PySem.W.EachIs (fun u d => ∃ v, RelV v u ∧ DV Γ F as v d) us ds → ∃ vs, Vals vs us ∧ DVs Γ F as vs ds
  | _, _, .nil => ⟨[], .nil, .nil⟩
  | _, _, .cons ⟨v, r, h⟩ t => let ⟨vs, h1, h2⟩ := each_out t; ⟨v :: vs, .cons r h1, .cons h h2⟩
/-- what can be sorted -/
structure SrtOk (ds : List D) : Prop where
  py : D.isPys ds = true
  nd : PyData.hasDictAll (D.pys ds) = false
  al : PySem.W.AllAlike (ds.map D.py)
  so : PySem.W.Sortable (ds.map D.py)
  sz : ds.length ≤ sizeLine
  dp : ∀ d ∈ ds, d.py.depth ≤ 60
abbrev srt (ds : List D) : List D := ds.mergeSort (PySem.W.dataLe false D.py)
section
variable {X : Cx} {pins : List (Addr × Obj)} {s : Shared} {σ : L2.St} {H F : Hp} {as : List Ad} {Γ : Gam}
theorem sorted_run {u : Value} {vs : List V} {ds : List D} {Q : VK} (ok : SrtOk ds) (sF : Same F H) (dv : DVs Γ F as vs ds) (hu : X.A.units + 70 < cLine)
    (col : ∀ {R : List Value → Shared → Prop} {E : Value → Shared → Prop}, (∀ us s1, Inv X pins σ H s1 → Vals vs us → R us s1) → wpAny (model X.prog X.w) X.A.in1 (collect u) R E s)
    (q : ∀ p ws, H p = none → DVs Γ F as ws (srt ds) → Q (.ref p) (upd H p (.lst ws))) : wpAny (model X.prog X.w) X.A (call (.builtin "sorted") [u]) (EP X pins σ Q) X.xe s := by
  refine Calls.call_function_entry kind_sorted plain_sorted entry_sorted (args_sorted1 _) ?_
  unfold Builtin.«sorted»
  refine wpAny_bind (m := checkCount "sorted" 1 1 _) (wpAny_pure (wpAny_bind (col fun us s1 I1 rv => ?_)))
  have hl : us.length = ds.length := by rw [← rv.length, dv.length]
  refine wpAny_bind (wpAny_newList ?_ (by rw [hl]; exact ok.sz))
  generalize ea : s1.heap.objs.size = a
  generalize eh : s1.heap.push (seqObj "list" us.toArray 0) = h2
  have ho : h2.get? a = some (seqObj "list" us.toArray 0) := by rw [← eh, ← ea]; exact Heap.get?_push_size _ rfl
  have old : ∀ b o, s1.heap.get? b = some o → h2.get? b = some o := fun b o e => by rw [← eh]; exact Heap.get?_push_of_some _ e
  have nea : ∀ b o, s1.heap.get? b = some o → b ≠ a := fun b o e => by rw [← ea]; exact Nat.ne_of_lt (Heap.lt_size e)
  obtain ⟨ar, rd⟩ := Dp.readsAll I1 _ _ _ (DVs.dpn X.K sF dv ok.py ok.nd) rv
  rw [pys_map] at rd
  have er : PySem.W.EachIs (fun v d => ∃ as, Reads (PySem.W.sortingHeap h2 a us) v (D.py d) as) us ds :=
    PySem.W.readsAll_each D.py (PyProof.Rows.ReadsAll.keeps (fun b o e => PySem.W.sortingHeap_old (nea b o e) (old b o e)) rd)
  have ee := each_vals dv rv
  refine wpAny_bind (wpAny_holding (wpAny_call_entry slot_list_sort ⟨_, ho, rfl⟩ entry_list_sort ?_ (args_list_sort _)))
  show wpAny (model X.prog X.w) X.A.in1.in1 (Builtin.«list.sort» ⟨[.ref a], []⟩) _ _ ({ s1 with heap := h2 } : Shared)
  refine PySem.W.list_sort_vals (κ := PySem.W.dataKind (PySem.W.sortingHeap h2 a us) (ds.map D.py)) (s := { s1 with heap := h2 }) ho
    (PySem.W.SortsAt.data (s := { s1 with heap := PySem.W.sortingHeap h2 a us }) (PySem.W.each_map (R := fun v d => ∃ as, Reads (PySem.W.sortingHeap h2 a us) v d as) D.py er) ok.al ok.so fun d hd => ?_) (by rw [hl]; exact ok.sz) ⟨.none, rfl, ?_⟩
  · obtain ⟨b, hb, rfl⟩ := List.mem_map.mp hd
    have := ok.dp b hb
    show X.A.units + 1 + 1 + _ < cLine
    omega
  · obtain ⟨ws, w1, w2⟩ := each_out (PySem.W.sortVals_data false ee er ok.al)
    obtain ⟨c, hc⟩ := sortedHeap_at (vs := us) (out := (PySem.W.sortVals (PySem.W.dataKind (PySem.W.sortingHeap h2 a us) (ds.map D.py)) false us us).toArray) ho
    have hsz : h2.objs.size = a + 1 := by rw [← eh, ← ea, size_push']
    refine wpAny_pure ⟨_, rfl, .ref a, upd H a (.lst ws), I1.laid (t' := s1.toks) (fun b o e => ?_) (Nat.le_of_eq ea) ⟨?_, _, c, w1, hc⟩, rfl, q a ws (I1.hok.fresh (Nat.le_of_eq ea)) w2⟩
    · rw [sortedHeap_old (nea b o e) (Heap.lt_size (old b o e))]
      exact old b o e
    · rw [w2.length, List.length_mergeSort]
      exact ok.sz
theorem col_lst {a : Addr} {vs : List V} (I : Inv X pins σ H s) (h : SqL X.K H a vs) {R : List Value → Shared → Prop} {E : Value → Shared → Prop} (k : ∀ us s1, Inv X pins σ H s1 → Vals vs us → R us s1) : wpAny (model X.prog X.w) X.A.in1 (collect (.ref a)) R E s := by
  obtain ⟨its, rv, hl, hz⟩ := I.list h
  refine collect_list hl.isList (k its _ (I.kept (t' := s.toks) fun b o e => ?_) rv) (by rw [← rv.length]; exact hz)
  rw [Heap.get?_update_ne _ _ _ _ (Nat.ne_of_lt (Heap.lt_size e))]
  exact Heap.get?_push_of_some _ e
theorem col_tup {a : Addr} {vs : List V} (I : Inv X pins σ H s) (h : SqT X.K H a vs) {R : List Value → Shared → Prop} {E : Value → Shared → Prop} (k : ∀ us s1, Inv X pins σ H s1 → Vals vs us → R us s1) : wpAny (model X.prog X.w) X.A.in1 (collect (.ref a)) R E s := by
  obtain ⟨its, rv, ⟨o, ho, hc, n, hd⟩, hz⟩ := I.tuple h
  refine wpAny_collect_seq a (.inr rfl) ho hc hd (fun h' hk => ?_) (by rw [List.size_toArray, ← rv.length]; exact hz)
  rw [show its.toArray.toList = its by simp]
  exact k its _ (I.kept (t' := s.toks) hk) rv
theorem col_dT {d : Addr} {kvs : List (List Key × V)} (hc : X.calm = true) (I : Inv X pins σ H s) (hd : Rd H d (.dT kvs)) :
    ∃ bs, IsKeys H kvs bs ∧ ∀ {R : List Value → Shared → Prop} {E : Value → Shared → Prop}, (∀ us s1, Inv X pins σ H s1 → Vals (bs.map V.ref) us → R us s1) → wpAny (model X.prog X.w) X.A.in1 (collect (.ref d)) R E s := by
  obtain ⟨z, hs, ks, pr, o, es, ep, ho, hx, hdt, he, hn⟩ := (show ObjOk X.prog X.w H s.heap d (.dT kvs) from hd.ok I.hok)
  have l1 : es.size = ks.length := size_of_entries he
  have l2 : kvs.length = ks.length := Paired.length pr
  refine ⟨ks.map fun x => x.2.1, isKeys_of pr, fun {R E} k => PySem.W.kdu_collect (A := X.A.in1) (kdl_raw hs hx hdt) (I.ok.hd hc) ho (by omega) fun h' tk acc hk it => k _ _ (I.kept hk) ?_⟩
  have ea : acc.toList = (ks.map fun x => x.2.1).map Value.ref := by
    rw [List.map_map]
    refine List.ext_getElem? fun j => ?_
    rw [List.getElem?_map]
    have hla : acc.toList.length = ks.length := by rw [Array.length_toList, it.1]; exact l1
    cases hj : acc.toList[j]? with
    | none => rw [List.getElem?_eq_none (by have := List.getElem?_eq_none_iff.mp hj; omega)]; rfl
    | some v =>
      obtain ⟨en, hen, hv⟩ := it.2 j v (by rw [← Array.getElem?_toList]; exact hj)
      have qe := entry_at he j
      rw [hen] at qe
      cases hb : ks[j]? with
      | none => rw [hb] at qe; exact nomatch (show some en = none from qe)
      | some b =>
        rw [hb] at qe
        have e2 : en = entryOfKey (tupleKind (mixKind X.prog X.w)) b := Option.some.inj qe
        rw [hv, e2]
        rfl
  rw [ea]
  exact vals_refs _
end
section
variable {S : Sc} {env : En} {μ : Mu} {d : D} {ds : List D} {P : KD} {kvs : List (DK × D)}
theorem c_sortedL (h1 : vw μ d = .lst ds) (ok : SrtOk ds) (k : Nl P (srt ds) μ) : Cl S (.builtin "sorted") [d] env μ P := by
  intro pins s σ H xs us Q F as I rx a r kk
  obtain ⟨x, rfl, rr⟩ := dvs1 r
  obtain ⟨p, vs, rfl, hp, dv⟩ := a.w.lst rr h1
  obtain ⟨u, rfl, e⟩ := vals1 rx
  cases e
  exact sorted_run ok a.w.sub dv S.hu (fun k => col_lst I (.inl (.inl hp)) k) fun p ws n dw => kk.new a.w n k dw
theorem c_sortedT (ok : SrtOk ds) (k : Nl P (srt ds) μ) : Cl S (.builtin "sorted") [.tup ds] env μ P := by
  intro pins s σ H xs us Q F as I rx a r kk
  obtain ⟨x, rfl, rr⟩ := dvs1 r
  obtain ⟨p, vs, rfl, hp, dv⟩ := rr.tupV
  obtain ⟨u, rfl, e⟩ := vals1 rx
  cases e
  exact sorted_run ok a.w.sub dv S.hu (fun k => col_tup I (.inl (.inl (a.w.sub _ _ hp))) k) fun p ws n dw => kk.new a.w n k dw
/-- the keys of a dict by names become known -/
theorem adoptKeys {Γ : Gam} {F H : Hp} {as : List Ad} : ∀ {vs : List (List Key × V)} {kvs : List (DK × D)} {bs : List Addr}, Wd Γ F H as μ → DTs Γ F as vs kvs → IsKeys H vs bs → ∃ F', Wd Γ F' H as μ ∧ Go F H as F' H as ∧ DVs Γ F' as (bs.map V.ref) (kvs.map fun p => dkD p.1)
  | _, _, _, W, .nil, .nil => ⟨F, W, Go.refl _ _ _, .nil⟩
  | _, _, _, W, .cons (k := k) (vs := vs) (ds := kvs) h t, .cons e es => by
    obtain ⟨F1, e1, W1, g1⟩ := W.adopt e
    obtain ⟨F2, W2, g2, r2⟩ := adoptKeys W1 (t.mono g1) es
    exact ⟨F2, W2, g1.trans g2, .cons (.tup (g2.sub _ _ e1) (DVs.ofKeys k)) r2⟩
theorem c_sortedDT (h1 : vw μ d = .dct true kvs) (hc : S.X.calm = true) (ok : SrtOk (kvs.map fun p => dkD p.1)) (k : Nl P (srt (kvs.map fun p => dkD p.1)) μ) : Cl S (.builtin "sorted") [d] env μ P := by
  intro pins s σ H xs us Q F as I rx a r kk
  obtain ⟨x, rfl, rr⟩ := dvs1 r
  obtain ⟨p, rfl, vs, hr, dv⟩ := a.w.dct rr h1
  obtain ⟨u, rfl, e⟩ := vals1 rx
  cases e
  obtain ⟨bs, hk, col⟩ := col_dT hc I hr
  obtain ⟨F2, W2, g2, dv2⟩ := adoptKeys a.w dv hk
  exact sorted_run ok W2.sub dv2 S.hu (fun k => col k) fun p ws n dw => (kk.go g2).new W2 n k dw
theorem c_lstDT (h1 : vw μ d = .dct true kvs) (hc : S.X.calm = true) (k : Nl P (kvs.map fun p => dkD p.1) μ) : Cl S (.type "list") [d] env μ P := by
  refine Cl.of (call_list_dT hc) fun F H as xs Q W r kk => ?_
  obtain ⟨x, rfl, rr⟩ := dvs1 r
  obtain ⟨p, rfl, vs, hr, dv⟩ := W.dct rr h1
  refine ⟨p, vs, rfl, hr, fun q bs n hk => ?_⟩
  obtain ⟨F2, W2, g2, dv2⟩ := adoptKeys W dv hk
  exact (kk.go g2).new W2 n k dv2
end
end Me

/-! Me17: dict(pairs). -/
namespace Me
open PySem PySem.Spec PyProof.Rows L2
section
variable {X : Cx} {pins : List (Addr × Obj)} {σ : L2.St} {H : Hp} {s : Shared}
structure PrT where
  k : List Key
  b : Addr
  v : V
theorem pairs_T (I : Inv X pins σ H s) : ∀ {ps : List Addr} {ts : List PrT}, Paired (fun p t => SqT X.K H p [V.ref t.b, t.v] ∧ H t.b = some (.tup (t.k.map kV))) ps ts →
    ∃ prs : List (List Key × Addr × Value), Paired (fun t x => x.1 = t.k ∧ x.2.1 = t.b ∧ RelV t.v x.2.2 ∧ H t.b = some (.tup (t.k.map kV))) ts prs ∧ prs.length = ps.length ∧
      ∀ (j : Nat) (x : List Key × Addr × Value), prs[j]? = some x → ∃ p, ps[j]? = some p ∧ IsTup s.heap p #[.ref x.2.1, x.2.2]
  | _, _, .nil => ⟨[], .nil, rfl, fun j q e => by simp at e⟩
  | _, _, .cons (a := p) (b := t0) ⟨h, hk⟩ t => by
    obtain ⟨prs, r, hl, hp⟩ := pairs_T I t
    obtain ⟨its, rv, ht, _⟩ := I.tuple h
    obtain ⟨u, y, ei, ru, ry⟩ := vals2 rv
    subst ei
    cases (show u = Value.ref t0.b from ru)
    refine ⟨(t0.k, t0.b, y) :: prs, .cons ⟨rfl, rfl, ry, hk⟩ r, by rw [List.length_cons, List.length_cons, hl], fun j x e => ?_⟩
    cases j with
    | zero =>
      obtain rfl := Option.some.inj e
      exact ⟨p, rfl, ht⟩
    | succ j => simpa using hp j x (by simpa using e)
theorem puts_KT {H : Hp} : ∀ {ts : List PrT} {prs : List (List Key × Addr × Value)} {kvs : List (List Key × V)} {xs : List (List Key × Addr × Value)}, Paired (fun t x => x.1 = t.k ∧ x.2.1 = t.b ∧ RelV t.v x.2.2 ∧ H t.b = some (.tup (t.k.map kV))) ts prs → KT H kvs xs →
    KT H (ts.foldl (fun acc t => putK acc t.k t.v) kvs) (storedAllH xs prs)
  | _, _, _, _, .nil, q => q
  | _, _, kvs, xs, .cons (a := t) (b := x) ⟨e1, e2, e3, e4⟩ r, q => by
    show KT H (List.foldl _ (putK kvs t.k t.v) _) (List.foldl _ (storedH xs x.1 x.2.1 x.2.2) _)
    refine puts_KT r ?_
    rw [e1, e2]
    exact q.put t.k e4 e3
theorem putsT_len : ∀ (ts : List PrT) (kvs : List (List Key × V)), (ts.foldl (fun acc t => putK acc t.k t.v) kvs).length ≤ kvs.length + ts.length
  | [], kvs => Nat.le_refl _
  | t :: ts, kvs => by
    have h1 := putsT_len ts (putK kvs t.k t.v)
    have h2 := length_putK kvs t.k t.v
    rw [List.length_cons]
    show (ts.foldl _ (putK kvs t.k t.v)).length ≤ _
    omega
theorem call_dictT (hc : X.calm = true) (hu : X.A.units + 70 < cLine) : CallR X (.type "dict") (fun xs H Q => ∃ (a : Addr) (ps : List Addr) (ts : List PrT), xs = [.ref a] ∧ SqL X.K H a (ps.map V.ref) ∧
    Paired (fun p t => SqT X.K H p [V.ref t.b, t.v] ∧ H t.b = some (.tup (t.k.map kV))) ps ts ∧ ∀ p, H p = none → Q (.ref p) (upd H p (.dT (ts.foldl (fun acc t => putK acc t.k t.v) [])))) := by
  intro pins s σ H xs us Q I r h
  obtain ⟨a, ps, ts, rfl, hq, hp, q⟩ := h
  obtain ⟨u, rfl, rx⟩ := vals1 r
  cases rx
  obtain ⟨its, rv, pl, hz⟩ := I.list hq
  obtain rfl := refs_at rv
  rw [List.length_map] at hz
  obtain ⟨prs, rel, hl, hpr⟩ := pairs_T I hp
  obtain ⟨o, n, ho, hcl, hd, hdat⟩ := pl
  have hlen2 : ts.length = prs.length := Paired.length rel
  have mem : ∀ {ts : List PrT} {prs : List (List Key × Addr × Value)}, Paired (fun t x => x.1 = t.k ∧ x.2.1 = t.b ∧ RelV t.v x.2.2 ∧ H t.b = some (.tup (t.k.map kV))) ts prs → ∀ x ∈ prs, H x.2.1 = some (.tup (x.1.map kV)) := by
    intro ts prs r
    induction r with
    | nil => intro x hx; exact nomatch hx
    | cons h t ih =>
      intro x hx
      obtain ⟨e1, e2, _, e4⟩ := h
      rcases List.mem_cons.mp hx with rfl | z
      · rw [e1, e2]; exact e4
      · exact ih x z
  refine call_dict_pairsH (knd := tupleKind (mixKind X.prog X.w)) (ps := prs) (PairArg.list a (ps.map Value.ref).toArray (fun j => (ps[j]?).getD 0) (prs.map fun x => (Value.ref x.2.1, x.2.2))) (I.ok.hd hc) (show X.A.units + 1 + 1 < cLine by omega)
    ⟨⟨o, n, ho, hcl, hd, hdat⟩, by simp [hl], fun j k v e => ?_⟩ ⟨by simp, fun i key v e => ?_⟩ (fun h' hk x hx => ?_) (by rw [List.length_map, hl]; exact hz) fun h' tk hd' hk => ?_
  · rw [List.getElem?_map] at e
    obtain ⟨x, hx, ex⟩ := Option.map_eq_some_iff.mp e
    obtain ⟨p, hp1, hp2⟩ := hpr j x hx
    injection ex with e1 e2
    subst e1 e2
    refine ⟨by simp [hp1], .inl ?_⟩
    simp only [hp1, Option.getD_some]
    exact hp2
  · have e' : (prs.map fun x => (Value.ref x.2.1, x.2.2))[i]? = some (key, v) := e
    rw [List.getElem?_map] at e'
    obtain ⟨x, hx, ex⟩ := Option.map_eq_some_iff.mp e'
    injection ex with e1 e2
    subst e1 e2
    exact ⟨x.1, x.2.1, hx, rfl⟩
  · obtain ⟨o, its, n, h1, h2⟩ := key_of I.hok (mem rel x hx)
    exact ⟨o, its, n, hk _ _ (Nat.ne_of_lt (Heap.lt_size h1)) (fun z => nomatch z) h1, h2⟩
  · have hm : (s.heap.objs.size == sysModules) = false := beq_eq_false_iff_ne.mpr (Nat.ne_of_gt I.big)
    have hn : H s.heap.objs.size = none := I.hok.fresh (Nat.le_refl _)
    have hll : (ts.foldl (fun acc t => putK acc t.k t.v) []).length ≤ sizeLine := by
      have := putsT_len ts []
      simp only [List.length_nil] at this
      omega
    obtain ⟨o2, es, ep, g1, g2, g3, g4, _, g5⟩ := hd'
    refine ⟨.ref s.heap.objs.size, upd H s.heap.objs.size (.dT (ts.foldl (fun acc t => putK acc t.k t.v) [])), I.laid (t' := tk) (fun b o e => hk b o (fun z => nomatch z) e) (Nat.le_refl _) ?_, rfl, q _ hn⟩
    exact ⟨hll, hm, _, (puts_KT rel Paired.nil).keeps fun b ys e => by rw [upd_ne (ne_of_none e hn)]; exact e, o2, es, ep, g1, g2, g3, g4, g5⟩
end
/-! ### at the values' level -/
def asPair (t : Bool) : D → Option (DK × D)
  | .tup [a, b] => (asDK t a).map fun k => (k, b)
  | _ => none
def putsD (kvs : List (DK × D)) (ps : List (DK × D)) : List (DK × D) := ps.foldl (fun acc p => putD acc p.1 p.2) kvs
theorem asPair_of {t : Bool} {d : D} {p : DK × D} (h : asPair t d = some p) : ∃ dk, d = .tup [dk, p.2] ∧ asDK t dk = some p.1 := by
  unfold asPair at h
  split at h
  · rename_i a b
    obtain ⟨k, h1, h2⟩ := Option.map_eq_some_iff.mp h
    subst h2
    exact ⟨a, rfl, h1⟩
  · exact nomatch h
section
variable {Γ : Gam} {F H : Hp} {as : List Ad}
theorem prK (K : PySem.W.Frag) (sF : Same F H) : ∀ {ds : List D} {vs : List V} {ps : List (DK × D)}, DVs Γ F as vs ds → ds.map (asPair false) = ps.map some →
    ∃ (qs : List Addr) (kvs : List (Key × V)), vs = qs.map V.ref ∧ Paired (fun p kv => SqT K H p [kV kv.1, kv.2]) qs kvs ∧ ∀ {acc : List (Key × V)} {acc' : List (DK × D)}, DKs Γ F as acc acc' → DKs Γ F as (mergeK acc kvs) (putsD acc' ps)
  | [], _, [], .nil, _ => ⟨[], [], rfl, .nil, fun h => h⟩
  | d :: ds, _, p :: ps, .cons h t, e => by
    rw [List.map_cons, List.map_cons] at e
    injection e with e1 e2
    obtain ⟨qs, kvs, h1, h2, h3⟩ := prK K sF t e2
    obtain ⟨dk, rfl, hk⟩ := asPair_of e1
    obtain ⟨x, hx, hxe⟩ := asDK_k hk
    obtain ⟨a, ws, rfl, hw, dw⟩ := h.tupV
    obtain ⟨y, z, rfl, r1, r2⟩ := dvs2 dw
    refine ⟨a :: qs, (x, z) :: kvs, by rw [h1]; rfl, .cons ?_ h2, fun hacc => ?_⟩
    · rw [r1.key hxe] at hw
      exact .inl (.inl (sF _ _ hw))
    · refine h3 ?_
      show DKs Γ F as (putK _ x z) (putD _ p.1 p.2)
      rw [hx]
      exact hacc.put x r2
theorem prT (K : PySem.W.Frag) (sF : Same F H) : ∀ {ds : List D} {vs : List V} {ps : List (DK × D)}, DVs Γ F as vs ds → ds.map (asPair true) = ps.map some →
    ∃ (qs : List Addr) (ts : List PrT), vs = qs.map V.ref ∧ Paired (fun p t => SqT K H p [V.ref t.b, t.v] ∧ H t.b = some (.tup (t.k.map kV))) qs ts ∧ ∀ {acc : List (List Key × V)} {acc' : List (DK × D)}, DTs Γ F as acc acc' → DTs Γ F as (ts.foldl (fun acc t => putK acc t.k t.v) acc) (putsD acc' ps)
  | [], _, [], .nil, _ => ⟨[], [], rfl, .nil, fun h => h⟩
  | d :: ds, _, p :: ps, .cons h t, e => by
    rw [List.map_cons, List.map_cons] at e
    injection e with e1 e2
    obtain ⟨qs, ts, h1, h2, h3⟩ := prT K sF t e2
    obtain ⟨dk, rfl, hk⟩ := asPair_of e1
    obtain ⟨x, hx⟩ := asDK_t hk
    obtain ⟨a, ws, rfl, hw, dw⟩ := h.tupV
    obtain ⟨y, z, rfl, r1, r2⟩ := dvs2 dw
    obtain ⟨b, rfl, hb⟩ := r1.keyT (hk.trans (congrArg some hx))
    refine ⟨a :: qs, ⟨x, b, z⟩ :: ts, by rw [h1]; rfl, .cons ⟨.inl (.inl (sF _ _ hw)), sF _ _ hb⟩ h2, fun hacc => ?_⟩
    refine h3 ?_
    show DTs Γ F as (putK _ x z) (putD _ p.1 p.2)
    rw [hx]
    exact hacc.put x r2
end
section
variable {S : Sc} {env : En} {μ : Mu} {d : D} {ds : List D} {P : KD}
theorem c_dictP (t : Bool) {ps : List (DK × D)} (h1 : vw μ d = .lst ds) (hp : ds.map (asPair t) = ps.map some) (hc : S.X.calm = true) (k : P (.cell μ.length) (μ ++ [.dct t none (putsD [] ps)])) : Cl S (.type "dict") [d] env μ P := by
  have kp : ∀ (as : List Ad) (p : Addr) js, Kp as (as ++ [⟨p, none⟩]) js := fun as p js i hi ad e => by rw [List.getElem?_append_left (List.getElem?_eq_some_iff.mp e).1]; exact e
  cases t with
  | false =>
    refine Cl.of (call_dictP hc) fun F H as xs Q W r kk => ?_
    obtain ⟨x, rfl, rr⟩ := dvs1 r
    obtain ⟨p, vs, rfl, hv, dv⟩ := W.lst rr h1
    obtain ⟨qs, kvs, rfl, h2, h3⟩ := prK S.X.K W.sub dv hp
    refine ⟨p, qs, kvs, rfl, .inl (.inl hv), h2, fun q n => ?_⟩
    obtain ⟨W2, g2⟩ := W.addO (o := .dK (mergeK [] kvs)) (c := .dct false none (putsD [] ps)) n fun nF => ⟨nF, _, upd_same, (h3 .nil).to (Same.refl F) (kp as q _)⟩
    exact kk _ _ _ _ _ _ k g2 W2 (.cell (ad := ⟨q, none⟩) (W.last _))
  | true =>
    refine Cl.of (call_dictT hc S.hu) fun F H as xs Q W r kk => ?_
    obtain ⟨x, rfl, rr⟩ := dvs1 r
    obtain ⟨p, vs, rfl, hv, dv⟩ := W.lst rr h1
    obtain ⟨qs, ts, rfl, h2, h3⟩ := prT S.X.K W.sub dv hp
    refine ⟨p, qs, ts, rfl, .inl (.inl hv), h2, fun q n => ?_⟩
    obtain ⟨W2, g2⟩ := W.addO (o := .dT (ts.foldl (fun acc t => putK acc t.k t.v) [])) (c := .dct true none (putsD [] ps)) n fun nF => ⟨nF, _, upd_same, (h3 .nil).to (Same.refl F) (kp as q _)⟩
    exact kk _ _ _ _ _ _ k g2 W2 (.cell (ad := ⟨q, none⟩) (W.last _))
end
end Me

/-! Me18: == of dicts by names. -/
namespace Me
open PySem PySem.Spec PyProof.Rows L2
section
variable {prog : Program} {w : World} {A : Around} {s : Shared} {K : Type} [DecidableEq K] {knd : HeapKind prog w K}
/-- whether each pair of the one is in the other -/
def hitsT (e : Value → Value → Bool) (kb : List (K × Addr × Value)) : List (K × Addr × Value) → Bool
  | [] => true
  | x :: r => match atKey kb x.1 with
    | none => false
    | some p => e x.2.2 p.2 && hitsT e kb r
theorem sameT {E : Value → Shared → Prop} {nm : String} {a b : Addr} {ka kb : List (K × Addr × Value)} {e : Value → Value → Bool} {Q : Bool → Shared → Prop} (hu : knd.room A) (ha : (a == sysModules) = false) (hb : (b == sysModules) = false)
    (da : s.heap.DictOfH knd a ka) (db : s.heap.DictOfH knd b kb) (he : ∀ x ∈ ka, ∀ p, atKey kb x.1 = some p → SeqAt.EqP prog w A s x.2.2 p.2 (e x.2.2 p.2)) (h : Q (ka.length == kb.length && hitsT e kb ka) s) :
    wpAny (model prog w) A (Builtin.Dict.samePairs nm a b) Q E s := by
  obtain ⟨oa, ea, na, g1, _, g2, g3, g4, g5⟩ := da
  obtain ⟨ob, eb, nb, q1, _, q2, q3, q4, q5⟩ := db
  have la : ea.size = ka.length := size_of_entries g3
  have lb : eb.size = kb.length := size_of_entries q3
  unfold Builtin.Dict.samePairs Builtin.Dict.showsAll
  rw [if_neg (by rw [ha]; decide), if_neg (by rw [hb]; decide)]
  refine wpAny_bind (wpAny_pure (wpAny_bind (wpAny_pure (wpAny_bind (wpAny_dictEntries g1 g2 ?_)))))
  dsimp only
  refine wpAny_bind (wpAny_dictEntries q1 q2 ?_)
  by_cases hz : ka.length = kb.length
  · rw [if_neg (by rw [la, lb, hz]; simp)]
    rw [show (ka.length == kb.length) = true by simp [hz], Bool.true_and] at h
    refine wpAny_bind (wpAny_dictEpoch g1 g2 (wpAny_bind ?_))
    rw [Std.Legacy.Range.forIn_eq_forIn_range']
    simp only [Std.Legacy.Range.size, Nat.sub_zero, Nat.add_sub_cancel, Nat.div_one]
    refine wpAny_forIn_list _ (fun l c s' => s' = s ∧ c = (none, ()) ∧ ∃ i, i ≤ ka.length ∧ l = List.range' i (ka.length - i) ∧ hitsT e kb (ka.drop i) = hitsT e kb ka) _ ?_ ?_ _ _ ⟨rfl, rfl, 0, Nat.zero_le _, by rw [la, Nat.sub_zero], rfl⟩
    · rintro i l c s' ⟨rfl, rfl, i0, hi, hl, hd⟩
      have hlt : i0 < ka.length := by
        rcases Nat.lt_or_ge i0 ka.length with z | z
        · exact z
        · rw [Nat.sub_eq_zero_of_le z] at hl; exact nomatch hl
      rw [show ka.length - i0 = (ka.length - (i0 + 1)) + 1 by omega, List.range'_succ] at hl
      injection hl with e1 e2
      subst e1
      obtain ⟨k, p, hx⟩ : ∃ k p, ka[i]? = some (k, p) := ⟨ka[i].1, ka[i].2, by simp [hlt]⟩
      have hdr : ka.drop i = (k, p) :: ka.drop (i + 1) := by
        rw [List.drop_eq_getElem_cons hlt]
        congr 1
        rw [List.getElem?_eq_getElem hlt] at hx
        exact Option.some.inj hx
      have hm : (k, p) ∈ ka := List.mem_of_getElem? hx
      refine wpAny_bind (wpAny_dictEntries g1 g2 ?_)
      rw [entry_at g3 i, hx]
      show wpAny _ _ (holding _ (dictFind b (Value.ref p.1) (knd.hash k) >>= _) >>= _) _ _ s'
      rw [hdr] at hd
      refine wpAny_bind (wpAny_holding (wpAny_bind (wpAny_dictFind_heap hu (g4 _ hm) q1 q2 q3 q4 q5 (fun hno => ?_) fun j pj hj => ?_)))
      · have hn : atKey kb k = none := atKey_none_of_get hno
        have hd' : hitsT e kb ka = false := by rw [← hd]; simp only [hitsT, hn]
        rw [hd'] at h
        refine wpAny_pure ?_
        show wpAny _ _ (if (!false) = true then _ else _) _ _ _
        rw [if_pos (by decide)]
        exact wpAny_pure (wpAny_pure h)
      · have hs : atKey kb k = some pj := atKey_of_get q5 hj
        have hd' : hitsT e kb ka = (e p.2 pj.2 && hitsT e kb (ka.drop (i + 1))) := by rw [← hd]; simp only [hitsT, hs]
        refine wpAny_bind (wpAny_dictEntries q1 q2 ?_)
        rw [entry_at q3 j, hj]
        refine wpAny_holding (he _ hm pj hs _ _ ?_)
        show wpAny _ _ (if (!(e p.2 pj.2)) = true then _ else _) _ _ _
        cases hv : e p.2 pj.2 with
        | false =>
          rw [hd', hv, Bool.false_and] at h
          rw [if_pos (by decide)]
          exact wpAny_pure (wpAny_pure h)
        | true =>
          rw [if_neg (by decide)]
          refine wpAny_bind (wpAny_dictEpoch g1 g2 ?_)
          rw [if_neg (by simp)]
          exact wpAny_pure ⟨rfl, rfl, i + 1, hlt, e2, by rw [hd', hv, Bool.true_and]⟩
    · rintro c s' ⟨rfl, rfl, i, hi, hl, hd⟩
      have hie : i = ka.length := by
        rcases Nat.lt_or_ge i ka.length with z | z
        · rw [show ka.length - i = (ka.length - (i + 1)) + 1 by omega, List.range'_succ] at hl; exact nomatch hl
        · omega
      refine wpAny_pure ?_
      rw [hie, List.drop_length] at hd
      rw [← hd] at h
      exact h
  · rw [if_pos (by rw [la, lb]; simpa using hz)]
    rw [show (ka.length == kb.length) = false by simpa using hz, Bool.false_and] at h
    exact wpAny_bind (wpAny_rule (wpAny_pure h))
theorem rcT {a b : Addr} {ka kb : List (K × Addr × Value)} {e : Value → Value → Bool} (hr : knd.room A.in1) (hu : A.units < cLine) (ha : (a == sysModules) = false) (hb : (b == sysModules) = false)
    (da : s.heap.DictOfH knd a ka) (db : s.heap.DictOfH knd b kb) (he : ∀ x ∈ ka, ∀ p, atKey kb x.1 = some p → SeqAt.EqP prog w A.in1 s x.2.2 p.2 (e x.2.2 p.2)) (E Q : Value → Shared → Prop) (h : Q (.bool (ka.length == kb.length && hitsT e kb ka)) s) :
    wpAny (model prog w) A (richCompare .Eq (.ref a) (.ref b)) Q E s := by
  refine wpAny_richCompare_same_room (op := .Eq) da.typeIs db.typeIs PySem.F.slot_dict_eq (wpAny_call_entry PySem.F.slot_dict_eq da.typeIs PySem.F.entry_dict_eq ?_ (PySem.F.args_dict_eq_2 _ _)) hu
  show wpAny _ _ (Builtin.Dict.dictSlotArgs "__eq__" _ >>= _) _ _ s
  unfold Builtin.Dict.dictSlotArgs
  refine wpAny_bind (wpAny_bind (wpAny_notOrdered_dict da.typeIs ?_))
  refine wpAny_pure (wpAny_bind (wpAny_isInstance (T := "dict") db.typeIs PySem.F.sub_dict_dict ?_))
  simp only [Bool.not_true, Bool.false_eq_true, if_false]
  refine wpAny_bind (wpAny_pure (wpAny_bind (wpAny_pure (wpAny_bind (sameT hr ha hb da db he ?_)))))
  exact wpAny_pure ⟨_, rfl, (fun x => nomatch x), by simpa using h⟩
end
end Me

/-! Me19: == of dicts by names with ints, at the values' level. -/
namespace Me
open PySem PySem.Spec PyProof.Rows L2
def eInt : Value → Value → Bool
  | .int i _, .int j _ => i == j
  | _, _ => false
/-- each pair of the one is in the other -/
def inD (kws : List (DK × D)) : List (DK × D) → Bool
  | [] => true
  | p :: r => (match p.2, valD kws p.1 with
    | .int i, some (.int j) => i == j
    | _, _ => false) && inD kws r
def AllInt (kvs : List (DK × D)) : Prop := ∀ p ∈ kvs, ∃ i, p.2 = D.int i
theorem valD_mem {kvs : List (DK × D)} {k : DK} {d : D} (h : valD kvs k = some d) : ∃ p ∈ kvs, p.2 = d := by
  unfold valD at h
  obtain ⟨p, h1, h2⟩ := Option.map_eq_some_iff.mp h
  exact ⟨p, List.mem_of_find?_eq_some h1, h2⟩
section
variable {Γ : Gam} {F H : Hp} {as : List Ad}
theorem at_int {vb : List (List Key × V)} {xb : List (List Key × Addr × Value)} {kws : List (DK × D)} (rb : KT H vb xb) (db : DTs Γ F as vb kws) (ib : AllInt kws) (k : List Key) :
    (atKey xb k = none ∧ valD kws (.t k) = none) ∨ ∃ p j t, atKey xb k = some p ∧ p.2 = .int j t ∧ valD kws (.t k) = some (.int j) := by
  have h1 := rb.val k
  have h2 := db.val k
  cases hv : valD kws (.t k) with
  | none =>
    rw [hv] at h2
    have e2 : valV vb k = none := by
      have := h2.isSome
      cases hh : valV vb k with
      | none => rfl
      | some _ => rw [hh] at this; cases this
    rw [e2] at h1
    have e1 := h1.isSome_eq
    cases hh : atKey xb k with
    | none => exact .inl ⟨rfl, rfl⟩
    | some _ => rw [hh] at e1; cases e1
  | some d =>
    obtain ⟨p0, hp0, ep0⟩ := valD_mem hv
    obtain ⟨j, ej⟩ := ib p0 hp0
    rw [hv] at h2
    cases hh : valV vb k with
    | none => rw [hh] at h2; exact h2.elim
    | some v =>
      rw [hh] at h2 h1
      have dv : DV Γ F as v d := h2
      rw [← ep0, ej] at dv
      cases dv
      cases ha : atKey xb k with
      | none => rw [ha] at h1; exact h1.elim
      | some p =>
        rw [ha] at h1
        obtain ⟨t, et⟩ : ∃ t, p.2 = Value.int j t := h1
        exact .inr ⟨p, j, t, rfl, et, by rw [← ep0, ej]⟩
theorem hits_eq {vb : List (List Key × V)} {xb : List (List Key × Addr × Value)} {kws : List (DK × D)} (rb : KT H vb xb) (db : DTs Γ F as vb kws) (ib : AllInt kws) :
    ∀ {va : List (List Key × V)} {xa : List (List Key × Addr × Value)} {kvs : List (DK × D)}, DTs Γ F as va kvs → KT H va xa → AllInt kvs → hitsT eInt xb xa = inD kws kvs ∧ ∀ x ∈ xa, ∃ i t, x.2.2 = Value.int i t
  | _, _, _, .nil, .nil, _ => ⟨rfl, fun x hx => nomatch hx⟩
  | _, _, _, .cons (k := k) dv t, .cons (b := x) ⟨e1, _, e3⟩ r, ia => by
    obtain ⟨h1, h2⟩ := hits_eq rb db ib t r fun p hp => ia p (List.mem_cons_of_mem _ hp)
    obtain ⟨i, ei⟩ := ia _ List.mem_cons_self
    dsimp only at ei
    subst ei
    cases dv
    obtain ⟨t0, et⟩ : ∃ t, x.2.2 = Value.int i t := e3
    refine ⟨?_, fun y hy => (List.mem_cons.mp hy).elim (fun z => z ▸ ⟨i, t0, et⟩) (h2 y)⟩
    have ek : x.1 = k := e1.symm
    rcases at_int rb db ib k with ⟨q1, q2⟩ | ⟨p, j, t1, q1, q2, q3⟩
    · simp only [hitsT, inD, ek, q1, q2, Bool.false_and]
    · simp only [hitsT, inD, ek, q1, q3, h1, et, q2, eInt]
end
section
variable {S : Sc} {env : En} {μ : Mu} {d1 d2 : D} {kvs kws : List (DK × D)} {P : KD}
def sameD (kvs kws : List (DK × D)) : Bool := kvs.length == kws.length && inD kws kvs
theorem o_eqDT (h1 : vw μ d1 = .dct true kvs) (h2 : vw μ d2 = .dct true kws) (ia : AllInt kvs) (ib : AllInt kws) (k : P (.bl (sameD kvs kws)) μ) : Op2 S (compareOp .Eq) d1 d2 env μ P := by
  intro pins s σ H x y v u Q F as I rx ry a r1 r2 kk
  obtain ⟨p, rfl, va, ha, dva⟩ := a.w.dct r1 h1
  obtain ⟨q, rfl, vb, hb, dvb⟩ := a.w.dct r2 h2
  cases rx
  cases ry
  obtain ⟨za, na, xa, ka, oa⟩ := dt_rd I.hok ha
  obtain ⟨zb, nb, xb, kb, ob⟩ := dt_rd I.hok hb
  obtain ⟨e1, e2⟩ := hits_eq kb dvb ib dva ka ia
  have hu := S.hu
  refine PySem.W.cmp_ofEq (rcT (e := eInt) (show S.X.A.units + 1 < cLine by omega) (by omega) na nb oa ob (fun x hx p hp => ?_) _ _ ⟨.bl (sameD kvs kws), H, I, ?_, kk.now a.w k (.bl _)⟩)
  · obtain ⟨i, t, ei⟩ := e2 x hx
    rcases at_int kb dvb ib x.1 with ⟨q1, _⟩ | ⟨p', j, t1, q1, q2, _⟩
    · rw [q1] at hp; cases hp
    · rw [q1] at hp
      obtain rfl := Option.some.inj hp
      rw [ei, q2]
      exact (eqAt_V (y := .int i) (x := .int j) ⟨t, rfl⟩ ⟨t1, rfl⟩ rfl rfl).eqP
  · rw [e1, show xa.length = kvs.length by rw [← Paired.length ka, dva.length], show xb.length = kws.length by rw [← Paired.length kb, dvb.length]]
    rfl
end
end Me

/-! Me20: == and != of instances by an own __eq__. -/
namespace Me
open PySem PySem.Spec PyProof.Rows L2
theorem ne_bind (self : Value) : bindSpecial (.builtin "object.__ne__") self = pure (.builtin "object.__ne__", [self]) :=
  (Slot.of (T := "object") (name := "__ne__") (owner := "object") (n := "__ne__") (by rw [typeLookup_type, builtinLookup_eq_fast]; kernel_rfl) (by decide +kernel) (by decide +kernel) (by decide +kernel)
    (.inl (by decide +kernel)) (by rw [isSubtype_type]; kernel_rfl)).bind self
theorem ne_plain : plainId "object.__ne__" = true := by decide +kernel
section
variable {prog : Program} {w : World} {A : Around} {E : Value → Shared → Prop} {s : Shared} {K : PySem.W.Frag} {x C L f : Addr} {h₀ : Heap} {m : Str → Option Value} {ox : Obj} {od : Option Obj} {b tb : Value}
open PySem.W in
theorem ne_own {Q : Value → Shared → Prop} (hu : A.units + 1 < cLine) (F : Fr h₀ L s.heap m) (X₀ : K.In h₀) (I : InstAt s.heap x ox C od) (hb : Looks (model prog w) s.heap (typeOf b) tb) (hn : notFirst K C tb = true)
    (h1 : findIn K (.ref C) "__ne__" = some (some (.builtin "object.__ne__"))) (hp : plainOver K C = true) (hs : findIn K (.ref C) "__eq__" = some (some (.ref f))) (hf : isFn K (.ref f) = true)
    (h : wpAny (model prog w) A.in1 (call (.ref f) [.ref x, b]) (fun v s' => ∃ q, v = .bool q ∧ Q (.bool (!q)) s') E s) : wpAny (model prog w) A (richCompare .NotEq (.ref x) b) Q E s := by
  have X := X₀.keeps F.keep
  obtain ⟨cd, hc, ho⟩ := any_some hp
  have ne : cd.mro.isEmpty = false := by cases q : cd.mro with | nil => rw [q] at ho; cases ho | cons _ _ => rfl
  have sub : Looks (model prog w) s.heap (isInstance (.ref x) (.type "object")) true := I.type.andThen (looks_mroIn X (by unfold mroIn; rw [hc, Option.bind_some, if_neg (by rw [ne]; decide), only_has ho]))
  have body : wpAny (model prog w) A (call (.builtin "object.__ne__") [.ref x, b]) (fun v s' => ∃ q, v = .bool q ∧ Q v s') E s := by
    refine wpAny_call (codeAny_call_builtin ne_plain PySem.F.cmpEntry_ne (check_slot PySem.F.cmpKind_ne PySem.F.cmpSplit_ne sub (PySem.F.cmpArgs_ne _ _) ?_))
    unfold Builtin.«object.__ne__»
    refine wpAny_bind (m := slotArgs "__ne__" 1 _) (wpAny_pure ?_)
    refine wpAny_bind (wpAny_cRoomFor (show A.units + 1 < cLine from hu) (wpAny_bind (ifBound_K X I hs hf (wpAny_mono h (fun v s' hv => ?_) fun _ _ e => e))))
    obtain ⟨q, rfl, hq⟩ := hv
    show wpAny _ _ (truthy (.bool q) >>= _) _ _ s'
    exact wpAny_bind (wpAny_truthy_bool (wpAny_pure ⟨!q, rfl, hq⟩))
  have one : wpAny (model prog w) A (tryCompare (.ref x) "__ne__" b) (fun r s' => ∃ v, r = some v ∧ Q v s') E s := by
    unfold tryCompare
    refine wpAny_bind ?_
    simp only [callSpecialIfBound?, bindSpecialIfBound?]
    refine wpAny_holding (wpAny_bind (wpAny_bind (wpAny_bind (I.type.here ((looks_findIn X h1).here ?_)))))
    refine wpAny_bind (wpAny_askSetting (wpAny_ite ?_))
    rw [ne_bind]
    have fin : wpAny (model prog w) A (call (.builtin "object.__ne__") ([.ref x] ++ [b]) >>= fun v => pure (some v)) (fun r s' => wpAny (model prog w) A (match r with | some Value.notImplemented | none => pure none | some r => pure (some r)) (fun r s' => ∃ v, r = some v ∧ Q v s') E s') E s :=
      wpAny_bind (wpAny_mono body (fun v s' ⟨q, e, h'⟩ => wpAny_pure (by subst e; exact wpAny_pure ⟨_, rfl, h'⟩)) fun _ _ h' => h')
    split
    · exact wpAny_bind (wpAny_pure (wpAny_pure fin))
    · exact wpAny_tryCatch (wpAny_bind (wpAny_pure (wpAny_pure fin)))
  unfold richCompare
  simp only [oneThing_ref]
  refine wpAny_holding (wpAny_bind (wpAny_cRoomFor (show A.units < cLine by omega) ?_))
  refine wpAny_bind (I.type.here (wpAny_bind (hb.here ?_)))
  have fin : ∀ (r : Option Value) s', (∃ v, r = some v ∧ Q v s') → wpAny (model prog w) A (match r with | some v => pure v | none => pure .none) Q E s' := fun r s' ⟨v, e, q⟩ => by subst e; exact wpAny_pure q
  split
  · rename_i q
    have e : subIn K tb (.ref C) = some false := by
      rcases Bool.or_eq_true_iff.mp hn with e | e
      · rw [beq_iff_eq.mp e] at q; simp at q
      · exact beq_iff_eq.mp e
    refine wpAny_bind ((looks_subIn X e).here ?_)
    rw [if_neg Bool.false_ne_true]
    refine wpAny_bind (wpAny_mono one (fun r s' z => ?_) fun _ _ e => e)
    obtain ⟨v, rfl, hq⟩ := z
    exact wpAny_pure hq
  · refine wpAny_bind (wpAny_pure ?_)
    rw [if_neg Bool.false_ne_true]
    refine wpAny_bind (wpAny_mono one (fun r s' z => ?_) fun _ _ e => e)
    obtain ⟨v, rfl, hq⟩ := z
    exact wpAny_pure hq
end
section
variable {S : Sc} {env : En} {μ : Mu} {c : String} {P : KD} {d1 d2 : D} {k : Nat} {C : Ct}
/-- a class with an own __eq__ and no own __ne__ -/
structure NoNe (K : PySem.W.Frag) (Γ : Gam) (c : String) : Prop where
  ex : ∃ Ca, Γ.cls c = some Ca ∧ PySem.W.findIn K (.ref Ca) "__ne__" = some (some (.builtin "object.__ne__")) ∧ PySem.W.plainOver K Ca = true
theorem o_eqIns (M : Dn S.X.prog S.X.w S.X.K S.X.mg S.X.base S.Γ k c "__eq__" C) {fs gs : List (Str × D)} (hv : vw μ d1 = .ins c fs) (hv2 : vw μ d2 = .ins c gs) (h : C [d1, d2] μ (fun r m => ∃ q, r = .bl q ∧ P (.bl q) m) (fun x m => S.Z x env m))
    (hkj : k ≤ S.k := by first | decide | assumption | omega) (hc : S.X.calm = true := by rfl) : Op2 S (compareOp .Eq) d1 d2 env μ P := by
  obtain ⟨Ca, f, fd, ps, hcl, hs, hf, _, _, _, F1, hb⟩ := M.ex
  intro pins s σ H x y v u Q F as I rx ry a r1 r2 kk
  obtain ⟨p, C', dx, vs, rfl, hc', h1, _⟩ := a.w.ins r1 hv
  rw [hcl] at hc'
  obtain rfl := Option.some.inj hc'
  obtain ⟨p2, C2, dx2, vs2, rfl, hc2, h2, _⟩ := a.w.ins r2 hv2
  rw [hcl] at hc2
  obtain rfl := Option.some.inj hc2
  cases rx
  cases ry
  obtain ⟨od, J⟩ := instAt I h1
  obtain ⟨od2, J2⟩ := instAt I h2
  obtain ⟨m0, hF⟩ := I.fr
  have hu := S.hu
  refine PySem.W.cmp_ofEq (PySem.W.cmp_K (op := .Eq) (tb := .ref Ca) (by omega) hF I.ok.mod.kin J J2.type (by simp [PySem.W.notFirst]) hs hf
    (thn (run_fnA (us := [.ref p, .ref p2]) (vs := [.ref p, .ref p2]) (Q := fun r H' => ∃ q, r = .bl q ∧ Q (.bl q) H') F1 S.hg (S.room I hc hkj) I.env0 hb I (.cons rfl (.cons rfl .nil)) ?_) ?_))
  · have := spM_of (ds := [d1, d2]) (C := C) h a (.cons r1 (.cons r2 .nil)) (Q := fun r H' => ∃ q, r = .bl q ∧ Q (.bl q) H') fun d m v F' H' as' ⟨q, e1, p1⟩ g W' r => by
      subst e1
      cases r
      exact ⟨q, rfl, kk _ m _ F' H' as' p1 g W' (.bl q)⟩
    rwa [List.append_nil] at this
  · rintro w s2 ⟨z, H2, I2, rz, q, e1, hq⟩
    subst e1
    cases rz
    exact ⟨.bl q, H2, I2, rfl, hq⟩
theorem o_neIns (M : Dn S.X.prog S.X.w S.X.K S.X.mg S.X.base S.Γ k c "__eq__" C) (nn : NoNe S.X.K S.Γ c) {fs gs : List (Str × D)} (hv : vw μ d1 = .ins c fs) (hv2 : vw μ d2 = .ins c gs) (h : C [d1, d2] μ (fun r m => ∃ q, r = .bl q ∧ P (.bl (!q)) m) (fun x m => S.Z x env m))
    (hkj : k + 1 ≤ S.k := by first | decide | assumption | omega) (hc : S.X.calm = true := by rfl) : Op2 S (compareOp .NotEq) d1 d2 env μ P := by
  obtain ⟨Ca, f, fd, ps, hcl, hs, hf, _, _, _, F1, hb⟩ := M.ex
  obtain ⟨Cn, hcn, hne, hpo⟩ := nn.ex
  rw [hcl] at hcn
  obtain rfl := Option.some.inj hcn
  intro pins s σ H x y v u Q F as I rx ry a r1 r2 kk
  obtain ⟨p, C', dx, vs, rfl, hc', h1, _⟩ := a.w.ins r1 hv
  rw [hcl] at hc'
  obtain rfl := Option.some.inj hc'
  obtain ⟨p2, C2, dx2, vs2, rfl, hc2, h2, _⟩ := a.w.ins r2 hv2
  rw [hcl] at hc2
  obtain rfl := Option.some.inj hc2
  cases rx
  cases ry
  obtain ⟨od, J⟩ := instAt I h1
  obtain ⟨od2, J2⟩ := instAt I h2
  obtain ⟨m0, hF⟩ := I.fr
  have hu := S.hu
  refine PySem.W.cmp_ofNotEq (ne_own (tb := .ref Ca) (by omega) hF I.ok.mod.kin J J2.type (by simp [PySem.W.notFirst]) hne hpo hs hf
    (thn (run_fnA (us := [.ref p, .ref p2]) (vs := [.ref p, .ref p2]) (Q := fun r H' => ∃ q, r = .bl q ∧ Q (.bl (!q)) H') F1 S.hg (S.room I hc hkj).in1 I.env0.in1 hb I (.cons rfl (.cons rfl .nil)) ?_) ?_))
  · have := spM_of (ds := [d1, d2]) (C := C) h a (.cons r1 (.cons r2 .nil)) (Q := fun r H' => ∃ q, r = .bl q ∧ Q (.bl (!q)) H') fun d m v F' H' as' ⟨q, e1, p1⟩ g W' r => by
      subst e1
      cases r
      exact ⟨q, rfl, kk _ m _ F' H' as' p1 g W' (.bl _)⟩
    rwa [List.append_nil] at this
  · rintro w s2 ⟨z, H2, I2, rz, q, e1, hq⟩
    subst e1
    cases rz
    exact ⟨q, rfl, .bl (!q), H2, I2, rfl, hq⟩
end
end Me

/-! Me21: views through several cells; all, min, max. -/
namespace Me
open PySem PySem.Spec PyProof.Rows L2
mutual
/-- what a value is now, cells opened all the way down -/
inductive Dv (μ : Mu) : D → D → Prop
  | non : Dv μ .non .non
  | bl (b : Bool) : Dv μ (.bl b) (.bl b)
  | int (i : Int) : Dv μ (.int i) (.int i)
  | str (x : Str) : Dv μ (.str x) (.str x)
  | lst {ds es : List D} : Dvs μ ds es → Dv μ (.lst ds) (.lst es)
  | tup {ds es : List D} : Dvs μ ds es → Dv μ (.tup ds) (.tup es)
  | cell {j : Nat} {ds es : List D} : μ[j]? = some (.lst ds) → Dvs μ ds es → Dv μ (.cell j) (.lst es)
inductive Dvs (μ : Mu) : List D → List D → Prop
  | nil : Dvs μ [] []
  | cons {d e : D} {ds es : List D} : Dv μ d e → Dvs μ ds es → Dvs μ (d :: ds) (e :: es)
end
mutual
/-- plain data without dicts -/
def D.fl : D → Bool
  | .non => true
  | .bl _ => true
  | .int _ => true
  | .str _ => true
  | .lst ds => D.fls ds
  | .tup ds => D.fls ds
  | .dct _ _ => false
  | .ins _ _ => false
  | .err _ _ => false
  | .ty _ => false
  | .cls _ => false
  | .cell _ => false
def D.fls : List D → Bool
  | [] => true
  | d :: ds => d.fl && D.fls ds
end
mutual
theorem Dv.self {μ : Mu} : ∀ d : D, d.fl = true → Dv μ d d
  | .non, _ => .non
  | .bl b, _ => .bl b
  | .int i, _ => .int i
  | .str x, _ => .str x
  | .lst ds, h => .lst (Dvs.self ds (by simpa [D.fl] using h))
  | .tup ds, h => .tup (Dvs.self ds (by simpa [D.fl] using h))
  | .dct _ _, h => by simp [D.fl] at h
  | .ins _ _, h => by simp [D.fl] at h
  | .err _ _, h => by simp [D.fl] at h
  | .ty _, h => by simp [D.fl] at h
  | .cls _, h => by simp [D.fl] at h
  | .cell _, h => by simp [D.fl] at h
theorem Dvs.self {μ : Mu} : ∀ ds : List D, D.fls ds = true → Dvs μ ds ds
  | [], _ => .nil
  | d :: ds, h => by
    simp only [D.fls, Bool.and_eq_true] at h
    exact .cons (Dv.self d h.1) (Dvs.self ds h.2)
end
section
variable {Γ : Gam} {F H : Hp} {as : List Ad} {μ : Mu}
mutual
theorem Dv.dp (K : PySem.W.Frag) (W : Wd Γ F H as μ) {v : V} {d e : D} (h : Dv μ d e) (r : DV Γ F as v d) : Dp K H v e.py := by
  cases h with
  | non => cases r; exact .non
  | bl b => cases r; exact .bl b
  | int i => cases r; exact .int i
  | str x => cases r; exact .str x
  | lst t => cases r with | lst h1 h2 => exact .lst (.inl (.inl (W.sub _ _ h1))) (Dvs.dp K W t h2)
  | tup t => cases r with | tup h1 h2 => exact .tup (.inl (.inl (W.sub _ _ h1))) (Dvs.dp K W t h2)
  | cell hc t =>
    cases r with
    | cell ha =>
      obtain ⟨_, _, vs, h1, h2⟩ := W.ok _ _ _ ha hc
      exact .lst (.inl (.inl h1)) (Dvs.dp K W t h2)
theorem Dvs.dp (K : PySem.W.Frag) (W : Wd Γ F H as μ) {vs : List V} {ds es : List D} (h : Dvs μ ds es) (r : DVs Γ F as vs ds) : DpAll K H vs (D.pys es) := by
  cases h with
  | nil => cases r; exact .nil
  | cons h1 h2 => cases r with | cons r1 r2 => exact .cons (Dv.dp K W h1 r1) (Dvs.dp K W h2 r2)
end
end
section
variable {S : Sc} {env : En} {μ : Mu} {d d1 d2 e1 e2 : D} {ds : List D} {P : KD} {i j : Int}
@[reducible] def ShOk (d e : D) : Prop := SeqAt.shaped d.py = true ∧ SeqAt.shaped e.py = true
theorem o_eqV (h1 : Dv μ d1 e1) (h2 : Dv μ d2 e2) (hk : ShOk e1 e2) (kk : P (.bl (eqv e1 e2)) μ) : Op2 S (compareOp .Eq) d1 d2 env μ P :=
  Op2.of (op_eqD (by have := S.hu; omega)) fun F H as x y Q W r1 r2 kq => ⟨e1.py, e2.py, h1.dp _ W r1, h2.dp _ W r2, hk.1, hk.2, kq.now W kk (.bl _)⟩
theorem o_neV (h1 : Dv μ d1 e1) (h2 : Dv μ d2 e2) (hk : ShOk e1 e2) (kk : P (.bl (!eqv e1 e2)) μ) : Op2 S (compareOp .NotEq) d1 d2 env μ P :=
  Op2.of (op_neD (by have := S.hu; omega)) fun F H as x y Q W r1 r2 kq => ⟨e1.py, e2.py, h1.dp _ W r1, h2.dp _ W r2, hk.1, hk.2, kq.now W kk (.bl _)⟩
@[reducible] def RpOk (d : D) : Prop := d.py.showable = true ∧ d.py.hasDict = false ∧ d.py.depth ≤ 64 ∧ d.py.shown.length ≤ sizeLine
theorem c_reprV (h1 : Dv μ d e1) (hk : RpOk e1) (k : P (.str e1.py.shown) μ) : Cl S (.builtin "repr") [d] env μ P :=
  Cl.of (Gd.cr_repr S.hg (by have := S.hu; omega)) fun F H as xs Q W r kk => by
    obtain ⟨x, rfl, r1⟩ := dvs1 r
    exact ⟨x, e1.py, rfl, h1.dp _ W r1, hk.1, hk.2.1, hk.2.2.1, hk.2.2.2, kk.now W k (.str _)⟩
theorem c_min (hc : S.X.calm = true) (k : P (.int (if j < i then j else i)) μ) : Cl S (.builtin "min") [.int i, .int j] env μ P :=
  Cl.of (call_min2 hc) fun F H as xs Q W r kk => by
    obtain ⟨x, y, rfl, r1, r2⟩ := dvs2 r
    cases r1
    cases r2
    exact ⟨i, j, rfl, kk.now W k (.int _)⟩
theorem c_max (hc : S.X.calm = true) (k : P (.int (if j > i then j else i)) μ) : Cl S (.builtin "max") [.int i, .int j] env μ P :=
  Cl.of (call_max2 hc) fun F H as xs Q W r kk => by
    obtain ⟨x, y, rfl, r1, r2⟩ := dvs2 r
    cases r1
    cases r2
    exact ⟨i, j, rfl, kk.now W k (.int _)⟩
theorem DVs.bls {Γ : Gam} {F : Hp} {as : List Ad} : ∀ {bs : List Bool} {vs : List V}, DVs Γ F as vs (bs.map D.bl) → vs = bs.map V.bl
  | [], _, .nil => rfl
  | b :: bs, _, .cons h t => by
    cases h
    rw [DVs.bls t]
    rfl
theorem c_all {bs : List Bool} (hc : S.X.calm = true) (h1 : vw μ d = .lst (bs.map D.bl)) (k : P (.bl (bs.all id)) μ) : Cl S (.builtin "all") [d] env μ P :=
  Cl.of (cr_all hc) fun F H as xs Q W r kk => by
    obtain ⟨x, rfl, r1⟩ := dvs1 r
    obtain ⟨a, vs, rfl, h2, dv⟩ := W.lst r1 h1
    rw [dv.bls] at h2
    exact ⟨a, bs, rfl, .inl (.inl h2), kk.now W k (.bl _)⟩
theorem c_any {bs : List Bool} (hc : S.X.calm = true) (h1 : vw μ d = .lst (bs.map D.bl)) (k : P (.bl (bs.any id)) μ) : Cl S (.builtin "any") [d] env μ P :=
  Cl.of (cr_any hc) fun F H as xs Q W r kk => by
    obtain ⟨x, rfl, r1⟩ := dvs1 r
    obtain ⟨a, vs, rfl, h2, dv⟩ := W.lst r1 h1
    rw [dv.bls] at h2
    exact ⟨a, bs, rfl, .inl (.inl h2), kk.now W k (.bl _)⟩
end
end Me

/-! Me22: the built-in names, ready. -/
namespace Me
open PySem PySem.Spec PyProof.Rows L2
section
variable {S : Sc} {env : En} {μ : Mu} {e : Expr} {es : List Expr} {pos p0 : Pos} {P : KD} {PB : Bool → Mu → Prop}
theorem thn_n {rest : List Stmt} {R : Out → Prop} (h : B S rest env μ R) : Thn S rest R (.next env μ) := h
theorem asT_i {q : Bool} (h : PB q μ) : asT PB (.bl q) μ := ⟨q, rfl, h⟩
theorem boot_len : bootBuiltins "len" = some (.builtin "len") := by decide +kernel
theorem k_len (h : A S (e :: es) env μ fun ds μ1 => Cl S (.builtin "len") ds env μ1 P) (hg : Gl S.X "len" := by rfl) (he : starEach (e :: es) S.X.env = (false, eval e S.X.env) :: starEach es S.X.env := by rfl) (hpl : (backTo pos (starEach es S.X.env)).any (·.1) = false := by rfl) :
    E S (.Call (.Name "len" p0) (e :: es) [] pos) env μ P := e_callB S.hb.len boot_len h hg (by decide) (by decide) he hpl
theorem boot_abs : bootBuiltins "abs" = some (.builtin "abs") := by decide +kernel
theorem k_abs (h : A S (e :: es) env μ fun ds μ1 => Cl S (.builtin "abs") ds env μ1 P) (hg : Gl S.X "abs" := by rfl) (he : starEach (e :: es) S.X.env = (false, eval e S.X.env) :: starEach es S.X.env := by rfl) (hpl : (backTo pos (starEach es S.X.env)).any (·.1) = false := by rfl) :
    E S (.Call (.Name "abs" p0) (e :: es) [] pos) env μ P := e_callB S.hb.abs boot_abs h hg (by decide) (by decide) he hpl
theorem boot_repr : bootBuiltins "repr" = some (.builtin "repr") := by decide +kernel
theorem k_repr (h : A S (e :: es) env μ fun ds μ1 => Cl S (.builtin "repr") ds env μ1 P) (hg : Gl S.X "repr" := by rfl) (he : starEach (e :: es) S.X.env = (false, eval e S.X.env) :: starEach es S.X.env := by rfl) (hpl : (backTo pos (starEach es S.X.env)).any (·.1) = false := by rfl) :
    E S (.Call (.Name "repr" p0) (e :: es) [] pos) env μ P := e_callB S.hb.repr boot_repr h hg (by decide) (by decide) he hpl
theorem boot_sorted : bootBuiltins "sorted" = some (.builtin "sorted") := by decide +kernel
theorem k_sorted (h : A S (e :: es) env μ fun ds μ1 => Cl S (.builtin "sorted") ds env μ1 P) (hg : Gl S.X "sorted" := by rfl) (he : starEach (e :: es) S.X.env = (false, eval e S.X.env) :: starEach es S.X.env := by rfl) (hpl : (backTo pos (starEach es S.X.env)).any (·.1) = false := by rfl) :
    E S (.Call (.Name "sorted" p0) (e :: es) [] pos) env μ P := e_callB S.hb.sorted boot_sorted h hg (by decide) (by decide) he hpl
theorem boot_sum : bootBuiltins "sum" = some (.builtin "sum") := by decide +kernel
theorem k_sum (h : A S (e :: es) env μ fun ds μ1 => Cl S (.builtin "sum") ds env μ1 P) (hg : Gl S.X "sum" := by rfl) (he : starEach (e :: es) S.X.env = (false, eval e S.X.env) :: starEach es S.X.env := by rfl) (hpl : (backTo pos (starEach es S.X.env)).any (·.1) = false := by rfl) :
    E S (.Call (.Name "sum" p0) (e :: es) [] pos) env μ P := e_callB S.hb.sum boot_sum h hg (by decide) (by decide) he hpl
theorem boot_all : bootBuiltins "all" = some (.builtin "all") := by decide +kernel
theorem k_all (h : A S (e :: es) env μ fun ds μ1 => Cl S (.builtin "all") ds env μ1 P) (hg : Gl S.X "all" := by rfl) (he : starEach (e :: es) S.X.env = (false, eval e S.X.env) :: starEach es S.X.env := by rfl) (hpl : (backTo pos (starEach es S.X.env)).any (·.1) = false := by rfl) :
    E S (.Call (.Name "all" p0) (e :: es) [] pos) env μ P := e_callB S.hb.all boot_all h hg (by decide) (by decide) he hpl
theorem boot_any : bootBuiltins "any" = some (.builtin "any") := by decide +kernel
theorem k_any (h : A S (e :: es) env μ fun ds μ1 => Cl S (.builtin "any") ds env μ1 P) (hg : Gl S.X "any" := by rfl) (he : starEach (e :: es) S.X.env = (false, eval e S.X.env) :: starEach es S.X.env := by rfl) (hpl : (backTo pos (starEach es S.X.env)).any (·.1) = false := by rfl) :
    E S (.Call (.Name "any" p0) (e :: es) [] pos) env μ P := e_callB S.hb.any boot_any h hg (by decide) (by decide) he hpl
theorem boot_min : bootBuiltins "min" = some (.builtin "min") := by decide +kernel
theorem k_min (h : A S (e :: es) env μ fun ds μ1 => Cl S (.builtin "min") ds env μ1 P) (hg : Gl S.X "min" := by rfl) (he : starEach (e :: es) S.X.env = (false, eval e S.X.env) :: starEach es S.X.env := by rfl) (hpl : (backTo pos (starEach es S.X.env)).any (·.1) = false := by rfl) :
    E S (.Call (.Name "min" p0) (e :: es) [] pos) env μ P := e_callB S.hb.min boot_min h hg (by decide) (by decide) he hpl
theorem boot_max : bootBuiltins "max" = some (.builtin "max") := by decide +kernel
theorem k_max (h : A S (e :: es) env μ fun ds μ1 => Cl S (.builtin "max") ds env μ1 P) (hg : Gl S.X "max" := by rfl) (he : starEach (e :: es) S.X.env = (false, eval e S.X.env) :: starEach es S.X.env := by rfl) (hpl : (backTo pos (starEach es S.X.env)).any (·.1) = false := by rfl) :
    E S (.Call (.Name "max" p0) (e :: es) [] pos) env μ P := e_callB S.hb.max boot_max h hg (by decide) (by decide) he hpl
theorem boot_isinstance : bootBuiltins "isinstance" = some (.builtin "isinstance") := by decide +kernel
theorem k_isinstance (h : A S (e :: es) env μ fun ds μ1 => Cl S (.builtin "isinstance") ds env μ1 P) (hg : Gl S.X "isinstance" := by rfl) (he : starEach (e :: es) S.X.env = (false, eval e S.X.env) :: starEach es S.X.env := by rfl) (hpl : (backTo pos (starEach es S.X.env)).any (·.1) = false := by rfl) :
    E S (.Call (.Name "isinstance" p0) (e :: es) [] pos) env μ P := e_callB S.hb.isinstance boot_isinstance h hg (by decide) (by decide) he hpl
theorem boot_int : bootBuiltins "int" = some (.type "int") := by decide +kernel
theorem k_int (h : A S (e :: es) env μ fun ds μ1 => Cl S (.type "int") ds env μ1 P) (hg : Gl S.X "int" := by rfl) (he : starEach (e :: es) S.X.env = (false, eval e S.X.env) :: starEach es S.X.env := by rfl) (hpl : (backTo pos (starEach es S.X.env)).any (·.1) = false := by rfl) :
    E S (.Call (.Name "int" p0) (e :: es) [] pos) env μ P := e_callTy S.hb.int boot_int h hg (by decide) (by decide) he hpl
theorem boot_tuple : bootBuiltins "tuple" = some (.type "tuple") := by decide +kernel
theorem k_tuple (h : A S (e :: es) env μ fun ds μ1 => Cl S (.type "tuple") ds env μ1 P) (hg : Gl S.X "tuple" := by rfl) (he : starEach (e :: es) S.X.env = (false, eval e S.X.env) :: starEach es S.X.env := by rfl) (hpl : (backTo pos (starEach es S.X.env)).any (·.1) = false := by rfl) :
    E S (.Call (.Name "tuple" p0) (e :: es) [] pos) env μ P := e_callTy S.hb.tuple boot_tuple h hg (by decide) (by decide) he hpl
theorem boot_list : bootBuiltins "list" = some (.type "list") := by decide +kernel
theorem k_list (h : A S (e :: es) env μ fun ds μ1 => Cl S (.type "list") ds env μ1 P) (hg : Gl S.X "list" := by rfl) (he : starEach (e :: es) S.X.env = (false, eval e S.X.env) :: starEach es S.X.env := by rfl) (hpl : (backTo pos (starEach es S.X.env)).any (·.1) = false := by rfl) :
    E S (.Call (.Name "list" p0) (e :: es) [] pos) env μ P := e_callTy S.hb.list boot_list h hg (by decide) (by decide) he hpl
theorem boot_set : bootBuiltins "set" = some (.type "set") := by decide +kernel
theorem k_set (h : A S (e :: es) env μ fun ds μ1 => Cl S (.type "set") ds env μ1 P) (hg : Gl S.X "set" := by rfl) (he : starEach (e :: es) S.X.env = (false, eval e S.X.env) :: starEach es S.X.env := by rfl) (hpl : (backTo pos (starEach es S.X.env)).any (·.1) = false := by rfl) :
    E S (.Call (.Name "set" p0) (e :: es) [] pos) env μ P := e_callTy S.hb.set boot_set h hg (by decide) (by decide) he hpl
theorem boot_dict : bootBuiltins "dict" = some (.type "dict") := by decide +kernel
theorem k_dict (h : A S (e :: es) env μ fun ds μ1 => Cl S (.type "dict") ds env μ1 P) (hg : Gl S.X "dict" := by rfl) (he : starEach (e :: es) S.X.env = (false, eval e S.X.env) :: starEach es S.X.env := by rfl) (hpl : (backTo pos (starEach es S.X.env)).any (·.1) = false := by rfl) :
    E S (.Call (.Name "dict" p0) (e :: es) [] pos) env μ P := e_callTy S.hb.dict boot_dict h hg (by decide) (by decide) he hpl
theorem boot_str : bootBuiltins "str" = some (.type "str") := by decide +kernel
theorem k_str (h : A S (e :: es) env μ fun ds μ1 => Cl S (.type "str") ds env μ1 P) (hg : Gl S.X "str" := by rfl) (he : starEach (e :: es) S.X.env = (false, eval e S.X.env) :: starEach es S.X.env := by rfl) (hpl : (backTo pos (starEach es S.X.env)).any (·.1) = false := by rfl) :
    E S (.Call (.Name "str" p0) (e :: es) [] pos) env μ P := e_callTy S.hb.str boot_str h hg (by decide) (by decide) he hpl
theorem boot_bool : bootBuiltins "bool" = some (.type "bool") := by decide +kernel
theorem k_bool (h : A S (e :: es) env μ fun ds μ1 => Cl S (.type "bool") ds env μ1 P) (hg : Gl S.X "bool" := by rfl) (he : starEach (e :: es) S.X.env = (false, eval e S.X.env) :: starEach es S.X.env := by rfl) (hpl : (backTo pos (starEach es S.X.env)).any (·.1) = false := by rfl) :
    E S (.Call (.Name "bool" p0) (e :: es) [] pos) env μ P := e_callTy S.hb.bool boot_bool h hg (by decide) (by decide) he hpl
/-- target = e -/
theorem b_asg {tg : Expr} {rest : List Stmt} {R : Out → Prop} {rel : D → En → En → Prop} {vs : List Nat} (hg : Tg S tg rel vs) (h : E S e env μ fun d m => ∃ env', rel d env env' ∧ B S rest env' m R)
    (hs : swapsWithSole [tg] e pos.line S.X.env = pure false := by rfl) (hw : swappedStores [tg] e S.X.env = pure none := by rfl) (h1 : (assignEach [tg] S.X.env).map (·.2) = [assign tg S.X.env] := by rfl) : B S (.Assign [tg] e pos :: rest) env μ R := by
  refine b_cons (PS.imp (ps_asg h hg hs hw h1) fun Dx σ H ⟨F, as, a, k⟩ => ⟨F, as, a, fun d m v F1 H1 as1 ⟨env', r, b⟩ g1 W1 r1 => ?_⟩)
  exact ⟨d, env, env', F1, as1, r, r1, W1.sub, a.e.mono g1, fun σ' e' _ => k.nx env' m σ' F1 H1 as1 b g1 e' W1⟩
end
end Me

/-! Me23: o.f, o.g = .. -/
namespace Me
open PySem PySem.Spec PyProof.Rows L2
section
variable {X : Cx} {o : Expr} {to : TE} {f : Str} {pos : Pos}
def gFld (K : PySem.W.Frag) (to : TE) (f : Str) : TG := fun v σ H Q => to σ H fun x H1 => ∃ a C dx fs, x = .ref a ∧ H1 a = some (.ins C dx fs) ∧ Cls K C ∧ NoAttr K C f ∧ fs.length < 1000 ∧ Q σ (upd H1 a (.ins C dx (putF f v fs)))
theorem pg_fld (ho : PE X o to) : PG X (.Attribute o f pos) (gFld X.K to f) := by
  refine ⟨fun pins s σ H v u Q I r h => ?_⟩
  rw [assign_Attribute]
  refine wpAny_bind (wpAny_holding (thn (ho.run pins s σ H _ I h) fun ov s1 ⟨x, H1, I1, r1, a, C, dx, fs, ex, ea, c, n, l, q⟩ => ?_))
  subst ex
  obtain rfl : ov = Value.ref a := r1
  refine wpAny_bind (wpAny_standAt (wpAny_bind (wpAny_holding (setattr_ok I1 ea c n l r fun s3 I3 => ?_))))
  exact wpAny_release ⟨σ, _, I3, q⟩
end
section
variable {S : Sc} {env : En} {μ : Mu} {e o1 o2 : Expr} {rest : List Stmt} {R : Out → Prop} {pos p1 p2 pt : Pos} {f1 f2 : Str} {k : Nat}
theorem fld_go {c : String} {f : Str} (hf : Fld S.Γ c f) {σ : L2.St} {F H : Hp} {as : List Ad} {j : Nat} {fs : List (Str × D)} {d : D} {v u : V} {Q : L2.St → Hp → Prop} (W : Wd S.Γ F H as μ) (r : DV S.Γ F as u (.cell j)) (hj : μ[j]? = some (.ins c fs)) (hl : fs.length < 1000) (rv : DV S.Γ F as v d)
    (k : ∀ H', Go F H as F H' as → Wd S.Γ F H' as (μ.set j (.ins c (putF' f d fs))) → Q σ H') :
    ∃ a C dx vs, u = .ref a ∧ H a = some (.ins C dx vs) ∧ Cls S.X.K C ∧ NoAttr S.X.K C f ∧ vs.length < 1000 ∧ Q σ (upd H a (.ins C dx (putF f v vs))) := by
  obtain ⟨C, hc, cl, hn⟩ := hf.ex
  rw [S.hK] at cl hn
  cases r with
  | @cell _ ad ha =>
    obtain ⟨k0, nF, C', dx, vs, hc', h1, h2⟩ := W.ok j ad _ ha hj
    have e2 := hc'
    rw [hc] at e2
    obtain rfl := Option.some.inj e2
    obtain ⟨W3, g3⟩ := W.setO (o := .ins C dx (putF f v vs)) (c := .ins c (putF' f d fs)) ha nF ⟨k0, nF, C, dx, _, hc, upd_same, h2.put rv⟩
    exact ⟨ad.a, C, dx, vs, rfl, h1, cl, hn, by rw [h2.length]; exact hl, k _ g3 W3⟩
theorem b_fld2 (c : String) (hf1 : Fld S.Γ c f1) (hf2 : Fld S.Γ c f2) (hc : S.X.calm = true)
    (h : E S e env μ fun d μ1 => ∃ d1 d2, d = .tup [d1, d2] ∧ E S o1 env μ1 fun q μ2 => ∃ (j : Nat) (fs : List (Str × D)), q = .cell j ∧ μ2[j]? = some (.ins c fs) ∧ fs.length < 1000 ∧
      E S o2 env (μ2.set j (.ins c (putF' f1 d1 fs))) fun q2 μ3 => ∃ (j2 : Nat) (fs2 : List (Str × D)), q2 = .cell j2 ∧ μ3[j2]? = some (.ins c fs2) ∧ fs2.length < 1000 ∧ B S rest env (μ3.set j2 (.ins c (putF' f2 d2 fs2))) R)
    (hs : swapsWithSole [.Tuple [.Attribute o1 f1 p1, .Attribute o2 f2 p2] k pt] e pos.line S.X.env = pure false := by rfl) (hw : swappedStores [.Tuple [.Attribute o1 f1 p1, .Attribute o2 f2 p2] k pt] e S.X.env = pure none := by rfl)
    (h1 : (assignEach [.Tuple [.Attribute o1 f1 p1, .Attribute o2 f2 p2] k pt] S.X.env).map (·.2) = [assign (.Tuple [.Attribute o1 f1 p1, .Attribute o2 f2 p2] k pt) S.X.env] := by rfl) :
    B S (.Assign [.Tuple [.Attribute o1 f1 p1, .Attribute o2 f2 p2] k pt] e pos :: rest) env μ R := by
  refine b_cons (PS.imp (ps_asg h (pg_tup hc (pgs_cons (pg_fld pe_y) (pgs_cons (pg_fld pe_y) pgs_nil))) hs hw h1) fun Dx σ H ⟨F, as, a, kk⟩ => ⟨F, as, a, fun d μ1 v F1 H1 as1 ⟨d1, d2, e1, p1⟩ g1 W1 r1 => ?_⟩)
  subst e1
  obtain ⟨t, vs, rfl, ht, dv⟩ := r1.tupV
  obtain ⟨x, y, rfl, rx, ry⟩ := dvs2 dv
  refine ⟨_, _, rfl, Or.inl (Or.inl (W1.sub _ _ ht)), rfl, x, [y], rfl, ?_⟩
  refine p1.go (a.go g1 W1) fun q μ2 u F2 H2 as2 ⟨j, fs, e1, hj, hl, p2⟩ g2 W2 r2 => ?_
  subst e1
  refine fld_go (σ := σ) (Q := fun σ' H' => gCons (gFld S.X.K (yE S.X o2) f2) gNil [y] σ' H' Dx.nx) hf1 W2 r2 hj hl (rx.mono g2) fun H3 g3 W3 => ⟨y, [], rfl, ?_⟩
  refine p2.go (((a.go g1 W1).go g2 W2).go g3 W3) fun q2 μ3 u2 F4 H4 as4 ⟨j2, fs2, e1, hj2, hl2, p4⟩ g4 W4 r4 => ?_
  subst e1
  refine fld_go (σ := σ) (Q := fun σ' H' => gNil [] σ' H' Dx.nx) hf2 W4 r4 hj2 hl2 (((ry.mono g2).mono g3).mono g4) fun H5 g5 W5 => ⟨rfl, ?_⟩
  exact kk.nx _ _ _ F4 H5 as4 p4 ((((g1.trans g2).trans g3).trans g4).trans g5) (((((a.e.mono g1).mono g2).mono g3).mono g4).mono g5) W5
end
end Me

/-! Me24: y = [.. for ..] of a plain local (the model's own statement). -/
namespace Me
open PySem PySem.Spec PyProof.Rows L2
section
variable {S : Sc} {env : En} {μ : Mu} {elt iter tg : Expr} {ifs : List Expr} {scope : Scope} {rest : List Stmt} {R : Out → Prop} {pos spos py p1 : Pos} {x y : Str}
theorem b_lcG {rel : D → En → En → Prop} (own : List (Str × Nat)) (i : Nat) (fin : List D → Mu → Prop)
    (hfin : ∀ {F H : Hp} {as : List Ad} {Q : VK}, Kv S F H as (fun d μ1 => B S rest (env.set i (some d)) μ1 R) Q → ∀ acc m D0 vs F2 H2 as2, fin acc m → H2 D0 = none → Wd S.Γ F2 H2 as2 m → Go F H as F2 H2 as2 → DVs S.Γ F2 as2 vs acc → Q (.ref D0) (upd H2 D0 (.lst vs)))
    (hc : S.X.calm = true) (hi : S.X.N[i]? = some y) (hyl : S.X.env.scope.names.lookup y = some .local) (hsw : swapsWith (.ListComp elt [⟨tg, iter, ifs, 0⟩] scope pos) (some (.Name y py)) spos.line S.X.env = pure true)
    (ok : BlkOk S.X.N S.X.env.scope scope own) (hg : AllB S scope fun S' => Tg S' tg rel (own.map fun x : Str × Nat => x.2))
    (h : Iter S tg iter env μ fun ds Sx μ1 => ∃ I, Comp S scope rel (own.map fun x : Str × Nat => x.2) elt ifs env I ds Sx μ1 fin) (hf : ∀ x, foldedSetIterable iter S.X.env x = pure x := by intro _; rfl) :
    B S (.Assign [.Name y py] (.ListComp elt [⟨tg, iter, ifs, 0⟩] scope pos) spos :: rest) env μ R := by
  refine b_cons (PS.imp (ps_setLc (own := own) (g := rdG S rel (own.map fun x : Str × Nat => x.2)) (tt := rdTT S scope ifs) (te := rdEE S scope elt) hc S.hN hi hyl hsw h ok hg pts_all pe_all hf) fun D σ H ⟨F, as, a, k⟩ => ?_)
  refine ⟨F, as, a, fun ds Sx μ1 J F1 H1 as1 ⟨I, L⟩ g1 W1 iw => lc_read (Q := fun x H1 => gName i x σ H1 D.nx) fin a L g1 W1 iw (hfin (Q := fun x H1 => gName i x σ H1 D.nx) ?_)⟩
  exact fun d μ1 v F1 H1 as1 p1 g1 W1 r1 => k.nx _ μ1 _ F1 H1 as1 p1 g1 ((a.e.mono g1).set r1 i) W1
/-- y = [elt for x in iter if ..], the list as a value -/
theorem b_lc (i j : Nat) (ok : BlkOk S.X.N S.X.env.scope scope [(x, i)])
    (h : Iter S (.Name x p1) iter env μ fun ds Sx μ1 => ∃ I, Comp S scope (rName i) [i] elt ifs env I ds Sx μ1 (FinL fun d μ1 => B S rest (env.set j (some d)) μ1 R))
    (hc : S.X.calm = true := by rfl) (hn : S.X.N[i]? = some x := by rfl) (hj : S.X.N[j]? = some y := by rfl) (hyl : S.X.env.scope.names.lookup y = some .local := by rfl)
    (hsw : swapsWith (.ListComp elt [⟨.Name x p1, iter, ifs, 0⟩] scope pos) (some (.Name y py)) spos.line S.X.env = pure true := by rfl)
    (hx : NameOk S scope x := by exact fun _ _ _ _ _ => ⟨by first | exact .inl rfl | exact .inr rfl, by first | exact .inl rfl | exact .inr rfl⟩)
    (hf : ∀ x, foldedSetIterable iter S.X.env x = pure x := by intro _; rfl) : B S (.Assign [.Name y py] (.ListComp elt [⟨.Name x p1, iter, ifs, 0⟩] scope pos) spos :: rest) env μ R :=
  b_lcG (rel := rName i) [(x, i)] j _ fin_l hc hj hyl hsw ok (fun s H C cl fp => g_name (S := Blk S scope s H C cl fp) i hn (hx s H C cl fp).1 (hx s H C cl fp).2) h hf
/-- y = [elt for x in iter if ..], the list as a cell -/
theorem b_lcC (i j : Nat) (ok : BlkOk S.X.N S.X.env.scope scope [(x, i)])
    (h : Iter S (.Name x p1) iter env μ fun ds Sx μ1 => ∃ I, Comp S scope (rName i) [i] elt ifs env I ds Sx μ1 (FinC fun d μ1 => B S rest (env.set j (some d)) μ1 R))
    (hc : S.X.calm = true := by rfl) (hn : S.X.N[i]? = some x := by rfl) (hj : S.X.N[j]? = some y := by rfl) (hyl : S.X.env.scope.names.lookup y = some .local := by rfl)
    (hsw : swapsWith (.ListComp elt [⟨.Name x p1, iter, ifs, 0⟩] scope pos) (some (.Name y py)) spos.line S.X.env = pure true := by rfl)
    (hx : NameOk S scope x := by exact fun _ _ _ _ _ => ⟨by first | exact .inl rfl | exact .inr rfl, by first | exact .inl rfl | exact .inr rfl⟩)
    (hf : ∀ x, foldedSetIterable iter S.X.env x = pure x := by intro _; rfl) : B S (.Assign [.Name y py] (.ListComp elt [⟨.Name x p1, iter, ifs, 0⟩] scope pos) spos :: rest) env μ R :=
  b_lcG (rel := rName i) [(x, i)] j _ fin_c hc hj hyl hsw ok (fun s H C cl fp => g_name (S := Blk S scope s H C cl fp) i hn (hx s H C cl fp).1 (hx s H C cl fp).2) h hf
end
end Me

/-! Me25: sets of text tuples (fewer than 64) in the model's own table: search, adding, laying anew. -/
namespace Me
open PySem PySem.Spec PyProof.Rows L2
abbrev hNm (P : Program) (w : World) (n : List Str) : Int := tupleKeyHash (strKind P w) n
abbrev NmAt (P : Program) (w : World) (h : Heap) (n : List Str) (b : Addr) : Prop := IsTupleKey (strKind P w) h n b
abbrev stp (m : Nat) (g : Int) (c : Nat) : SetTable.Probe := nth m (runAt m (SetTable.bits g % (m + 1)) (SetTable.bits g)) c
abbrev Nms := List (Addr × List Str)
def rwN (P : Program) (w : World) (L : Nms) : List (Int × Value) := L.map fun q => (hNm P w q.2, .ref q.1)
section
variable {P : Program} {w : World} {A : Around} {E : Value → Shared → Prop} {s : Shared}
theorem strs_of {n : List Str} {us : List Value} (h : ItemsAre (strKind P w) n us) : ∀ u ∈ us, ∃ x t, u = .str x t := by
  induction h with
  | nil => exact fun _ z => nomatch z
  | cons h1 _ ih =>
    intro u hu
    rcases List.mem_cons.mp hu with rfl | hu
    · exact ⟨_, Value.isStrOf_shape h1⟩
    · exact ih u hu
theorem noClass_name {n : List Str} {b : Addr} {Q : Bool → Shared → Prop} (hb : NmAt P w s.heap n b) (q : Q false s) : wpAny (model P w) A (ofAClassStatement 8 (.ref b)) Q E s := by
  have ty := hb.typeIs
  obtain ⟨o, items, m, h1, _, h2, hi⟩ := hb
  unfold ofAClassStatement
  refine wpAny_bind (wpAny_typeOf ty ?_)
  dsimp only
  simp only [show (("tuple" : String) == "tuple") = true from by decide, if_true, Bool.not_true, Bool.false_eq_true, if_false]
  try refine wpAny_bind (wpAny_pure ?_)
  try simp only [Bool.not_true, Bool.false_eq_true, if_false]
  show wpAny _ _ (seqItems? (.ref b) >>= _) _ _ s
  refine wpAny_bind (wpAny_seqItems h1 h2 ?_)
  dsimp only
  refine wpAny_bind ?_
  show wpAny _ _ (forIn items _ _) _ _ s
  rw [← Array.forIn_toList]
  refine wpAny_forIn_list _ (fun us r s' => r.1 = none ∧ s' = s ∧ ∀ u ∈ us, ∃ x t, u = .str x t) _ ?_ ?_ _ _ ⟨rfl, rfl, strs_of hi⟩
  · rintro u us r s' ⟨_, rfl, al⟩
    obtain ⟨x, t, rfl⟩ := al u List.mem_cons_self
    rw [show ofAClassStatement 7 (.str x t) = pure false from rfl]
    refine wpAny_bind (wpAny_pure ?_)
    simp only [Bool.false_eq_true, if_false]
    exact wpAny_pure ⟨rfl, rfl, fun y hy => al y (List.mem_cons_of_mem _ hy)⟩
  · rintro ⟨r1, r2⟩ s' ⟨e, rfl, _⟩
    simp only at e
    subst e
    exact wpAny_pure q
theorem byValue_name {n : List Str} {b : Addr} {Q : Bool → Shared → Prop} (hb : NmAt P w s.heap n b) (q : ∀ r, Q r s) : wpAny (model P w) A (hashByValue 8 (.ref b)) Q E s := by
  have ty := hb.typeIs
  obtain ⟨o, items, m, h1, _, h2, hi⟩ := hb
  unfold hashByValue
  refine wpAny_bind (wpAny_specialOf ty F.slot_tuple_hash.lookup ?_)
  show wpAny _ _ (seqItems? (.ref b) >>= _) _ _ s
  refine wpAny_bind (wpAny_seqItems h1 h2 (wpAny_bind ?_))
  show wpAny _ _ (forIn items _ _) _ _ s
  rw [← Array.forIn_toList]
  refine wpAny_forIn_list _ (fun us r s' => r.1 = none ∧ s' = s ∧ ∀ u ∈ us, ∃ x t, u = .str x t) _ ?_ ?_ _ _ ⟨rfl, rfl, strs_of hi⟩
  · rintro u us r s' ⟨_, rfl, al⟩
    obtain ⟨x, t, rfl⟩ := al u List.mem_cons_self
    have e : hashByValue 7 (.str x t) = pure false := by unfold hashByValue; rfl
    rw [e]
    refine wpAny_bind (wpAny_pure ?_)
    simp only [Bool.not_false, if_true]
    exact wpAny_pure (wpAny_pure (q _))
  · rintro ⟨r1, r2⟩ s' ⟨e, rfl, _⟩
    simp only at e
    subst e
    exact wpAny_pure (q _)
theorem unseen_name {n : List Str} {b : Addr} {Q : Bool → Shared → Prop} (hb : NmAt P w s.heap n b) {us : List Value} (hu : ∀ u ∈ us, ∃ n' c, u = .ref c ∧ NmAt P w s.heap n' c) (q : Q false s) :
    wpAny (model P w) A (searchCouldBeSeen (.ref b) us) Q E s := by
  unfold searchCouldBeSeen
  refine wpAny_bind (wpAny_forIn_list _ (fun us r s' => r.1 = none ∧ s' = s ∧ ∀ u ∈ us, ∃ n' c, u = .ref c ∧ NmAt P w s.heap n' c) _ ?_ ?_ _ _ ⟨rfl, rfl, hu⟩)
  · rintro u us r s' ⟨_, rfl, al⟩
    obtain ⟨n', c, rfl, hc⟩ := al u List.mem_cons_self
    have al' := fun y (hy : y ∈ us) => al y (List.mem_cons_of_mem _ hy)
    dsimp only
    by_cases z : (b == c || (carriedByValue (.ref b) && carriedByValue (.ref c))) = true
    · exact wp_if_pos z (wpAny_pure ⟨rfl, rfl, al'⟩)
    · refine wp_if_neg z (wpAny_bind (wpAny_eqIsQuiet_tuple hb ?_))
      simp only [Bool.not_true, Bool.false_eq_true, if_false]
      refine wpAny_bind (wpAny_eqIsQuiet_tuple hc ?_)
      simp only [Bool.not_true, Bool.false_eq_true, if_false]
      refine wpAny_bind (noClass_name hb ?_)
      simp only [Bool.false_eq_true, if_false]
      refine wpAny_bind (noClass_name hc ?_)
      simp only [Bool.false_eq_true, if_false]
      exact wpAny_pure ⟨rfl, rfl, al'⟩
  · rintro ⟨r1, r2⟩ s' ⟨e, rfl, _⟩
    simp only at e
    subst e
    exact wpAny_pure q
end
/-- the set at a has the names L in its table -/
structure NSet (P : Program) (w : World) (h : Heap) (a : Addr) (L : Nms) (es : Array (Int × Value)) (ep : Nat) (t : SetTable) : Prop where
  obj : ∃ o, h.get? a = some o ∧ o.ExactSet ∧ o.data = .set es ep t
  rw_ : es.toList = rwN P w L
  tb : TabOk t (L.map fun q => hNm P w q.2)
  nd : (L.map fun q => q.2).Nodup
  nms : ∀ q ∈ L, NmAt P w h q.2 q.1
  ld : w.params.followText "set-order" = true ∨ t.led = true
  rm : L.length * 5 < t.mask * 3
  few : L.length < 64
section
variable {P : Program} {w : World} {A : Around} {E : Value → Shared → Prop} {s : Shared} {h : Heap} {a : Addr} {L : Nms} {es : Array (Int × Value)} {ep : Nat} {t : SetTable}
theorem rw_len (e : es.toList = rwN P w L) : es.size = L.length := by
  have z := congrArg List.length e
  unfold rwN at z
  rwa [Array.length_toList, List.length_map] at z
theorem rw_at (e : es.toList = rwN P w L) {i : Nat} {q : Addr × List Str} (hq : L[i]? = some q) : es[i]? = some (hNm P w q.2, .ref q.1) := by
  rw [← Array.getElem?_toList, e]
  unfold rwN
  rw [List.getElem?_map, hq]
  rfl
theorem fits_of (hs : t.place.size = es.size) (hd : t.dummies = #[]) (hm : es.size ≤ t.mask) : t.fits es.size = true := by
  unfold SetTable.fits SetTable.fill
  rw [hd, Bool.and_eq_true, beq_iff_eq, decide_eq_true_eq]
  exact ⟨hs, by show t.place.size + 0 ≤ t.mask; omega⟩
theorem NSet.psz (R : NSet P w h a L es ep t) : t.place.size = es.size := by
  have := R.tb.sz
  rw [List.length_map] at this
  rw [this, rw_len R.rw_]
theorem NSet.fits (R : NSet P w h a L es ep t) : t.fits es.size = true := fits_of R.psz R.tb.dm (by
  have := R.rm
  rw [rw_len R.rw_]
  omega)
theorem stp_dm (m : Nat) : ∀ (c : Nat) (p : SetTable.Probe), p.dummy = none → (nth m p c).dummy = none
  | 0, _, h => h
  | c + 1, p, h => stp_dm m c (adv m p) (by unfold adv; split <;> exact h)
/-- the search from its c-th step on -/
theorem seek (R : NSet P w s.heap a L es ep t) {x : Addr} {n : List Str} (hx : NmAt P w s.heap n x) (hu : A.units < cLine) {g : Int} (hg : hNm P w n = g) {K : Nat} (hKf : K < 10 * SetTable.turns t.mask)
    (hK : way t.mask g K ∉ t.place.toList) (hb : ∀ c, c < K → way t.mask g c ∈ t.place.toList) {Q : SetFound → Shared → Prop}
    (yes : n ∈ L.map (fun q => q.2) → Q (.there none) s) (no : n ∉ L.map (fun q => q.2) → Q (.free (way t.mask g K) false) s) :
    ∀ (f c : Nat) (st : Option SetTable.Probe), st.getD (t.probeStart g) = stp t.mask g c → c ≤ K → K - c < f →
      (∀ (i : Nat) q, L[i]? = some q → q.2 = n → ∃ c', c ≤ c' ∧ c' < K ∧ t.place.toList[i]? = some (way t.mask g c')) →
      wpAny (model P w) A (setSearchFrom a (.ref x) g true f st) Q E s
  | 0, _, _, _, _, z, _ => absurd z (Nat.not_lt_zero _)
  | f + 1, c, st, est, hc, hf, ahead => by
    obtain ⟨o, ho, _, hd⟩ := R.obj
    have fit := R.fits
    rw [setSearchFrom_succ]
    refine wpAny_bind (wpAny_setState_of ho hd fit ?_)
    dsimp only
    refine wp_if_neg (by unfold SetTable.gaveWay; rw [mask_odd R.tb.mok]; decide) ?_
    try refine wpAny_bind (wpAny_pure ?_)
    have on : ∀ q, nth t.mask (stp t.mask g c) q = stp t.mask g (c + q) := fun q => (nth_add t.mask c _ q).symm
    have onj : ∀ q, (nth t.mask (stp t.mask g c) q).j = way t.mask g (c + q) := fun q => congrArg SetTable.Probe.j (on q)
    have tell := go_spec t R.tb.ris R.tb.dm (fun i => (es[i]?.map (·.1)).getD 0) g (10 * SetTable.turns t.mask) (K - c) _ (stp_dm t.mask c _ rfl) (by omega)
      (fun q hq => by rw [onj]; exact hb (c + q) (by omega)) (by rw [onj, Nat.add_sub_cancel' hc]; exact hK)
    have hat : ∀ (i : Nat) q, L[i]? = some q → (fun i => (es[i]?.map (·.1)).getD 0) i = hNm P w q.2 := fun i q hq => by
      show (es[i]?.map (·.1)).getD 0 = _
      rw [rw_at R.rw_ hq]
      rfl
    rcases tell with ⟨q, i, hq, hi, _, before, pr⟩ | ⟨before, pr⟩
    · have pr' : t.probe (fun i => (es[i]?.map (·.1)).getD 0) g (st.getD (t.probeStart g)) = some (.candidate (way t.mask g (c + q)) i (stp t.mask g (c + (q + 1)))) := by
        rw [est, ← onj, ← on]
        exact pr
      rw [pr']
      dsimp only
      rw [onj] at hi
      have il : i < L.length := by
        have := (List.getElem?_eq_some_iff.mp hi).1
        rw [Array.length_toList, R.psz, rw_len R.rw_] at this
        exact this
      obtain ⟨e, he⟩ : ∃ e, L[i]? = some e := ⟨_, List.getElem?_eq_getElem il⟩
      have hm := List.mem_of_getElem? he
      have sl := slot_live R.tb.ris hi
      have tail : wpAny (model P w) A (searchRest a (.ref x) g true f es t (way t.mask g (c + q)) i (stp t.mask g (c + (q + 1)))) Q E s := by
        unfold searchRest
        rw [rw_at R.rw_ he]
        dsimp only
        refine wpAny_bind (wpAny_holding (wpAny_eqBool_tuple hu (R.nms e hm) hx (wpAny_bind (wpAny_setState_of ho hd fit ?_))))
        dsimp only
        by_cases same : e.2 = n
        · exact wp_if_pos (by simp [same]) (wpAny_pure (yes (List.mem_map.mpr ⟨e, hm, same⟩)))
        · refine wp_if_neg (by simp [same]) ?_
          try refine wpAny_bind (wpAny_pure ?_)
          rw [show t.sameMemory t.moves t.mask = some true by unfold SetTable.sameMemory; rw [if_pos (beq_self_eq_true _)]]
          dsimp only
          simp only [if_true, sl, rw_at R.rw_ he]
          refine wpAny_bind (wpAny_isSame_ref_self (wpAny_bind (wpAny_pure ?_)))
          simp only [if_true]
          refine wp_if_neg (by simp [same]) (seek R hx hu hg hKf hK hb yes no f (c + (q + 1)) _ rfl (by omega) (by omega) fun i0 e0 h0 k0 => ?_)
          obtain ⟨c', a1, a2, a3⟩ := ahead i0 e0 h0 k0
          refine ⟨c', ?_, a2, a3⟩
          have far : ¬ c' ≤ c + q := fun z => ?_
          · omega
          by_cases z2 : c' = c + q
          · rw [z2] at a3
            have s0 := slot_live R.tb.ris a3
            rw [sl] at s0
            injection s0 with s0
            rw [← s0, he] at h0
            exact same (by rw [Option.some.inj h0]; exact k0)
          · refine before (c' - c) i0 (by omega) (by rw [onj, Nat.add_sub_cancel' a1]; exact a3) ((hat i0 e0 h0).trans (by rw [k0]; exact hg))
      by_cases l : t.led = true
      · refine wp_if_neg (by simp [l]) ?_
        try refine wpAny_bind (wpAny_pure ?_)
        exact tail
      · refine wp_if_pos (by simp [l]) (wpAny_bind (unseen_name hx (fun y hy => ?_) ?_))
        · obtain ⟨y', hy', ey⟩ := List.mem_map.mp hy
          have y1 : y' ∈ es ∧ y'.1 = g := by simpa using hy'
          have y2 : y' ∈ es.toList := by simpa using y1.1
          rw [R.rw_] at y2
          obtain ⟨q2, m2, e2⟩ := List.mem_map.mp y2
          exact ⟨q2.2, q2.1, by rw [← ey, ← e2], R.nms q2 m2⟩
        · refine wp_if_neg (by decide) ?_
          try refine wpAny_bind (wpAny_pure ?_)
          exact tail
    · have pr' : t.probe (fun i => (es[i]?.map (·.1)).getD 0) g (st.getD (t.probeStart g)) = some (.empty (way t.mask g K) none) := by
        have z := onj (K - c)
        rw [Nat.add_sub_cancel' hc] at z
        rw [est, ← z]
        exact pr
      rw [pr']
      dsimp only
      refine wpAny_pure (no fun z => ?_)
      obtain ⟨e0, h0, k0⟩ := List.mem_map.mp z
      obtain ⟨i0, l0, rfl⟩ := List.getElem_of_mem h0
      have h00 := List.getElem?_eq_getElem l0
      obtain ⟨c', a1, a2, a3⟩ := ahead i0 _ h00 k0
      refine before (c' - c) i0 (by omega) (by rw [onj, Nat.add_sub_cancel' a1]; exact a3) ((hat i0 _ h00).trans (by rw [k0]; exact hg))
/-- the search ahead of adding -/
theorem seek0 (R : NSet P w s.heap a L es ep t) {x : Addr} {n : List Str} (hx : NmAt P w s.heap n x) (hu : A.units < cLine) {g : Int} (hg : hNm P w n = g) {Q : SetFound → Shared → Prop} (yes : n ∈ L.map (fun q => q.2) → Q (.there none) s)
    (no : ∀ K, n ∉ L.map (fun q => q.2) → way t.mask g K ∉ t.place.toList → (∀ c, c < K → way t.mask g c ∈ t.place.toList) → Q (.free (way t.mask g K) false) s) : wpAny (model P w) A (setSearch a (.ref x) g true) Q E s := by
  have rm := R.rm
  obtain ⟨K, kf, hK, hb⟩ := R.tb.first (by rw [List.length_map]; omega) g
  have big : K < 100000 := by
    have : 10 * SetTable.turns t.mask ≤ 1420 := by
      unfold SetTable.turns
      rcases R.tb.mok with e | e | e <;> omega
    omega
  unfold setSearch
  refine seek R hx hu hg kf hK hb yes (fun z => no K z hK hb) 100000 0 none rfl (Nat.zero_le _) (by omega) fun i q hq k => ?_
  have hi : (L.map fun q => hNm P w q.2)[i]? = some g := by
    rw [List.getElem?_map, hq, ← hg, ← k]
    rfl
  have il : i < t.place.toList.length := by
    rw [Array.length_toList, R.psz, rw_len R.rw_]
    exact (List.getElem?_eq_some_iff.mp hq).1
  have hj := List.getElem?_eq_getElem il
  obtain ⟨c, hc, e⟩ := R.tb.before hK hi hj
  exact ⟨c, Nat.zero_le _, hc, by rw [hj, e]⟩
theorem NmAt.off {h h' : Heap} {n : List Str} {b : Addr} {o : Obj} (hb : NmAt P w h n b) (ho : h.get? a = some o) (hd : o.data = .set es ep t) (sb : Heap.SameBut a h h') : NmAt P w h' n b := by
  obtain ⟨o', items, m, h1, c1, d1, i1⟩ := hb
  refine ⟨o', items, m, (sb.2 b fun z => ?_).trans h1, c1, d1, i1⟩
  rw [z, ho] at h1
  rw [← Option.some.inj h1, hd] at d1
  exact nomatch d1
theorem order_of (e : es.toList = rwN P w L) (order : Array Nat) (hp : order.toList.Perm (List.range L.length)) :
    ∃ M : Nms, (order.filterMap (es[·]?)).toList = rwN P w M ∧ M.Perm L ∧ (M.map fun q => hNm P w q.2) = order.toList.map fun i => (es.map (·.1)).getD i 0 := by
  have key : ∀ l : List Nat, (∀ i ∈ l, i < L.length) → l.filterMap (fun i => es[i]?) = rwN P w (l.filterMap fun i => L[i]?) ∧ ((l.filterMap fun i => L[i]?).map fun q => hNm P w q.2) = l.map fun i => (es.map (·.1)).getD i 0 := by
    intro l
    induction l with
    | nil => exact fun _ => ⟨rfl, rfl⟩
    | cons i l ih =>
      intro hl
      obtain ⟨a1, a2⟩ := ih fun j hj => hl j (List.mem_cons_of_mem _ hj)
      have hi := List.getElem?_eq_getElem (hl i List.mem_cons_self)
      have ei := rw_at e hi
      constructor
      · rw [List.filterMap_cons_some ei, List.filterMap_cons_some hi, a1]
        rfl
      · rw [List.filterMap_cons_some hi, List.map_cons, List.map_cons, a2]
        have e5 : (es.map (·.1))[i]? = some (hNm P w (L[i]'(hl i List.mem_cons_self)).2) := by rw [Array.getElem?_map, ei]; rfl
        rw [show (es.map (·.1)).getD i 0 = hNm P w (L[i]'(hl i List.mem_cons_self)).2 by simp [Array.getD_eq_getD_getElem?, e5]]
  obtain ⟨a1, a2⟩ := key order.toList fun i hi => List.mem_range.mp (hp.mem_iff.mp hi)
  refine ⟨_, by first | (rw [Array.toList_filterMap]; exact a1) | simpa using a1, ?_, a2⟩
  have whole : (List.range L.length).filterMap (fun i => L[i]?) = L := by
    have : ∀ m, m ≤ L.length → (List.range m).filterMap (fun i => L[i]?) = L.take m := by
      intro m
      induction m with
      | zero => exact fun _ => rfl
      | succ m ih =>
        intro hm
        have hi := List.getElem?_eq_getElem (show m < L.length from hm)
        rw [List.range_succ, List.filterMap_append, ih (Nat.le_of_lt hm), List.take_succ, hi, List.filterMap_cons_some hi]
        rfl
    rw [this _ (Nat.le_refl _), List.take_length]
  have z := hp.filterMap fun i => L[i]?
  rwa [whole] at z
end
end Me

/-! Me26: a name added to a set; set(list of names), set(tuple of names). -/
namespace Me
open PySem PySem.Spec PyProof.Rows L2
section
variable {P : Program} {w : World} {A : Around} {E : Value → Shared → Prop} {s : Shared} {h : Heap} {a : Addr} {L : Nms} {es : Array (Int × Value)} {ep : Nat} {t : SetTable}
/-- laid anew, larger -/
theorem relay_nm {o : Obj} (ho : s.heap.get? a = some o) (hex : o.ExactSet) (hd : o.data = .set es ep t) (er : es.toList = rwN P w L) (hsz : t.place.size = es.size) (hdm : t.dummies = #[]) (hfl : es.size ≤ t.mask)
    (nd : (L.map fun q => q.2).Nodup) (nms : ∀ q ∈ L, NmAt P w s.heap q.2 q.1) (ld : w.params.followText "set-order" = true ∨ t.led = true) (few : L.length < 64) {want M : Nat} (hw : SetTable.sizeAbove want - 1 = M) (hM : MaskOk M)
    (small : SetTable.sizeAbove want ≤ 128) (hn : L.length * 5 < M * 3) {Q : Unit → Shared → Prop} (k : ∀ h' L' es' ep' t', Heap.SameBut a s.heap h' → NSet P w h' a L' es' ep' t' → L'.Perm L → Q () { s with heap := h' }) :
    wpAny (model P w) A (setRelay a want) Q E s := by
  have sl := rw_len er
  obtain ⟨t', order, e, hp, T, em, el, _, _⟩ := relaid_ok t (hs := es.map (·.1)) (wanted := want) hw hM (by rw [Array.size_map, sl]; omega)
  rw [Array.size_map, sl] at hp
  obtain ⟨L2, r1, r2, r3⟩ := order_of er order hp
  rw [← r3] at T
  have s2 : (order.filterMap (es[·]?)).size = es.size := by rw [rw_len r1, r2.length_eq, sl]
  rw [setRelay_eq]
  refine wpAny_bind (wpAny_setState_of ho hd (fits_of hsz hdm hfl) ?_)
  dsimp only
  refine wp_if_neg (by rw [sizeLine_eq]; omega) ?_
  try refine wpAny_bind (wpAny_pure ?_)
  rw [e]
  dsimp only
  refine wpAny_bind (wp_if_neg (by rw [s2]; simp) ?_)
  try refine wpAny_bind (wpAny_pure ?_)
  refine wpAny_pure ?_
  dsimp only
  refine wpAny_storeSet_of ho hd ?_ (by rw [s2, sl, sizeLine_eq]; omega)
  have sb : Heap.SameBut a s.heap (s.heap.update a (Obj.putSet (order.filterMap (es[·]?)) t')) := Heap.SameBut.update ..
  refine k _ L2 _ (ep + 1) t' sb ⟨⟨_, store_at ho hd, ⟨hex.1, hex.2.1, hex.2.2⟩, rfl⟩, r1, T, (r2.map _).nodup_iff.mpr nd, fun q hq => (nms q (r2.mem_iff.mp hq)).off ho hd sb, by rw [el]; exact ld, by rw [r2.length_eq, em]; exact hn, by rw [r2.length_eq]; exact few⟩ r2
/-- adding -/
theorem add_nm (R : NSet P w s.heap a L es ep t) {x : Addr} {n : List Str} (hx : NmAt P w s.heap n x) (hu : A.units < cLine) (few : L.length + 1 < 64) {Q : Bool → Shared → Prop}
    (k : ∀ b h' L' es' ep' t', Heap.SameBut a s.heap h' → NSet P w h' a L' es' ep' t' → (n ∈ L.map (fun q => q.2) → L' = L) → (n ∉ L.map (fun q => q.2) → L'.Perm ((x, n) :: L)) → Q b { s with heap := h' }) :
    wpAny (model P w) A (setAddHashed a (.ref x) (hNm P w n)) Q E s := by
  obtain ⟨o, ho, hex, hd⟩ := R.obj
  have sl := rw_len R.rw_
  have rm := R.rm
  unfold setAddHashed
  refine wpAny_holding ?_
  rw [show (100000 : Nat) = 99999 + 1 from rfl, setAddHashedIn_succ]
  refine wpAny_bind (wpAny_setState_of ho hd R.fits ?_)
  dsimp only
  refine wp_if_neg (by simp [byScan, Value.scannable]) ?_
  try refine wpAny_bind (wpAny_pure ?_)
  obtain ⟨g, hg⟩ : ∃ g, hNm P w n = g := ⟨_, rfl⟩
  rw [hg]
  refine wpAny_bind (seek0 R hx hu hg (fun hm => ?_) fun K hm hK hb => ?_)
  · dsimp only
    exact wpAny_pure (k false s.heap L es ep t (Heap.SameBut.refl a s.heap) R (fun _ => rfl) fun z => absurd hm z)
  dsimp only
  refine wpAny_bind (wpAny_setState_of ho hd R.fits ?_)
  dsimp only
  obtain ⟨q1, q2, q3, q4, q5, _, _, _, q9⟩ := R.tb.put hK hb
  generalize hpt : t.put (way t.mask g K) = pt at q1 q3 q4 q5 q9 ⊢
  obtain ⟨t1, p⟩ := pt
  dsimp only at q1 q3 q4 q5 q9 ⊢
  subst q1
  have ein : (SetTable.insertAt es (SetTable.below t.place (way t.mask g K)) (g, Value.ref x)).toList = rwN P w (L.take (SetTable.below t.place (way t.mask g K)) ++ (x, n) :: L.drop (SetTable.below t.place (way t.mask g K))) := by
    rw [SetTable.toList_insertAt, R.rw_]
    unfold rwN
    rw [List.map_append, List.map_cons, List.map_take, List.map_drop]
    rw [hg]
  generalize SetTable.below t.place (way t.mask g K) = p at q2 q3 ein ⊢
  have pm : (L.take p ++ (x, n) :: L.drop p).Perm ((x, n) :: L) := by
    have z : (L.take p ++ (x, n) :: L.drop p).Perm ((x, n) :: (L.take p ++ L.drop p)) := List.perm_middle
    rwa [List.take_append_drop] at z
  have eh : (L.take p ++ (x, n) :: L.drop p).map (fun q => hNm P w q.2) = (L.map fun q => hNm P w q.2).take p ++ g :: (L.map fun q => hNm P w q.2).drop p := by
    rw [List.map_append, List.map_cons, List.map_take, List.map_drop, hg]
  rw [← eh] at q3
  generalize L.take p ++ (x, n) :: L.drop p = L1 at pm q3 ein
  have l1 : L1.length = L.length + 1 := pm.length_eq
  have n1 : (L1.map fun q => q.2).Nodup := (pm.map _).nodup_iff.mpr (by rw [List.map_cons]; exact List.nodup_cons.mpr ⟨hm, R.nd⟩)
  generalize SetTable.insertAt es p (g, Value.ref x) = es1 at ein ⊢
  have s1 : es1.size = L.length + 1 := by rw [rw_len ein, l1]
  have whole : ∀ t2 : SetTable, TabOk t2 (L1.map fun q => hNm P w q.2) → t2.mask = t.mask → t2.led = t.led → t2.fill = L.length + 1 → wpAny (model P w) A (storeSet a es1 t2 >>= fun _ => if (!false && t2.tooFull) = true then do { setRelay a (SetTable.grown (es.size + 1)); pure true } else pure true) Q E s := by
    intro t2 T2 m2 e2 f2
    refine wpAny_bind (wpAny_storeSet_of ho hd ?_ (by rw [s1, sizeLine_eq]; omega))
    have sb : Heap.SameBut a s.heap (s.heap.update a (Obj.putSet es1 t2)) := Heap.SameBut.update ..
    have ho1 := store_at (es' := es1) (t' := t2) ho hd
    generalize s.heap.update a (Obj.putSet es1 t2) = h1 at sb ho1 ⊢
    have nm1 : ∀ q ∈ L1, NmAt P w h1 q.2 q.1 := fun q hq => by
      rcases List.mem_cons.mp (pm.mem_iff.mp hq) with e | z
      · rw [e]; exact hx.off ho hd sb
      · exact (R.nms q z).off ho hd sb
    have ld1 : w.params.followText "set-order" = true ∨ t2.led = true := by rw [e2]; exact R.ld
    by_cases full : t2.tooFull = true
    · refine wp_if_pos (by simp [full]) (wpAny_bind ?_)
      have hf : (L.length + 1) * 5 ≥ t2.mask * 3 := by
        have z := full
        unfold SetTable.tooFull at z
        rw [decide_eq_true_eq, f2] at z
        exact z
      rw [sl]
      have two : (t.mask = 7 ∧ L.length = 4) ∨ (t.mask = 31 ∧ L.length = 18) := by
        rw [m2] at hf
        rcases R.tb.mok with e | e | e
        · exact .inl ⟨e, by omega⟩
        · exact .inr ⟨e, by omega⟩
        · omega
      have sz1 : t2.place.size = es1.size := by
        have z := T2.sz
        rw [List.length_map, l1] at z
        rw [z, s1]
      have go : ∀ M, SetTable.sizeAbove (SetTable.grown (L.length + 1)) - 1 = M → MaskOk M → SetTable.sizeAbove (SetTable.grown (L.length + 1)) ≤ 128 → (L.length + 1) * 5 < M * 3 →
          wpAny (model P w) A (setRelay a (SetTable.grown (L.length + 1))) (fun _ s' => wpAny (model P w) A (pure true) Q E s') E { s with heap := h1 } := fun M z1 z2 z3 z4 =>
        relay_nm (s := { s with heap := h1 }) ho1 ⟨hex.1, hex.2.1, hex.2.2⟩ rfl ein sz1 T2.dm (by rw [s1, m2]; rcases two with ⟨e, e2⟩ | ⟨e, e2⟩ <;> omega) n1 nm1 ld1 (by rw [l1]; exact few) z1 z2 z3 (by rw [l1]; exact z4)
          fun h2 L2 es2 ep2 t3 sb2 R2 pm2 => wpAny_pure (k true h2 L2 es2 ep2 t3 (sb.trans sb2) R2 (fun z => absurd z hm) fun _ => pm2.trans pm)
      rcases two with ⟨_, e2⟩ | ⟨_, e2⟩
      · exact go 31 (by rw [e2, size_20]) (.inr (.inl rfl)) (by rw [e2, size_20]; decide) (by omega)
      · exact go 127 (by rw [e2, size_76]) (.inr (.inr rfl)) (by rw [e2, size_76]; decide) (by omega)
    · refine wp_if_neg (by simp [full]) ?_
      refine wpAny_pure (k true h1 L1 es1 (ep + 1) t2 sb ⟨⟨_, ho1, ⟨hex.1, hex.2.1, hex.2.2⟩, rfl⟩, ein, T2, n1, nm1, ld1, ?_, by rw [l1]; exact few⟩ (fun z => absurd z hm) fun _ => pm)
      have z := full
      unfold SetTable.tooFull at z
      rw [decide_eq_true_eq, f2] at z
      rw [l1]
      omega
  rw [List.length_map] at q9
  have both : ∀ r : Bool, wpAny (model P w) A (storeSet a es1 (if r = true then t1 else { t1 with plain := false }) >>= fun _ => if (!false && (if r = true then t1 else { t1 with plain := false }).tooFull) = true then do { setRelay a (SetTable.grown (es.size + 1)); pure true } else pure true) Q E s := fun r => by
    cases r
    · exact whole { t1 with plain := false } ⟨q3.ris, q3.dm, q3.sz, q3.mok, q3.bd, q3.reach⟩ q4 q5 q9
    · exact whole t1 q3 q4 q5 q9
  by_cases z : t1.plain = true
  · exact wp_if_pos z (wpAny_bind (byValue_name hx both))
  · exact wp_if_neg z (wpAny_bind (wpAny_pure (both true)))
end
/-- what the first i items have brought -/
structure Brought (ks : Nms) (i : Nat) (L : Nms) : Prop where
  sub : ∀ q ∈ L, q ∈ ks.take i
  all : ∀ q ∈ ks.take i, q.2 ∈ L.map fun q => q.2
  len : L.length ≤ i
theorem take_one {α : Type} {l : List α} {i : Nat} {x : α} (h : l[i]? = some x) : l.take (i + 1) = l.take i ++ [x] := by
  rw [List.take_succ, h]
  rfl
theorem Brought.same {ks L : Nms} {i : Nat} {x : Addr × List Str} (g : Brought ks i L) (h : ks[i]? = some x) (hm : x.2 ∈ L.map fun q => q.2) : Brought ks (i + 1) L := by
  refine ⟨fun p hp => ?_, fun p hp => ?_, Nat.le_succ_of_le g.len⟩
  · rw [take_one h]
    exact List.mem_append_left _ (g.sub p hp)
  · rw [take_one h] at hp
    exact (List.mem_append.mp hp).elim (g.all p) fun z => by rw [List.mem_singleton.mp z]; exact hm
theorem Brought.more {ks L L' : Nms} {i : Nat} {x : Addr × List Str} (g : Brought ks i L) (h : ks[i]? = some x) (pm : L'.Perm (x :: L)) : Brought ks (i + 1) L' := by
  refine ⟨fun p hp => ?_, fun p hp => ?_, by rw [pm.length_eq]; exact Nat.succ_le_succ g.len⟩
  · rw [take_one h]
    exact (List.mem_cons.mp (pm.mem_iff.mp hp)).elim (fun e => by rw [e]; exact List.mem_append_right _ (List.mem_singleton.mpr rfl)) fun z => List.mem_append_left _ (g.sub p z)
  · rw [(pm.map _).mem_iff, List.map_cons]
    rw [take_one h] at hp
    exact (List.mem_append.mp hp).elim (fun z => List.mem_cons_of_mem _ (g.all p z)) fun z => by rw [List.mem_singleton.mp z]; exact List.mem_cons_self
section
variable {P : Program} {w : World} {A : Around} {E : Value → Shared → Prop} {s : Shared}
theorem NmAt.keep {h h' : Heap} {n : List Str} {b : Addr} (x : NmAt P w h n b) (k : ∀ c o, h.get? c = some o → h'.get? c = some o) : NmAt P w h' n b := by
  obtain ⟨o, items, m, ho, r⟩ := x
  exact ⟨o, items, m, k b o ho, r⟩
theorem NSet.keep {h h' : Heap} {a : Addr} {L : Nms} {es : Array (Int × Value)} {ep : Nat} {t : SetTable} (R : NSet P w h a L es ep t) (ka : ∀ o, h.get? a = some o → h'.get? a = some o) (kt : ∀ q ∈ L, NmAt P w h' q.2 q.1) : NSet P w h' a L es ep t := by
  obtain ⟨o, ho, r⟩ := R.obj
  exact ⟨⟨o, ka o ho, r⟩, R.rw_, R.tb, R.nd, kt, R.ld, R.rm, R.few⟩
abbrev set0 (w : World) : Obj := { cls := .type "set", dict := none, data := .set #[] 0 (.fresh 0 0 (!w.params.followText "set-order")) }
theorem nset_new {h : Heap} {a : Addr} (ho : h.get? a = some (set0 w)) : NSet P w h a [] #[] 0 (.fresh 0 0 (!w.params.followText "set-order")) where
  obj := ⟨_, ho, ⟨rfl, rfl, rfl⟩, rfl⟩
  rw_ := rfl
  tb := ⟨List.Pairwise.nil, rfl, rfl, .inl rfl, fun _ z => (by cases z), fun _ _ _ z => (by simp at z)⟩
  nd := List.nodup_nil
  nms := fun _ z => (by cases z)
  ld := by
    show _ ∨ (!w.params.followText "set-order") = true
    cases w.params.followText "set-order"
    · exact .inr rfl
    · exact .inl rfl
  rm := (by decide : 0 * 5 < 7 * 3)
  few := (by decide : 0 < 64)
/-- the loop of set.update over a walk of names -/
theorem upd_loop {I : Addr} {fp wr : List Addr} {G : Array GenState → Array GenState → Prop} {m : Nat} {Pv : Nat → Value → Prop} {St : Nat → Shared → Prop} {R : Result → Shared → Prop} (W : WalksS P w A.in1 I fp wr G m Pv St) (S : Addr) (off : S ∉ fp)
    (ks : Nms) (hm : m = ks.length) (few : ks.length < 64) (val : ∀ i v, Pv i v → ∃ q, ks[i]? = some q ∧ v = .ref q.1) (h0 : Heap) (hk : ∀ q ∈ ks, NmAt P w h0 q.2 q.1) (hS0 : h0.get? S = none) (hw0 : ∀ b ∈ wr, h0.get? b = none) (hu : A.in1.units < cLine) :
    ∀ (k i : Nat) (s : Shared), m - i = k → i ≤ m → St i s → (∀ b o, h0.get? b = some o → s.heap.get? b = some o) → (∃ L es ep t, NSet P w s.heap S L es ep t ∧ Brought ks i L) →
      (∀ s' L es ep t, Moved (S :: wr) G s s' → NSet P w s'.heap S L es ep t → Brought ks m L → (∀ b o, h0.get? b = some o → s'.heap.get? b = some o) → R (.ok (.ret .none)) s') →
      codeAny (model P w) A (.builtin "set.update.loop" ⟨[.ref S, .ref I], []⟩) R s := by
  have offW : S ∉ wr := fun z => off (W.sub _ z)
  have up : ∀ b ∈ wr, b ∈ S :: wr := fun _ z => List.mem_cons_of_mem _ z
  have stays : ∀ {s s' : Shared}, Moved wr G s s' → (∀ b o, h0.get? b = some o → s.heap.get? b = some o) → ∀ b o, h0.get? b = some o → s'.heap.get? b = some o := fun mv kp b o e =>
    mv.heap b o (fun z => by rw [hw0 b z] at e; cases e) (kp b o e)
  intro k
  induction k with
  | zero =>
    rintro i s hk' hi st kp ⟨L, es, ep, t, hS, g⟩ fin
    obtain rfl : i = m := by omega
    refine codeAny_builtin F.entry_set_update_loop ?_
    rw [Around.under_plainId F.plain_set_update_loop _]
    show wpAny _ A.in1 (pyNext (.ref I) >>= _) _ _ s
    refine wpAny_bind (W.done s _ _ st fun s' mv => ?_)
    show wpAny _ A.in1 (ret Value.none) _ _ s'
    have kp' := stays mv kp
    exact wpAny_pure (fin s' L es ep t (mv.mono up) (hS.keep (fun o e => mv.heap S o offW e) fun q hq => (hk q (List.mem_of_mem_take (g.sub q hq))).keep kp') g kp')
  | succ k ih =>
    rintro i s hk' hi st kp ⟨L, es, ep, t, hS, g⟩ fin
    refine codeAny_builtin F.entry_set_update_loop ?_
    rw [Around.under_plainId F.plain_set_update_loop _]
    show wpAny _ A.in1 (pyNext (.ref I) >>= _) _ _ s
    refine wpAny_bind (W.item i s _ _ (by omega) st fun v s' pv st' mv => ?_)
    obtain ⟨q, hq, rfl⟩ := val i v pv
    have kp' := stays mv kp
    have hS' := hS.keep (fun o e => mv.heap S o offW e) fun p hp => (hk p (List.mem_of_mem_take (g.sub p hp))).keep kp'
    have hx := (hk q (List.mem_of_getElem? hq)).keep kp'
    show wpAny _ A.in1 (holding [Value.ref q.1] (setAdd S (.ref q.1)) >>= _) _ _ s'
    unfold setAdd
    refine wpAny_bind (wpAny_holding (wpAny_holding (wpAny_bind (wpAny_pyHash_tuple hu hx ?_))))
    refine add_nm (s := { s' with toks := s'.toks + (q.2.length + 1) }) hS' hx hu (by have := g.len; omega) fun b h' L' es' ep' t' sb hS2 c1 c2 => ?_
    have g' : Brought ks (i + 1) L' := (Classical.em (q.2 ∈ L.map fun q => q.2)).elim (fun c => by rw [c1 c]; exact g.same hq c) fun c => g.more hq (c2 c)
    refine wpAny_pure ⟨plainId_quiet F.plain_set_update_loop _, ih (i + 1) _ (by omega) (by omega) (W.frame _ s' _ _ st' (Nat.le_add_right _ _) fun b hb o e => ?_) (fun b o e => (sb.2 b fun z => by rw [z, hS0] at e; cases e).trans (kp' b o e)) ⟨L', es', ep', t', hS2, g'⟩ fun s2 L2 es2 ep2 t2 mv2 hS3 g2 kp2 => ?_⟩
    · rw [sb.2 b fun z : b = S => off (by rw [← z]; exact hb)]
      exact e
    · refine fin s2 L2 es2 ep2 t2 (Moved.trans W.gtrans ((mv.mono up).then_heap (Nat.le_add_right _ _) fun b o hb e => ?_) mv2) hS3 g2 kp2
      rw [sb.2 b fun z : b = S => hb (by rw [z]; exact List.mem_cons_self)]
      exact e
end
end Me

/-! set(list of names), by gen27.py. -/
namespace Me
open PySem PySem.Spec PyProof.Rows L2
section
variable {P : Program} {w : World} {A : Around} {E : Value → Shared → Prop} {s : Shared}
set_option maxHeartbeats 3200000 in
theorem call_setN_list {l : Addr} {items : Array Value} (ks : Nms) {Q : Value → Shared → Prop} (hh : A.handled = none) (hl : s.heap.IsList l items) (hit : items.toList = ks.map fun q => .ref q.1) (hk : ∀ q ∈ ks, NmAt P w s.heap q.2 q.1) (few : ks.length < 64)
    (hu : A.units + 3 < cLine) (k : ∀ (h' : Heap) (tk : Nat) L es ep t, NSet P w h' s.heap.objs.size L es ep t → Brought ks ks.length L → (∀ b o, s.heap.get? b = some o → h'.get? b = some o) → Q (.ref s.heap.objs.size) { s with heap := h', toks := tk }) :
    wpAny (model P w) A (call (.type "set") [.ref l]) Q E s := by
  have isz : items.size = ks.length := by
    have z := congrArg List.length hit
    rwa [Array.length_toList, List.length_map] at z
  obtain ⟨c, tl, hmro⟩ := F.called_set.mro
  have f1 := F.called_set.made
  have f2 := F.called_set.sub
  refine wpAny_call (codeAny_of_tree ?_)
  show wpAny _ _ (callAny (.type "set") _) _ _ _
  refine wpAny_pure ⟨Code.quiet_builtin _ (by decide +kernel), codeAny_builtin F.entry_type_call ?_⟩
  rw [Around.under_plain (weight_type_call_type "set" [.ref l] []) rfl]
  have f3 := F.called_set.notType
  have f4 := F.called_set.canCreate
  have f5 := F.typeCall_set_1 (.ref l)
  repeat (any_goals (first | assumption | wp_step))
  refine codeAny_mono (code_set_led1 (.ref l) (E := E) (Q₁ := fun x s1 => x = .ref s.heap.objs.size ∧ s1 = { s with heap := s.heap.push (set0 w) }) ⟨rfl, rfl⟩) fun r s1 hr => ?_
  cases r with
  | error e => exact hr
  | ok fl =>
    cases fl with
    | ret x =>
      obtain ⟨rfl, rfl⟩ := hr
      have gS : (s.heap.push (set0 w)).get? s.heap.objs.size = some (set0 w) := Heap.get?_push_size _ rfl
      have tS : Shared.TypeIs { s with heap := s.heap.push (set0 w) } (.ref s.heap.objs.size) "set" := ⟨_, gS, rfl⟩
      have f6 := F.called_set.init.lookup
      have f7 := F.called_set.init.bind (.ref s.heap.objs.size)
      repeat (any_goals (first | assumption | wp_step))
      refine codeAny_mono (codeAny_call_builtin (R := wants (fun r s2 => r = .none ∧ ∃ h' tk L es ep t, s2 = { s with heap := h', toks := tk } ∧ NSet P w h' s.heap.objs.size L es ep t ∧ Brought ks ks.length L ∧
          (∀ b o, s.heap.get? b = some o → h'.get? b = some o)) E) F.called_set.init.plain F.entry_set_init (check_set_init_1 tS ?_)) fun r2 s2 hr2 => ?_
      · obtain ⟨ol, hol, hcl, nl, hdl⟩ := hl
        obtain ⟨ocls, odict, odata, oslots⟩ := ol
        simp only at hcl hdl
        subst hcl; subst hdl
        have hol' : (s.heap.push (set0 w)).get? l = some { cls := .type "list", dict := odict, data := .seq items nl, slots := oslots } := Heap.get?_push_of_some _ hol
        have f8 := F.sub_list_set
        have f9 := F.sub_list_frozenset
        have f10 : (Value.type "list" == Value.type "dict") = false := by decide
        have hl1 : (s.heap.push (set0 w)).IsList l items := ⟨_, hol', rfl, nl, rfl⟩
        unfold Builtin.«set.__init__» noKeywords Builtin.Frozenset.updateFrom
        generalize hPI : pyIter = PI
        wp_walk
        subst hPI
        refine wpAny_pyIter_list hl1 (wpAny_bind (wpAny_runValue ?_))
        have ltS : l < s.heap.objs.size := Heap.lt_size hol
        have h3 : A.in1.in1.in1.handled = none := by simp [hh]
        have neI : l ≠ (s.heap.push (set0 w)).objs.size := by
          rw [Heap.size_push]
          exact Nat.ne_of_lt (Nat.lt_succ_of_lt ltS)
        have offS : s.heap.objs.size ∉ [(s.heap.push (set0 w)).objs.size, l] := by
          rw [Heap.size_push]
          simp only [List.mem_cons, List.not_mem_nil, or_false, not_or]
          exact ⟨Nat.ne_of_lt (Nat.lt_succ_self _), Nat.ne_of_gt ltS⟩
        have val : ∀ (i : Nat) (v : Value), items[i]? = some v → ∃ q, ks[i]? = some q ∧ v = .ref q.1 := fun i v hv => by
          have z : items.toList[i]? = some v := by rw [Array.getElem?_toList]; exact hv
          rw [hit, List.getElem?_map] at z
          cases hq : ks[i]? with
          | none => rw [hq] at z; cases z
          | some q => rw [hq] at z; exact ⟨q, rfl, (Option.some.inj z).symm⟩
        have free : ∀ b, s.heap.objs.size ≤ b → s.heap.get? b = none := fun b hb => by
          cases z : s.heap.get? b with
          | none => rfl
          | some o => exact absurd (Nat.lt_of_lt_of_le (Heap.lt_size z) hb) (Nat.lt_irrefl _)
        refine upd_loop ((Walks.list h3 _ l neI items).toS) s.heap.objs.size offS ks isz few val s.heap hk (free _ (Nat.le_refl _)) (fun b hb => free b (by
            rw [List.mem_singleton.mp hb, Heap.size_push]
            exact Nat.le_succ _)) hu (items.size - 0) 0 _ (by omega) (Nat.zero_le _) ⟨⟨_, Heap.get?_push_size _ rfl, rfl, rfl⟩, (hl1.push _)⟩ (fun b o e => Heap.get?_push_of_some _ (Heap.get?_push_of_some _ e)) ?hS0 ?hR
        case hS0 => exact ⟨[], #[], 0, _, nset_new (Heap.get?_push_of_some _ gS), ⟨fun _ z => (by cases z), fun _ z => (by simp at z), Nat.le_refl _⟩⟩
        case hR =>
          rintro ⟨h', g2, d', tk', os'⟩ L es ep t mv hS' g' kp
          obtain rfl : g2 = s.gens := mv.gens
          obtain rfl : d' = s.drawn := mv.drawn
          obtain rfl : os' = s.os := mv.os
          show wpAny _ _ _ _ _ _
          refine wpAny_pure ?_
          show wpAny _ _ (ret Value.none) _ _ _
          rw [isz] at g'
          exact wpAny_pure ⟨rfl, h', tk', L, es, ep, t, rfl, hS', g', kp⟩
      · cases r2 with
        | error e => exact hr2
        | ok fl2 =>
          cases fl2 with
          | ret r =>
            obtain ⟨rfl, h', tk, L, es, ep, t, rfl, hS', g', hk'⟩ := hr2
            repeat (any_goals (first | assumption | wp_step))
            exact k _ _ _ _ _ _ hS' g' hk'
          | _ => exact hr2.elim
    | _ => exact hr.elim
end
end Me

/-! Me28: len(set(x)) of a list of names. -/
namespace Me
open PySem PySem.Spec PyProof.Rows L2
abbrev nmD (n : List Str) : D := .tup (n.map D.str)
/-- how many a set of them has -/
def Uniq (ns : List (List Str)) (m : Nat) : Prop := m ≤ ns.length ∧ (m = ns.length ↔ ns.Nodup)
theorem nodup_len {α : Type} : ∀ {l m : List α}, l.Nodup → (∀ x ∈ l, x ∈ m) → l.length ≤ m.length
  | [], _, _, _ => Nat.zero_le _
  | x :: l, m, nd, h => by
    obtain ⟨m1, m2, rfl⟩ := List.append_of_mem (h x List.mem_cons_self)
    have nd' := List.nodup_cons.mp nd
    have := nodup_len (m := m1 ++ m2) nd'.2 fun y hy => by
      have z := h y (List.mem_cons_of_mem _ hy)
      rcases List.mem_append.mp z with z | z
      · exact List.mem_append_left _ z
      · rcases List.mem_cons.mp z with z | z
        · rw [z] at hy; exact absurd hy nd'.1
        · exact List.mem_append_right _ z
    rw [List.length_append] at this ⊢
    simp only [List.length_cons]
    omega
theorem nodup_of_len {α : Type} : ∀ {l m : List α}, (∀ x ∈ l, x ∈ m) → l.length ≤ m.length → l.Nodup → (∀ x ∈ m, x ∈ l) → m.length = l.length → m.Nodup := by
  intro l m h1 h2 nd h3 e
  induction m generalizing l with
  | nil => exact List.nodup_nil
  | cons x m ih =>
    by_cases hx : x ∈ m
    · exfalso
      have := nodup_len (l := l) (m := m) nd fun y hy => by
        rcases List.mem_cons.mp (h1 y hy) with z | z
        · rw [z]; exact hx
        · exact z
      rw [List.length_cons] at e
      omega
    · obtain ⟨l1, l2, rfl⟩ := List.append_of_mem (h3 x List.mem_cons_self)
      have pm : (l1 ++ x :: l2).Perm (x :: (l1 ++ l2)) := List.perm_middle
      have nd' := List.nodup_cons.mp (pm.nodup_iff.mp nd)
      rw [List.length_append, List.length_cons, List.length_cons] at e
      refine List.nodup_cons.mpr ⟨hx, ih (l := l1 ++ l2) (fun y hy => ?_) (by rw [List.length_append]; omega) nd'.2 (fun y hy => ?_) (by rw [List.length_append]; omega)⟩
      · rcases List.mem_cons.mp (h1 y (pm.mem_iff.mpr (List.mem_cons_of_mem _ hy))) with z | z
        · rw [z] at hy; exact absurd hy nd'.1
        · exact z
      · rcases List.mem_cons.mp (pm.mem_iff.mp (h3 y (List.mem_cons_of_mem _ hy))) with z | z
        · rw [z] at hy; exact absurd hy hx
        · exact z
theorem uniq_of {ks L : Nms} (g : Brought ks ks.length L) (nd : (L.map fun q => q.2).Nodup) : Uniq (ks.map fun q => q.2) L.length := by
  have a1 : ∀ x ∈ L.map (fun q => q.2), x ∈ ks.map fun q => q.2 := fun x hx => by
    obtain ⟨q, hq, rfl⟩ := List.mem_map.mp hx
    have := g.sub q hq
    rw [List.take_length] at this
    exact List.mem_map.mpr ⟨q, this, rfl⟩
  have a2 : ∀ x ∈ ks.map (fun q => q.2), x ∈ L.map fun q => q.2 := fun x hx => by
    obtain ⟨q, hq, rfl⟩ := List.mem_map.mp hx
    exact g.all q (by rw [List.take_length]; exact hq)
  have l1 := nodup_len nd a1
  rw [List.length_map] at l1
  refine ⟨l1, fun e => nodup_of_len a1 (by rw [List.length_map]; exact l1) nd a2 (by rw [← e, List.length_map]), fun h => ?_⟩
  have l2 := nodup_len h a2
  have l3 : (L.map fun q => q.2).length = L.length := List.length_map _
  exact Nat.le_antisymm l1 (l3 ▸ l2)
theorem items_strs {P : Program} {w : World} : ∀ {n : List Str} {us : List Value}, Vals (n.map V.str) us → ItemsAre (strKind P w) n us
  | [], _, .nil => .nil
  | x :: n, _, .cons r t => by
    obtain ⟨k, rfl⟩ := r
    exact .cons (strKind_is _ _ _ _) (items_strs t)
section
variable {Γ : Gam} {F H : Hp} {as : List Ad} {X : Cx} {pins : List (Addr × Obj)} {σ : L2.St} {s : Shared} {μ : Mu}
theorem names_lie (W : Wd Γ F H as μ) (I : Inv X pins σ H s) : ∀ {ns : List (List Str)} {vs : List V} {us : List Value}, DVs Γ F as vs (ns.map nmD) → Vals vs us → ∃ ks : Nms, us = ks.map (fun q => Value.ref q.1) ∧ (ks.map fun q => q.2) = ns ∧ ∀ q ∈ ks, NmAt X.prog X.w s.heap q.2 q.1
  | [], _, _, .nil, .nil => ⟨[], rfl, rfl, fun _ z => nomatch z⟩
  | n :: ns, _, _, .cons r rs, .cons v vs => by
    obtain ⟨ks, e1, e2, h⟩ := names_lie W I rs vs
    obtain ⟨b, ws, rfl, hb, dv⟩ := r.tupV
    obtain rfl := DVs.strs dv
    obtain ⟨its, r2, pt, _⟩ := I.tuple (.inl (.inl (W.sub _ _ hb)))
    cases v
    obtain ⟨o, ho, hc, m, hd⟩ := pt
    refine ⟨(b, n) :: ks, by rw [e1]; rfl, by rw [List.map_cons, e2], fun q hq => ?_⟩
    rcases List.mem_cons.mp hq with rfl | hq
    · exact ⟨o, its.toArray, m, ho, hc, hd, by simpa using items_strs r2⟩
    · exact h q hq
end
section
variable {S : Sc} {env : En} {μ : Mu} {e : Expr} {P : KD} {p p2 q pos : Pos}
theorem e_lenSet (h : E S e env μ fun d μ1 => ∃ ns : List (List Str), vw μ1 d = .lst (ns.map nmD) ∧ ns.length < 64 ∧ ∀ m, Uniq ns m → P (.int (m : Nat)) μ1) (hg : Gl S.X "len" := by rfl) (hg2 : Gl S.X "set" := by rfl) (hc : S.X.calm = true := by rfl)
    (na : starEach [e] S.X.env = (false, eval e S.X.env) :: starEach [] S.X.env := by rfl) : E S (.Call (.Name "len" p) [.Call (.Name "set" p2) [e] [] q] [] pos) env μ P := by
  refine ⟨fun pins s σ H Q I ⟨F, as, a, k⟩ => ?_⟩
  refine Call_ (ld_blt I hg S.hb.len boot_len ?_)
  refine PyProof.Rows.callWith_builtin1 (PyProof.Rows.args_cons ?_ rfl) rfl rfl
  refine Call_ (ld_blt I hg2 S.hb.set boot_set ?_)
  refine PyProof.Rows.callWith_type1 (PyProof.Rows.args_cons (thn (h.run pins s σ H (fun x H1 => ∃ l vs ns F1 as1 μ1, x = .ref l ∧ H1 l = some (.lst vs) ∧ DVs S.Γ F1 as1 vs (ns.map nmD) ∧ Wd S.Γ F1 H1 as1 μ1 ∧ ns.length < 64 ∧ ∀ m, Uniq ns m → Q (.int (m : Nat)) H1) I ⟨F, as, a, ?_⟩) fun v s1 ⟨x, H1, I1, r1, q1⟩ => PyProof.Rows.args_nil ?_) na) na rfl
  · rintro d μ1 v F1 H1 as1 ⟨ns, hv, hl, kk⟩ g1 W1 r1
    obtain ⟨l, vs, rfl, h1, dv⟩ := W1.lst r1 hv
    exact ⟨l, vs, ns, F1, as1, μ1, rfl, h1, dv, W1, hl, fun m hm => k _ μ1 _ F1 H1 as1 (kk m hm) g1 W1 (.int _)⟩
  obtain ⟨l, vs, ns, F1, as1, μ1, rfl, h1, dv, W1, hl, kk⟩ := q1
  cases r1
  obtain ⟨its, r, pl, hz⟩ := I1.list (.inl (.inl h1))
  obtain ⟨ks, e1, e2, hk⟩ := names_lie W1 I1 dv r
  have hlen : ks.length = ns.length := by rw [← e2, List.length_map]
  refine call_setN_list ks (I1.ok.hd hc) pl.isList (by simpa using e1) hk (by omega) (by have := S.hu; omega) fun h' tk L es ep t hS g hkp => ?_
  refine PyProof.Rows.args_nil ?_
  obtain ⟨o, ho, hex, hd⟩ := hS.obj
  have I2 : Inv S.X pins σ H1 { s1 with heap := h', toks := tk } := I1.kept hkp
  have u := uniq_of g hS.nd
  rw [e2] at u
  have sz := rw_len hS.rw_
  refine call_len_set ho hex hd hS.fits (by rw [sz]; have := hS.few; omega) ⟨.int L.length, H1, I2.tok _, ⟨_, by rw [sz]⟩, kk _ u⟩
end
end Me

/-! Me29: C(e, .., k = v, ..); properties. -/
namespace Me
open PySem PySem.Spec PyProof.Rows L2
section
variable {S : Sc} {env : En} {μ : Mu} {a b e o : Expr} {es : List Expr} {kws : List Keyword} {pos p0 kpos : Pos} {x f : Str} {nm : Option Str} {c : String} {P : KD} {k n : Nat} {C : Ct} {ks : List Str} {PL : List D → Mu → Prop}
def KA (S : Sc) (kws : List Keyword) (env : En) (μ : Mu) (P : List D → Mu → Prop) : Prop := PK S.X kws (rdA S env μ P)
theorem ka_nil (h : PL [] μ) : KA S [] env μ PL := by
  refine ⟨fun _ pins s σ H Q I ⟨F, as, a, k⟩ => wpAny_evalAll_nil ⟨[], H, I, .nil, k [] μ [] F H as h (Go.refl _ _ _) a.w .nil⟩⟩
theorem ka_cons (h : E S e env μ fun d μ1 => KA S kws env μ1 fun ds μ2 => PL (d :: ds) μ2) : KA S (⟨nm, e, kpos⟩ :: kws) env μ PL := by
  refine ⟨fun ps pins s σ H Q I ⟨F, as, a, k⟩ => ?_⟩
  refine (pk_cons (nm := nm) (kpos := kpos) (kws := kws) (t := fun σ H Q => ∃ t, PK S.X kws t ∧ t σ H Q) h ⟨fun pos pins s σ H Q I ⟨t, ht, q⟩ => ht.run pos pins s σ H Q I q⟩).run ps pins s σ H Q I ?_
  refine ⟨F, as, a, fun d μ1 v F1 H1 as1 p1 g1 W1 r1 => ⟨_, p1, F1, as1, a.go g1 W1, fun ds μ2 vs F2 H2 as2 p2 g2 W2 r2 => ?_⟩⟩
  exact k (d :: ds) μ2 (v :: vs) F2 H2 as2 p2 (g1.trans g2) W2 (.cons (r1.mono g2) r2)
/-- a class whose __init__ takes n values by place and those named ks by keyword -/
structure MakK (P : Program) (w : World) (K : PySem.W.Frag) (mg : Str → Option Value) (base : Heap) (Γ : Gam) (k : Nat) (c : String) (x : Str) (n : Nat) (ks : List Str) (C : Ct) : Prop where
  ex : ∃ Ca f fd ps g gV, Γ.cls c = some Ca ∧ Mk K Ca f ∧ mg x = some (.ref Ca) ∧ Gd.FnG P w K mg base (L2.CX P w) k f fd ps (spM Γ C) ∧ KBn K fd ps (n + 1) ks g gV ∧ ∀ vs zs : List V, vs.length = n + 1 → zs.length = ks.length → gV vs zs = vs ++ zs
theorem run_makeMK {X : Cx} {f Ca : Addr} {fd : FuncData} {ps : List Str} {sp : Sp} {pins : List (Addr × Obj)} {σ : L2.St} {H : Hp} {s : Shared} {Q : VK} {us ws : List Value} {vs zs : List V} {g : List Value → List Value → List Value} {gV : List V → List V → List V} (M : Mk X.K Ca f)
    (G : Gd.FnG X.prog X.w X.K X.mg X.base (L2.CX X.prog X.w) k f fd ps sp) (gX : X.A.guards = some []) (hr : Room (k + 1) X.A) (hb : KBn X.K fd ps (n + 1) ks g gV) (I : Inv X pins σ H s) (r : Vals vs us) (rz : Vals zs ws) (l1 : vs.length = n) (l2 : zs.length = ks.length)
    (h : ∀ x dx, H x = none → H dx = none → dx ≠ x → sp (gV (.ref x :: vs) zs) (upd (upd H dx (.own x)) x (.ins Ca dx [])) (fun v H2 => v = .non ∧ Q (.ref x) H2) (fun cls d H' => Wk X cls d σ H')) :
    wpAny (model X.prog X.w) X.A (call (.ref Ca) us (ks.zip ws)) (EP X pins σ Q) X.xe s := by
  have hq := h (s.heap.objs.size + 1) s.heap.objs.size (I.hok.fresh (Nat.le_succ _)) (I.hok.fresh (Nat.le_refl _)) (Nat.ne_of_lt (Nat.lt_succ_self _))
  have J := Inv.made (C := Ca) I
  have rr : Vals (V.ref (s.heap.objs.size + 1) :: vs) (Value.ref (s.heap.objs.size + 1) :: us) := .cons rfl r
  have bd := hb.to _ (Value.ref (s.heap.objs.size + 1) :: us) ws J.kIn (by rw [List.length_cons, ← r.length, l1]) (rz.length.symm.trans l2)
  refine wpAny_call (make_map (f := f) I.kIn M.makes M.init (beq_iff_eq.mp M.fn) (codeAny_mono (G.runG _ X.stack _ _ ⟨Value.ref (s.heap.objs.size + 1) :: us, ks.zip ws⟩ _ _ _ _ gX (hr.make Ca us (ks.zip ws)) (J.env0.make Ca us (ks.zip ws)) bd (hb.rel rr rz) hq) fun res s' hq' => ?_))
  match res, hq' with
  | .error e, hq' => exact takes_wk _ _ (XE.of_call (W := Wk X) J (fun _ _ _ z => z) hq')
  | .ok (.ret u), hq' =>
    obtain ⟨v, H', J3, rv, ev, q3⟩ := J.after hq'
    subst ev
    exact ⟨rv, ⟨V.ref (s.heap.objs.size + 1), H', J3, rfl, q3⟩⟩
  | .ok .next, hq' => exact False.elim hq'
  | .ok .brk, hq' => exact False.elim hq'
  | .ok .cont, hq' => exact False.elim hq'
theorem e_makeK (M : MakK S.X.prog S.X.w S.X.K S.X.mg S.X.base S.Γ k c x n ks C)
    (h : A S (e :: es) env μ fun ds μ1 => KA S kws env μ1 fun zs μ2 => ds.length = n ∧ zs.length = ks.length ∧ C (.cell μ2.length :: (ds ++ zs)) (μ2 ++ [.ins c []]) (fun d m => d = .non ∧ P (.cell μ2.length) m) (fun x m => S.Z x env m))
    (hkj : k + 1 ≤ S.k := by first | decide | assumption | omega) (hc : S.X.calm = true := by rfl) (hg : Gl S.X x := by rfl) (hdb : (x == ("__debug__" : Str)) = false := by decide)
    (hall : (backToKw pos (keywordEach kws S.X.env)).all (·.1.isSome) = true := by rfl) (hks : (backToKw pos (keywordEach kws S.X.env)).filterMap (·.1) = ks := by rfl)
    (he : starEach (e :: es) S.X.env = (false, eval e S.X.env) :: starEach es S.X.env := by rfl) (hpl : ((backTo pos (starEach (e :: es) S.X.env)).any (·.1) || (backToKw pos (keywordEach kws S.X.env)).any (·.1.isNone)) = false := by rfl) :
    E S (.Call (.Name x p0) (e :: es) kws pos) env μ P := by
  obtain ⟨Ca, f, fd, ps, g, gV, hcl, M1, hm, F1, hb, hgV⟩ := M.ex
  refine ⟨fun pins s σ H Q I ⟨F0, as, a, k0⟩ => wpAny_Call_Name_kw (ld_glob I hg hm ?_ hdb)⟩
  refine PySem.W.callWith_KW (h₀ := S.X.base) I.ok.mod.kin M1.kp hall (thn (h.run pos pins s σ H (fun vs H1 => ∃ t, PK S.X kws t ∧ t σ H1 fun zs H2 => vs.length = n ∧ zs.length = ks.length ∧ ∀ x dx, H2 x = none → H2 dx = none → dx ≠ x →
    spM S.Γ C (gV (.ref x :: vs) zs) (upd (upd H2 dx (.own x)) x (.ins Ca dx [])) (fun v H2 => v = .non ∧ Q (.ref x) H2) (fun cls d H' => Wk S.X cls d σ H')) I ⟨F0, as, a, ?_⟩) ?_) hpl he
  · intro ds μ1 vs F1 H1 as1 p1 g1 W1 r1
    refine ⟨_, p1, F1, as1, a.go g1 W1, ?_⟩
    rintro zs μ2 ws F2 H2 as2 ⟨l1, l2, p2⟩ g2 W2 r2
    have lv : vs.length = n := r1.length.trans l1
    have lw : ws.length = ks.length := r2.length.trans l2
    refine ⟨lv, lw, fun y dx ny nd ne => ?_⟩
    rw [hgV _ _ (by rw [List.length_cons, lv]) lw]
    obtain ⟨W3, g3⟩ := W2.born hcl ny nd ne
    have hat : DV S.Γ F2 (as2 ++ [⟨y, none⟩]) (.ref y) (.cell μ2.length) := .cell (ad := ⟨y, none⟩) (W2.last _)
    have g12 := g1.trans g2
    refine ⟨F2, _, _, _, _, _, p2, .cons hat ((r1.mono (g2.trans g3)).append (r2.mono g3)), W3, ?_, ?_⟩
    · intro d m v F3 H3 as3 ⟨e1, p3⟩ g4 W4 r4
      subst e1
      cases r4
      exact ⟨rfl, k0 _ m _ F3 H3 as3 p3 ((g12.trans g3).trans g4) W4 (hat.mono g4)⟩
    · exact fun x μ' cls dx F' H' as' z g W' xo => a.k x env μ' σ cls dx F' H' as' z ((g12.trans g3).trans g) (a.e.mono ((g12.trans g3).trans g)) W' xo
  · intro us s1 ⟨vs, H1, I1, r1, t, ht, q1⟩
    refine thn (ht.run pos pins s1 σ H1 _ I1 q1) fun ws s2 ⟨zs, H2, I2, rz, l1, l2, q2⟩ => ⟨I2.kIn, ?_⟩
    rw [hks]
    exact run_makeMK M1 F1 S.hg ⟨I2.ok.hd hc, (S.rm.mono hkj).dp, (S.rm.mono hkj).un⟩ hb I2 r1 rz l1 l2 q2
end
/-- a property that reads a field -/
structure Prp (P : Program) (w : World) (K : PySem.W.Frag) (mg : Str → Option Value) (base : Heap) (Γ : Gam) (c : String) (f g : Str) : Prop where
  ex : ∃ C p a fd, Γ.cls c = some C ∧ Cls K C ∧ PropOf K C f p a ∧ FnOk P w K mg base CX0 1 a fd ["self"] (getSp C g) ∧ Binds K fd ["self"] []
section
variable {S : Sc} {env : En} {μ : Mu} {e : Expr} {pos : Pos} {f g : Str} {c : String} {P : KD}
theorem e_prp (M : Prp S.X.prog S.X.w S.X.K S.X.mg S.X.base S.Γ c f g) (h : E S e env μ fun d μ1 => ∃ fs d', vw μ1 d = .ins c fs ∧ fs.lookup g = some d' ∧ P d' μ1) (hkj : 2 ≤ S.k := by first | decide | assumption | omega) (hc : S.X.calm = true := by rfl)
    (hb : attributeBase e f S.X.env (eval e S.X.env) = eval e S.X.env := by rfl) : E S (.Attribute e f pos) env μ P := by
  obtain ⟨C, p, a, fd, hcl, cl, hp, F1, hbd⟩ := M.ex
  refine ⟨fun pins s σ H Q I ⟨F0, as, at_, k⟩ => ?_⟩
  have rm : Room 2 S.X.A := ⟨I.ok.hd hc, (S.rm.mono hkj).dp, (S.rm.mono hkj).un⟩
  refine (pe_prop (E := fun _ _ _ => False) h cl hp F1 rm hbd .nil (fun _ _ _ _ _ _ _ z => z) hb).run pins s σ H Q I ⟨F0, as, at_, fun d μ1 v F1 H1 as1 ⟨fs, d', hv, hl, p1⟩ g1 W1 r1 => ?_⟩
  obtain ⟨b, C', dx, vs, rfl, hc', h1, h2⟩ := W1.ins r1 hv
  rw [hcl] at hc'
  obtain rfl := Option.some.inj hc'
  obtain ⟨u, h3, h4⟩ := h2.look hl
  exact ⟨b, dx, vs, rfl, h1, b, dx, vs, u, rfl, h1, h3, k d' μ1 u F1 H1 as1 p1 g1 W1 h4⟩
end
end Me

/-! Me30: list(range(n)). -/
namespace Me
open PySem PySem.Spec PyProof.Rows L2
theorem dvs_ints {Γ : Gam} {F : Hp} {as : List Ad} : ∀ l : List Int, DVs Γ F as (l.map V.int) (l.map D.int)
  | [] => .nil
  | i :: l => .cons (.int i) (dvs_ints l)
section
variable {S : Sc} {env : En} {μ : Mu} {e : Expr} {P : KD} {p q p2 pos : Pos}
theorem e_listRg (h : E S e env μ fun d μ1 => ∃ n : Int, d = .int n ∧ 0 ≤ n ∧ n ≤ 1000000 ∧ Nl P (rangeD 0 n.toNat) μ1) (hc : S.X.calm = true := by rfl) (hg : Gl S.X "list" := by rfl) (hg2 : Gl S.X "range" := by rfl)
    (na : starEach [e] S.X.env = (false, eval e S.X.env) :: starEach [] S.X.env := by rfl)
    (nb : starEach [.Call (.Name "range" p2) [e] [] q] S.X.env = (false, eval (.Call (.Name "range" p2) [e] [] q) S.X.env) :: starEach [] S.X.env := by rfl) :
    E S (.Call (.Name "list" p) [.Call (.Name "range" p2) [e] [] q] [] pos) env μ P := by
  refine PE.imp (pe_listRg hc hg S.hb.list (prg_1 hg2 S.hb.range h na) nb) fun σ H Q ⟨F, as, a, k⟩ => ⟨F, as, a, ?_⟩
  rintro d μ1 v F1 H1 as1 ⟨n, rfl, h0, h1, kk⟩ g1 W1 r1
  cases r1
  refine ⟨n, rfl, RgOk.of_le (Int.le_refl 0) (by omega) (by decide) h0, fun b nb => ?_⟩
  have e1 : rgV 0 n = ((List.range n.toNat).map fun i : Nat => (0 + (i : Int))).map V.int := by unfold rgV; rw [List.map_map, Int.sub_zero]; rfl
  have e2 : rangeD 0 n.toNat = ((List.range n.toNat).map fun i : Nat => (0 + (i : Int))).map D.int := by unfold rangeD; rw [List.map_map]; rfl
  rw [e1]
  rw [e2] at kk
  exact (k.go g1).new W1 nb kk (dvs_ints _)
end
end Me

/-! Me31: tuple * int. -/
namespace Me
open PySem PySem.Spec PyProof.Rows L2
section
variable {S : Sc} {env : En} {μ : Mu} {ds : List D} {i : Int} {P : KD}
theorem o_mulT (h0 : ds ≠ []) (hi : 2 ≤ i ∧ i ≤ 1000) (hl : ds.length ≤ 1000) (k : P (.tup (List.replicate i.toNat ds).flatten) μ) : Op2 S (binaryOp .Mult) (.tup ds) (.int i) env μ P :=
  Op2.of op_repT fun F H as x y Q W r1 r2 kk => by
    obtain ⟨a, vs, rfl, e1, q1⟩ := r1.tupV
    cases r2
    exact ⟨a, _, vs, rfl, rfl, .inl (.inl (W.sub _ _ e1)), fun z => h0 (by subst z; cases q1; rfl), hi.1, hi.2, by rw [q1.length]; exact hl, fun p np => kk.newT W np k (q1.rep _)⟩
end
end Me

/-! Me32: an instance called. -/
namespace Me
open PySem PySem.Spec PyProof.Rows L2
section
variable {S : Sc} {env : En} {μ : Mu} {fe e : Expr} {es : List Expr} {pos : Pos} {c : String} {P : KD} {k : Nat} {C : Ct}
theorem e_callI (M : Dn S.X.prog S.X.w S.X.K S.X.mg S.X.base S.Γ k c "__call__" C)
    (h : E S fe env μ fun d μ1 => (∃ fs, vw μ1 d = .ins c fs) ∧ A S (e :: es) env μ1 fun ds μ2 => (∃ fs, vw μ2 d = .ins c fs) ∧ C (d :: ds) μ2 P (fun x m => S.Z x env m)) (hkj : k ≤ S.k := by first | decide | assumption | omega) (hc : S.X.calm = true := by rfl)
    (ht : eval (.Call fe (e :: es) [] pos) S.X.env = (do callWith pos (← eval fe S.X.env) [] (backTo pos (starEach (e :: es) S.X.env)) (backToKw pos (keywordEach [] S.X.env))) := by rfl)
    (he : starEach (e :: es) S.X.env = (false, eval e S.X.env) :: starEach es S.X.env := by rfl) (hpl : (backTo pos (starEach es S.X.env)).any (·.1) = false := by rfl) : E S (.Call fe (e :: es) [] pos) env μ P := by
  obtain ⟨Ca, f, fd, ps, hcl, hs, hf, hfi, _, _, F1, hb⟩ := M.ex
  refine ⟨fun pins s σ H Q I ⟨F, as, a, k0⟩ => Call_ (thn (h.run pins s σ H (fun x H1 => ∃ p, x = .ref p ∧ yA S.X (e :: es) σ H1 fun ws H2 => (∃ dx vs, H2 p = some (.ins Ca dx vs)) ∧ spM S.Γ C ((x :: ws) ++ []) H2 Q (fun cls d H' => Wk S.X cls d σ H')) I ⟨F, as, a, ?_⟩) ?_) ht⟩
  · intro d μ1 v F2 H2 as2 ⟨⟨fs, hv⟩, p1⟩ g1 W1 r1
    obtain ⟨p, C', dx, vs, rfl, _⟩ := W1.ins r1 hv
    refine ⟨p, rfl, p1.go (a.go g1 W1) fun ds μ2 ws F3 H3 as3 ⟨⟨fs2, hv2⟩, p2⟩ g2 W2 r2 => ?_⟩
    obtain ⟨p', C2, dx2, vs2, e2, hc2, h2, _⟩ := W2.ins (r1.mono g2) hv2
    rw [hcl] at hc2
    obtain rfl := Option.some.inj hc2
    cases e2
    exact ⟨⟨dx2, vs2, h2⟩, spM_of (ds := d :: ds) p2 ((a.go g1 W1).go g2 W2) (.cons (r1.mono g2) r2) ((k0.go g1).go g2)⟩
  · intro u s1 ⟨xx, H1, I1, rx, p, ex, q⟩
    subst ex
    obtain rfl : u = Value.ref p := rx
    refine StX.callO_with (thn (pa_y.run pos pins s1 σ H1 _ I1 q) fun us s2 ⟨ws, H2, I2, r, ⟨dx, vs, hp⟩, q2⟩ => ?_) he hpl
    obtain ⟨od, J⟩ := instAt I2 hp
    refine ⟨⟨Ca, _, _, J, rfl⟩, ?_⟩
    have rm : Room k S.X.A := ⟨I2.ok.hd hc, (S.rm.mono hkj).dp, (S.rm.mono hkj).un⟩
    refine wpAny_call (PySem.W.kco_code I2.kIn J rfl hs hf hfi ?_)
    have rr : Vals (V.ref p :: ws) (Value.ref p :: us) := .cons rfl r
    rw [List.append_nil] at q2
    have len : ((Value.ref p :: us) ++ []).length = ps.length := by rw [List.append_nil, ← rr.length]; exact F1.lenG _ _ _ _ q2
    have bd := hb s2 (Value.ref p :: us) I2.kIn len
    rw [List.append_nil] at bd
    refine codeAny_mono (F1.runG S.X.A S.X.stack s2 H2 ⟨Value.ref p :: us, []⟩ (Value.ref p :: us) (V.ref p :: ws) Q _ S.hg rm I2.env0 bd rr q2) fun res s' hq => ?_
    match res, hq with
    | .error e, hq => exact takes_wk _ _ (XE.of_call (W := Wk S.X) I2 (fun _ _ _ z => z) hq)
    | .ok (.ret u), hq => exact I2.after hq
    | .ok .next, hq => exact False.elim hq
    | .ok .brk, hq => exact False.elim hq
    | .ok .cont, hq => exact False.elim hq
end
end Me

/-! Me33: d.get(k). -/
namespace Me
open PySem PySem.Spec PyProof.Rows L2
section
variable {S : Sc} {env : En} {μ : Mu} {o e : Expr} {apos cpos : Pos} {P : KD}
theorem e_dget (h : E S o env μ fun d μ1 => (∃ t kvs, vw μ1 d = .dct t kvs) ∧ E S e env μ1 fun d2 μ2 => ∃ t kvs k, vw μ2 d = .dct t kvs ∧ asDK t d2 = some k ∧ P ((valD kvs k).getD .non) μ2) (m : M1 S.X o "get" apos e cpos := by exact ⟨rfl, rfl, rfl, rfl⟩) : E S (.Call (.Attribute o "get" apos) [e] [] cpos) env μ P := by
  refine PE.imp (pe_dget1 (by have := S.hu; omega) h pe_y m) fun σ H Q ⟨F, as, a, k⟩ => ⟨F, as, a, fun d μ1 v F1 H1 as1 ⟨⟨t, kvs, hv⟩, p1⟩ g1 W1 r1 => ?_⟩
  obtain ⟨p, rfl, dc⟩ := W1.dct r1 hv
  refine ⟨p, rfl, ?_, p1.go (a.go g1 W1) fun d2 μ2 v2 F2 H2 as2 ⟨t2, kvs2, k2, hv2, hk, pp⟩ g2 W2 r2 => ?_⟩
  · cases t with
    | false => obtain ⟨vs, rd, _⟩ := dc; exact .inl ⟨vs, rd⟩
    | true => obtain ⟨vs, rd, _⟩ := dc; exact .inr ⟨vs, rd⟩
  · obtain ⟨p', e', dc2⟩ := W2.dct (r1.mono g2) hv2
    cases e'
    obtain ⟨o, g, ro⟩ := dc2.get W2.sub r2 hk
    refine ⟨o, g, ?_⟩
    cases hq : valD kvs2 k2 with
    | none =>
      rw [hq] at ro pp
      cases o with
      | none => exact k _ _ _ _ _ _ pp (g1.trans g2) W2 .non
      | some w => exact ro.elim
    | some w =>
      rw [hq] at ro pp
      cases o with
      | none => exact ro.elim
      | some w' => exact k _ _ _ _ _ _ pp (g1.trans g2) W2 ro
end
end Me

/-! Me34: x, y, z = a, b, c. -/
namespace Me
open PySem PySem.Spec PyProof.Rows L2
section
variable {S : Sc} {env : En} {μ : Mu} {x y z : Str} {a b c : Expr} {rest : List Stmt} {R : Out → Prop} {p0 p1 p2 pos : Pos}
theorem b_par3 (i j l : Nat) {pt pt2 : Pos} {kt k2 : Nat} (hc : S.X.calm = true) (h : A S [a, b, c] env μ fun ds μ1 => ∃ d1 d2 d3, ds = [d1, d2, d3] ∧ B S rest (((env.set i (some d1)).set j (some d2)).set l (some d3)) μ1 R)
    (hi : S.X.N[i]? = some x := by rfl) (hj : S.X.N[j]? = some y := by rfl) (hl : S.X.N[l]? = some z := by rfl) (hij : i ≠ j := by decide) (hil : i ≠ l := by decide) (hjl : j ≠ l := by decide) (hx : S.X.env.scope.names.lookup x = some .local := by rfl) (hy : S.X.env.scope.names.lookup y = some .local := by rfl) (hz : S.X.env.scope.names.lookup z = some .local := by rfl)
    (hw : swappedStores [.Tuple [.Name x p0, .Name y p1, .Name z p2] kt pt] (.Tuple [a, b, c] k2 pt2) S.X.env = pure (some [x, y, z]) := by rfl)
    (hs : swapsWithSole [.Tuple [.Name x p0, .Name y p1, .Name z p2] kt pt] (.Tuple [a, b, c] k2 pt2) pos.line S.X.env = pure false := by rfl) :
    B S (.Assign [.Tuple [.Name x p0, .Name y p1, .Name z p2] kt pt] (.Tuple [a, b, c] k2 pt2) pos :: rest) env μ R := by
  refine b_cons (PS.imp (ps_par3 hc S.hN hi hj hl hij hil hjl hx hy hz h hw hs) fun D σ H ⟨F, as, a, k⟩ => ?_)
  refine ⟨F, as, a, fun ds μ1 vs F1 H1 as1 ⟨d1, d2, d3, e1, p1⟩ g1 W1 r1 => ?_⟩
  subst e1
  cases r1 with
  | cons h1 t1 =>
    cases t1 with
    | cons h2 t2 =>
      cases t2 with
      | cons h3 t3 =>
        cases t3
        exact ⟨_, _, _, rfl, k.nx _ μ1 _ F1 H1 as1 p1 g1 ((((a.e.mono g1).set h1 i).set h2 j).set h3 l) W1⟩
end
end Me

/-! Me35: d.pop(k) of a dict by names, sorted(d.items()). -/
namespace Me
open PySem PySem.Spec PyProof.Rows L2
def dropD (kvs : List (DK × D)) (k : DK) : List (DK × D) := kvs.filter fun p => decide (p.1 ≠ k)
theorem DTs.drop {Γ : Gam} {F : Hp} {as : List Ad} (k : List Key) : ∀ {vs : List (List Key × V)} {kvs : List (DK × D)}, DTs Γ F as vs kvs → DTs Γ F as (dropK vs k) (dropD kvs (.t k))
  | _, _, .nil => .nil
  | _, _, .cons (k := k') (v := v) (vs := vs) (d := d) (ds := ds) h t => by
    have ih := DTs.drop k t
    by_cases e : k' = k
    · have z1 : dropK ((k', v) :: vs) k = dropK vs k := List.filter_cons_of_neg (by simp [e])
      have z2 : dropD ((.t k', d) :: ds) (.t k) = dropD ds (.t k) := List.filter_cons_of_neg (by simp [e])
      rw [z1, z2]
      exact ih
    · have z1 : dropK ((k', v) :: vs) k = (k', v) :: dropK vs k := List.filter_cons_of_pos (by simp [e])
      have z2 : dropD ((.t k', d) :: ds) (.t k) = (.t k', d) :: dropD ds (.t k) := List.filter_cons_of_pos (by simp [e])
      rw [z1, z2]
      exact .cons h ih
section
variable {X : Cx}
def rPopT1 : V → List V → Hp → VK → Prop := fun x xs H Q => ∃ (a : Addr) (kvs : List (List L2.Key × V)) (k : List L2.Key) (b : Addr) (v : V), x = .ref a ∧ xs = [.ref b] ∧ H a = some (.dT kvs) ∧ H b = some (.tup (k.map kV)) ∧ valV kvs k = some v ∧ Q v (upd H a (.dT (dropK kvs k)))
theorem mt_popT1 (hu : X.A.units + 1 < cLine) : MtR X "dict.pop" rPopT1 := by
  intro pins s σ H x xs v us Q I rx rxs h
  obtain ⟨a, kvs, k, b, v0, rfl, rfl, ha, hb, hv, q⟩ := h
  cases rx
  obtain ⟨u1, rfl, r1⟩ := vals1 rxs
  cases r1
  obtain ⟨z, hd, xs', rel, dd⟩ := dt_of I.hok ha
  have hz : xs'.length ≤ sizeLine := by rw [← Paired.length rel]; exact z
  have r := rel.val k
  rw [hv] at r
  cases hp : atKey xs' k with
  | none => rw [hp] at r; exact (show False from r).elim
  | some p =>
    rw [hp] at r
    refine PySem.call_pop_heap (knd := tupleKind (mixKind X.prog X.w)) (more := []) (.inl rfl) (PySem.F.args_dict_pop_2 _ _) (tupleKind_room_in1 hu) (key_of I.hok hb) hd dd hp (fun h' dd' hs => ?_) hz
    obtain ⟨o, es, ep, hq, h2, h3, h4, _, h5⟩ := dd'
    refine ⟨v0, upd H a (.dT (dropK kvs k)), d_write I (by rw [ha]; exact True.intro) hs ⟨o, hq⟩ ?_, r, q⟩
    exact ⟨Nat.le_trans (dropK_le kvs k) z, hd, _, (L2.DX.KT_drop k rel).keeps (fun c ys ec => (by rw [upd_ne (ne_of ec ha (fun z => nomatch z))]; exact ec)), o, es, ep, hq, h2, h3, h4, h5⟩
end
section
variable {S : Sc} {env : En} {μ : Mu} {o e : Expr} {apos cpos : Pos} {P : KD}
theorem tyb_dct {t : Bool} {kvs : List (DK × D)} {m : Nat} (h : μ[m]? = some (.dct t none kvs)) : Ty S "dict" (.cell m) μ := fun F H as v W r => by
  cases r with
  | cell ha =>
    cases t with
    | false =>
      obtain ⟨_, vs, h1, _⟩ := W.ok m _ _ ha h
      exact .inr (.inr (.inl ⟨rfl, .inl ⟨vs, h1⟩⟩))
    | true =>
      obtain ⟨_, vs, h1, _⟩ := W.ok m _ _ ha h
      exact .inr (.inr (.inl ⟨rfl, .inr ⟨vs, h1⟩⟩))
theorem m_dpop {m : Nat} {kvs : List (DK × D)} {k : DK} {d d2 : D} (hc : μ[m]? = some (.dct true none kvs)) (hk : asDK true d2 = some k) (hv : valD kvs k = some d) (kk : P d (μ.set m (.dct true none (dropD kvs k)))) : Mt S "dict.pop" (.cell m) [d2] μ P :=
  ⟨_, mt_popT1 (by have := S.hu; omega), fun F H as x xs Q W r rs kq => by
    cases r with
    | @cell _ ad ha =>
      obtain ⟨nF, vs, h1, h2⟩ := W.ok m ad _ ha hc
      obtain ⟨u, rfl, ru⟩ := dvs1 rs
      obtain ⟨k', rfl⟩ := asDK_t hk
      obtain ⟨b, rfl, e⟩ := ru.keyT hk
      have rv := h2.val k'
      rw [hv] at rv
      cases hw : valV vs k' with
      | none => rw [hw] at rv; exact rv.elim
      | some v0 =>
        rw [hw] at rv
        obtain ⟨W2, g2⟩ := W.setD (o := .dT (dropK vs k')) (kvs := dropD kvs (.t k')) ha hc fun nF => ⟨nF, _, upd_same, h2.drop k'⟩
        exact ⟨_, vs, k', b, v0, rfl, rfl, h1, W.sub _ _ e, hw, kq _ _ _ _ _ _ kk g2 W2 (rv.mono g2)⟩⟩
/-- d.pop(k) -/
theorem e_dpop (h : E S o env μ fun d μ1 => ∃ m, d = .cell m ∧ (∃ kvs, μ1[m]? = some (.dct true none kvs)) ∧ E S e env μ1 fun d2 μ2 => ∃ kvs k v, μ2[m]? = some (.dct true none kvs) ∧ asDK true d2 = some k ∧ valD kvs k = some v ∧ P v (μ2.set m (.dct true none (dropD kvs k))))
    (hbase : attributeBase o "pop" S.X.env (eval o S.X.env) = eval o S.X.env := by rfl) (hline : (apos.endLine == cpos.line) = true := by rfl) (hs : starEach [e] S.X.env = (false, eval e S.X.env) :: starEach [] S.X.env := by rfl) :
    E S (.Call (.Attribute o "pop" apos) [e] [] cpos) env μ P := by
  refine e_bm PySem.F.plainAttrs_dict PySem.F.slot_dict_pop PySem.F.type_dict_pop (h.imp fun d μ1 ⟨m, e1, ⟨kvs, h1⟩, h2⟩ => ?_) hbase (by rw [hs]; rfl) hline hs (by rfl)
  subst e1
  exact ⟨tyb_dct h1, a_cons (h2.imp fun d2 μ2 ⟨kvs, k, v, q1, q2, q3, q4⟩ => a_nil (m_dpop q1 q2 q3 q4)) hs⟩
/-- l.reverse() -/
theorem e_reverse (h : E S o env μ fun d μ1 => ∃ m ds, d = .cell m ∧ μ1[m]? = some (.lst ds) ∧ P .non (μ1.set m (.lst ds.reverse)))
    (hbase : attributeBase o "reverse" S.X.env (eval o S.X.env) = eval o S.X.env := by rfl) (hline : (apos.endLine == cpos.line) = true := by rfl) : E S (.Call (.Attribute o "reverse" apos) [] [] cpos) env μ P := by
  refine e_bm0 PySem.F.plainAttrs_list PySem.F.slot_list_reverse PySem.F.type_list_reverse (h.imp fun d μ1 ⟨m, ds, e1, h1, h2⟩ => ?_) hbase hline
  subst e1
  exact ⟨ty_lst (ds := ds) (by simp only [vw, h1]), m_reverse h1 h2⟩
end
/-! ### sorted(d.items()) -/
section
variable {X : Cx} {pins : List (Addr × Obj)} {s : Shared} {σ : L2.St} {Γ : Gam}
/-- `sorted` whose items come up while they are gathered -/
theorem sorted_runJ {u : Value} {ds : List D} {Q : VK} {J : Hp → Hp → List Ad → Prop} (ok : SrtOk ds) (hu : X.A.units + 70 < cLine)
    (col : ∀ {R : List Value → Shared → Prop} {E : Value → Shared → Prop}, (∀ us s1 H F as vs, Inv X pins σ H s1 → Same F H → DVs Γ F as vs ds → Vals vs us → J H F as → R us s1) → wpAny (model X.prog X.w) X.A.in1 (collect u) R E s)
    (q : ∀ H F as p ws, J H F as → H p = none → DVs Γ F as ws (srt ds) → Q (.ref p) (upd H p (.lst ws))) : wpAny (model X.prog X.w) X.A (call (.builtin "sorted") [u]) (EP X pins σ Q) X.xe s := by
  refine Calls.call_function_entry kind_sorted plain_sorted entry_sorted (args_sorted1 _) ?_
  unfold Builtin.«sorted»
  refine wpAny_bind (m := checkCount "sorted" 1 1 _) (wpAny_pure (wpAny_bind (col fun us s1 H F as vs I1 sF dv rv hJ => ?_)))
  have hl : us.length = ds.length := by rw [← rv.length, dv.length]
  refine wpAny_bind (wpAny_newList ?_ (by rw [hl]; exact ok.sz))
  generalize ea : s1.heap.objs.size = a
  generalize eh : s1.heap.push (seqObj "list" us.toArray 0) = h2
  have ho : h2.get? a = some (seqObj "list" us.toArray 0) := by rw [← eh, ← ea]; exact Heap.get?_push_size _ rfl
  have old : ∀ b o, s1.heap.get? b = some o → h2.get? b = some o := fun b o e => by rw [← eh]; exact Heap.get?_push_of_some _ e
  have nea : ∀ b o, s1.heap.get? b = some o → b ≠ a := fun b o e => by rw [← ea]; exact Nat.ne_of_lt (Heap.lt_size e)
  obtain ⟨ar, rd⟩ := Dp.readsAll I1 _ _ _ (DVs.dpn X.K sF dv ok.py ok.nd) rv
  rw [pys_map] at rd
  have er : PySem.W.EachIs (fun v d => ∃ as, Reads (PySem.W.sortingHeap h2 a us) v (D.py d) as) us ds :=
    PySem.W.readsAll_each D.py (PyProof.Rows.ReadsAll.keeps (fun b o e => PySem.W.sortingHeap_old (nea b o e) (old b o e)) rd)
  have ee := each_vals dv rv
  refine wpAny_bind (wpAny_holding (wpAny_call_entry slot_list_sort ⟨_, ho, rfl⟩ entry_list_sort ?_ (args_list_sort _)))
  show wpAny (model X.prog X.w) X.A.in1.in1 (Builtin.«list.sort» ⟨[.ref a], []⟩) _ _ ({ s1 with heap := h2 } : Shared)
  refine PySem.W.list_sort_vals (κ := PySem.W.dataKind (PySem.W.sortingHeap h2 a us) (ds.map D.py)) (s := { s1 with heap := h2 }) ho
    (PySem.W.SortsAt.data (s := { s1 with heap := PySem.W.sortingHeap h2 a us }) (PySem.W.each_map (R := fun v d => ∃ as, Reads (PySem.W.sortingHeap h2 a us) v d as) D.py er) ok.al ok.so fun d hd => ?_) (by rw [hl]; exact ok.sz) ⟨.none, rfl, ?_⟩
  · obtain ⟨b, hb, rfl⟩ := List.mem_map.mp hd
    have := ok.dp b hb
    show X.A.units + 1 + 1 + _ < cLine
    omega
  · obtain ⟨ws, w1, w2⟩ := each_out (PySem.W.sortVals_data false ee er ok.al)
    obtain ⟨c, hc⟩ := sortedHeap_at (vs := us) (out := (PySem.W.sortVals (PySem.W.dataKind (PySem.W.sortingHeap h2 a us) (ds.map D.py)) false us us).toArray) ho
    have hsz : h2.objs.size = a + 1 := by rw [← eh, ← ea, size_push']
    refine wpAny_pure ⟨_, rfl, .ref a, upd H a (.lst ws), I1.laid (t' := s1.toks) (fun b o e => ?_) (Nat.le_of_eq ea) ⟨?_, _, c, w1, hc⟩, rfl, q H F as a ws hJ (I1.hok.fresh (Nat.le_of_eq ea)) w2⟩
    · rw [sortedHeap_old (nea b o e) (Heap.lt_size (old b o e))]
      exact old b o e
    · rw [w2.length, List.length_mergeSort]
      exact ok.sz
/-- tuples already laid become known -/
theorem layT {h' : Heap} {tk : Nat} {H0 : Hp} {as : List Ad} {μ : Mu} (I0 : Inv X pins σ H0 s) : ∀ (rows : List (Addr × List V × List D)) (F H : Hp), Inv X pins σ H { s with heap := h', toks := tk } → Wd Γ F H as μ → (rows.map (·.1)).Nodup →
    (∀ r ∈ rows, s.heap.objs.size ≤ r.1 ∧ H r.1 = none ∧ DVs Γ F as r.2.1 r.2.2 ∧ ∀ H2, ObjOk X.prog X.w H2 h' r.1 (.tup r.2.1)) →
    ∃ F' H', Inv X pins σ H' { s with heap := h', toks := tk } ∧ Wd Γ F' H' as μ ∧ Go F H as F' H' as ∧ DVs Γ F' as (rows.map fun r => V.ref r.1) (rows.map fun r => D.tup r.2.2)
  | [], F, H, I, W, _, _ => ⟨F, H, I, W, Go.refl _ _ _, .nil⟩
  | r :: rows, F, H, I, W, nd, h => by
    obtain ⟨hb, hn, dv, ok⟩ := h r List.mem_cons_self
    rw [List.map_cons, List.nodup_cons] at nd
    have I1 : Inv X pins σ (upd H r.1 (.tup r.2.1)) { s with heap := h', toks := tk } := I.take (h' := h') (t' := tk) (fun b ob _ e => e) (I0.fpOk hb hn) (ok _)
    obtain ⟨W1, g1⟩ := W.addF (o := .tup r.2.1) hn
    obtain ⟨F2, H2, I2, W2, g2, d2⟩ := layT I0 rows _ _ I1 W1 nd.2 fun c hc => by
      obtain ⟨c1, c2, c3, c4⟩ := h c (List.mem_cons_of_mem _ hc)
      exact ⟨c1, by rw [upd_ne (fun z => nd.1 (by rw [← z]; exact List.mem_map.mpr ⟨c, hc, rfl⟩))]; exact c2, c3.mono g1, c4⟩
    exact ⟨F2, H2, I2, W2, g1.trans g2, .cons (.tup (g2.sub _ _ upd_same) (dv.mono (g1.trans g2))) d2⟩
/-- the items of a dict by names, gathered -/
abbrev itD (p : DK × D) : D := .tup [dkD p.1, p.2]
theorem col_items {Γ : Gam} {F H : Hp} {as : List Ad} {μ : Mu} {v d : Addr} {vs : List (List Key × V)} {kvs : List (DK × D)} (hc : X.calm = true) (I : Inv X pins σ H s) (W : Wd Γ F H as μ) (hd : H d = some (.dT vs)) (dv : DTs Γ F as vs kvs) (hv : s.heap.IsItemsView v d)
    {R : List Value → Shared → Prop} {E : Value → Shared → Prop} (k : ∀ us s1 H1 F1 ws, Inv X pins σ H1 s1 → Same F1 H1 → DVs Γ F1 as ws (kvs.map itD) → Vals ws us → (Wd Γ F1 H1 as μ ∧ Go F H as F1 H1 as) → R us s1) : wpAny (model X.prog X.w) X.A.in1 (collect (.ref v)) R E s := by
  obtain ⟨z, hs, ks, pr, o, es, ep, ho, hx, hdt, he, hn⟩ := (show ObjOk X.prog X.w H s.heap d (.dT vs) from I.hok d _ hd)
  have l1 : es.size = ks.length := size_of_entries he
  have l2 : vs.length = ks.length := Paired.length pr
  refine DT.collectI (A := X.A.in1) (es := es) (ep := ep) (I.ok.hd hc) hv ⟨o, ho, hx, hdt⟩ (by omega) fun h' tk L hk hlt hl hG => ?_
  have I1 : Inv X pins σ H { s with heap := h', toks := tk } := I.kept hk
  obtain ⟨F1, W1, g1, dk⟩ := adoptKeys W dv (isKeys_of pr)
  have nd : L.Nodup := List.Pairwise.imp (fun h => Nat.ne_of_lt h) hG.rise
  -- the rows
  have key : ∀ (L : List Addr) (ks : List (List Key × Addr × Value)) (vs : List (List Key × V)) (kvs : List (DK × D)), L.length = ks.length → KT H vs ks → DTs Γ F1 as vs kvs → DVs Γ F1 as ((ks.map fun x => x.2.1).map V.ref) (kvs.map fun p => dkD p.1) →
      (∀ (j : Nat) (a : Addr), L[j]? = some a → s.heap.objs.size ≤ a ∧ ∃ x, ks[j]? = some x ∧ h'.get? a = some { cls := .type "tuple", data := .seq #[Value.ref x.2.1, x.2.2] }) →
      ∃ rows : List (Addr × List V × List D), rows.map (·.1) = L ∧ (rows.map fun r => D.tup r.2.2) = kvs.map itD ∧ ∀ r ∈ rows, s.heap.objs.size ≤ r.1 ∧ DVs Γ F1 as r.2.1 r.2.2 ∧ ∀ H2, ObjOk X.prog X.w H2 h' r.1 (.tup r.2.1) := by
    intro L
    induction L with
    | nil =>
      intro ks vs kvs hl kt dt dk _
      cases ks with
      | cons x ks => exact nomatch hl
      | nil =>
        cases kt
        cases dt
        exact ⟨[], rfl, rfl, fun r hr => nomatch hr⟩
    | cons a L ih =>
      intro ks vs kvs hl kt dt dk hp
      cases ks with
      | nil => exact nomatch hl
      | cons x ks =>
        cases kt with
        | cons k0 kt =>
          cases dt with
          | @cons kk vv _ dd0 _ d0 dt =>
            cases dk with
            | cons e0 dk =>
              obtain ⟨rows, r1, r2, r3⟩ := ih ks _ _ (Nat.succ.inj hl) kt dt dk fun j b hj => by
                obtain ⟨p1, y, p2, p3⟩ := hp (j + 1) b hj
                exact ⟨p1, y, p2, p3⟩
              obtain ⟨p1, y, p2, p3⟩ := hp 0 a rfl
              obtain rfl := Option.some.inj p2
              refine ⟨(a, [V.ref x.2.1, vv], [dkD (.t kk), dd0]) :: rows, by rw [List.map_cons, r1], by rw [List.map_cons, r2]; rfl, fun r hr => ?_⟩
              rcases List.mem_cons.mp hr with rfl | hr
              · exact ⟨p1, .cons e0 (.cons d0 .nil), fun H2 => ⟨by show 2 ≤ sizeLine; decide, _, .cons rfl (.cons k0.2.2 .nil), _, p3, rfl, 0, rfl⟩⟩
              · exact r3 r hr
  obtain ⟨rows, r1, r2, r3⟩ := key L ks vs kvs (by omega) pr (dv.mono g1) dk fun j a hj => by
    obtain ⟨en, p1, p2⟩ := hG.pairs j a hj
    have ql := entry_at he j
    rw [p1] at ql
    cases hb : ks[j]? with
    | none => rw [hb] at ql; exact nomatch (show some en = none from ql)
    | some x =>
      rw [hb] at ql
      have e2 : en = entryOfKey (tupleKind (mixKind X.prog X.w)) x := Option.some.inj ql
      refine ⟨Nat.le_of_lt (hG.above a (List.mem_of_getElem? hj)), x, rfl, ?_⟩
      rw [p2, e2]
      rfl
  obtain ⟨F2, H2, I2, W2, g2, dvs⟩ := layT (Γ := Γ) I rows F1 H I1 W1 (by rw [r1]; exact nd) fun r hr => by
    obtain ⟨a1, a2, a3⟩ := r3 r hr
    exact ⟨a1, I.hok.fresh a1, a2, a3⟩
  rw [r2] at dvs
  refine k _ _ H2 F2 _ I2 W2.sub dvs ?_ ⟨W2, g1.trans g2⟩
  rw [← r1, List.map_map]
  have : ∀ l : List (Addr × List V × List D), Vals (l.map fun r => V.ref r.1) (l.map (Value.ref ∘ fun r => r.1)) := fun l => by
    induction l with
    | nil => exact .nil
    | cons r l ih => exact .cons rfl ih
  exact this rows
end
section
variable {S : Sc} {env : En} {μ : Mu} {o : Expr} {apos cpos p0 pos : Pos} {P : KD}
/-- sorted(d.items()) -/
theorem e_sortedItems (h : E S o env μ fun d μ1 => ∃ m kvs, d = .cell m ∧ μ1[m]? = some (.dct true none kvs) ∧ SrtOk (kvs.map itD) ∧ Nl P (srt (kvs.map itD)) μ1)
    (hbase : attributeBase o "items" S.X.env (eval o S.X.env) = eval o S.X.env := by rfl) (hline : (apos.endLine == cpos.line) = true := by rfl) (hg : Gl S.X "sorted" := by rfl) (hc : S.X.calm = true := by rfl) :
    E S (.Call (.Name "sorted" p0) [.Call (.Attribute o "items" apos) [] [] cpos] [] pos) env μ P := by
  refine ⟨fun pins s σ H Q I ⟨F, as, a, k⟩ => ?_⟩
  refine Call_ (ld_blt I hg S.hb.sorted boot_sorted ?_)
  refine PyProof.Rows.callWith_builtin1 (PyProof.Rows.args_cons ?_ rfl) rfl rfl
  refine wpAny_Call_method0_late hbase hline (thn (h.run pins s σ H (fun x H1 => ∃ ad vs kvs F1 as1 μ1, x = .ref ad ∧ H1 ad = some (.dT vs) ∧ DTs S.Γ F1 as1 vs kvs ∧ Wd S.Γ F1 H1 as1 μ1 ∧ Go F H as F1 H1 as1 ∧ SrtOk (kvs.map itD) ∧ Nl P (srt (kvs.map itD)) μ1) I ⟨F, as, a, ?_⟩) fun v s1 ⟨x, H1, I1, r1, q1⟩ => ?_)
  · rintro d μ1 v F1 H1 as1 ⟨m, kvs, rfl, hm, ok, kk⟩ g1 W1 r1
    cases r1 with
    | @cell _ ad ha =>
      obtain ⟨nF, vs, h1, h2⟩ := W1.ok m ad _ ha hm
      exact ⟨ad.a, vs, kvs, F1, as1, μ1, rfl, h1, h2, W1, g1, ok, kk⟩
  obtain ⟨ad, vs, kvs, F1, as1, μ1, rfl, h1, dv, W1, g1, ok, kk⟩ := q1
  obtain ⟨z, hs, ks, pr, ob, es, ep, ho, hx, hdt, he, hn⟩ := (show ObjOk S.X.prog S.X.w H1 s1.heap ad (.dT vs) from I1.hok ad _ h1)
  obtain ⟨t1, t2⟩ := tyV_is I1 r1 (T := "dict") (.inr (.inr (.inl ⟨rfl, .inr ⟨vs, h1⟩⟩)))
  cases r1
  refine ⟨"dict", "dict.items", PySem.F.plainAttrs_dict, PySem.F.slot_dict_items, PySem.F.type_dict_items, t1, t2, Calls.callWith_builtin rfl (PySem.evalArgs_none ?_)⟩
  refine DT.callItems (es := es) (ep := ep) hs ⟨ob, ho, hx, hdt⟩ ?_
  refine PyProof.Rows.args_nil ?_
  have I2 : Inv S.X pins σ H1 { s1 with heap := s1.heap.push { cls := .type "dict_items", data := .fields #[.ref ad] } } := I1.kept (t' := s1.toks) fun b o e => Heap.get?_push_of_some _ e
  refine sorted_runJ (Γ := S.Γ) (J := fun H2 F2 as2 => Wd S.Γ F2 H2 as2 μ1 ∧ Go F1 H1 as1 F2 H2 as2) ok S.hu (fun kq => col_items (Γ := S.Γ) hc I2 W1 h1 dv ⟨_, Heap.get?_push_size _ rfl, rfl, rfl⟩ fun us s3 H3 F3 ws I3 sF dws rv hJ => kq us s3 H3 F3 as1 ws I3 sF dws rv hJ) fun H3 F3 as3 p ws hJ hp dws => ?_
  exact ((Kv.go (S := S) (F := F) (H := H) (as := as) (P := P) (Q := Q) k g1).go hJ.2).new hJ.1 hp kk dws
end
end Me

/-! Me36: sum(lists, []). -/
namespace Me
open PySem PySem.Spec PyProof.Rows L2
theorem args_sum2 (a b : Value) : argsOk "sum" ⟨[a, b], []⟩ := by unfold argsOk; kernel_rfl
section
variable {prog : Program} {w : World} {A : Around} {R : Result → Shared → Prop} {I : Addr} {fp wr : List Addr} {n : Nat} {Pv : Nat → Value → Prop} {St : Nat → Heap → Prop}
/-- the lists put together up to i -/
def catL (it0 : List Value) (its : List (List Value)) (i : Nat) : List Value := it0 ++ (its.take i).flatten
theorem catL_succ {it0 : List Value} {its : List (List Value)} {i : Nat} {x : List Value} (h : its[i]? = some x) : catL it0 its (i + 1) = catL it0 its i ++ x := by
  unfold catL
  rw [List.take_succ, h, List.append_assoc]
  simp
theorem sum_loopL (W : Walks prog w A.in1 I fp wr n Pv St) (h0 : Heap) (it0 : List Value) (its : List (List Value)) (hn : its.length = n) (hz : (catL it0 its n).length ≤ sizeLine) (hwr : ∀ b ∈ wr, h0.objs.size ≤ b)
    (hval : ∀ i v, Pv i v → ∃ a xs m, v = .ref a ∧ its[i]? = some xs ∧ IsL h0 a xs.toArray m) (S : Addr) (hS0 : h0.objs.size ≤ S) (hSf : S ∉ fp) (hfp : ∀ i h, St i h → ∀ b ∈ fp, b < h.objs.size) :
    ∀ (k i : Nat) (s : Shared) (T : Addr) (m c : Nat), n - i = k → i ≤ n → St i s.heap → (∀ b o, h0.get? b = some o → s.heap.get? b = some o) → IsL s.heap S #[.ref T] c → IsL s.heap T (catL it0 its i).toArray m → T ≠ S → T ∉ wr → (0 < i → h0.objs.size ≤ T) →
    (∀ h' tk T' m', (∀ b o, h0.get? b = some o → h'.get? b = some o) → (0 < n → h0.objs.size ≤ T') → IsL h' T' (catL it0 its n).toArray m' → R (.ok (.ret (.ref T'))) { s with heap := h', toks := tk }) →
    codeAny (model prog w) A (.builtin "sum.loop" ⟨[.ref I, .ref S, rawInt 2, rawInt 0], []⟩) R s := by
  have hSw : S ∉ wr := fun h => hSf (W.sub _ h)
  intro k
  induction k with
  | zero =>
    intro i s T m c hk hi hst hkp hS hT hTS hTw hT0 hR
    have hin : i = n := by omega
    subst hin
    refine codeAny_builtin F.entry_sum_loop ?_
    rw [Around.under_plainId F.plain_sum_loop _]
    show wpAny _ A.in1 (seqItems? (.ref S) >>= _) _ _ s
    refine wpAny_bind (wpAny_seqItems hS rfl ?_)
    show wpAny _ A.in1 (tryCatch (pyNext (.ref I)) _ >>= _) _ _ s
    refine wpAny_bind (wpAny_tryCatch (W.done s _ _ hst fun h' tk hk' => ?_))
    exact wpAny_pure (hR h' tk T m (fun b o e => hk' b o (fun hb => Nat.lt_irrefl _ (Nat.lt_of_lt_of_le (Heap.lt_size e) (hwr b hb))) (hkp b o e)) hT0 (hk' T _ hTw hT))
  | succ k ih =>
    intro i s T m c hk hi hst hkp hS hT hTS hTw hT0 hR
    have hlt : i < n := by omega
    refine codeAny_builtin F.entry_sum_loop ?_
    rw [Around.under_plainId F.plain_sum_loop _]
    show wpAny _ A.in1 (seqItems? (.ref S) >>= _) _ _ s
    refine wpAny_bind (wpAny_seqItems hS rfl ?_)
    show wpAny _ A.in1 (tryCatch (pyNext (.ref I)) _ >>= _) _ _ s
    refine wpAny_bind (wpAny_tryCatch (W.item i s _ _ hlt hst fun v h' tk hP hst' hk' => ?_))
    obtain ⟨a, xs, m2, rfl, hxs, ha⟩ := hval i v hP
    have old : ∀ b o, h0.get? b = some o → h'.get? b = some o := fun b o e => hk' b o (fun hb => Nat.lt_irrefl _ (Nat.lt_of_lt_of_le (Heap.lt_size e) (hwr b hb))) (hkp b o e)
    have hS' : IsL h' S #[.ref T] c := hk' S _ hSw hS
    have hT' : IsL h' T (catL it0 its i).toArray m := hk' T _ hTw hT
    have ha' : IsL h' a xs.toArray m2 := old _ _ ha
    have fplt := hfp _ _ hst'
    have e2 : (catL it0 its i).toArray ++ xs.toArray = (catL it0 its (i + 1)).toArray := by rw [catL_succ hxs]; simp
    have hle : (catL it0 its (i + 1)).length ≤ sizeLine := by
      refine Nat.le_trans ?_ hz
      unfold catL
      rw [List.length_append, List.length_append]
      have : ((its.take (i + 1)).flatten).length ≤ ((its.take n).flatten).length := by
        have e3 : its.take (i + 1) = (its.take n).take (i + 1) := by rw [List.take_take, Nat.min_eq_left (by omega)]
        rw [e3]
        have e4 : (its.take n).flatten = ((its.take n).take (i + 1)).flatten ++ ((its.take n).drop (i + 1)).flatten := by rw [← List.flatten_append, List.take_append_drop]
        rw [e4, List.length_append]
        omega
      omega
    show wpAny _ A.in1 ((holding [Value.ref a] (binaryOp .Add (.ref T) (.ref a))).attempt >>= _) _ _ _
    refine wpAny_bind (wpAny_attempt (wpAny_holding (PySem.P.add_list (s := { s with heap := h', toks := tk }) hT' ha' ?_ (by
      have : ((catL it0 its i).toArray ++ xs.toArray).size ≤ sizeLine := by rw [e2]; simpa using hle
      rwa [Array.size_append] at this))))
    rw [e2]
    have hSlt : S < h'.objs.size := Heap.lt_size hS'
    have hS2 : IsL (h'.push { cls := .type "list", data := .seq (catL it0 its (i + 1)).toArray }) S #[.ref T] c := IsL.push hS' _
    have hT2 : IsL (h'.push { cls := .type "list", data := .seq (catL it0 its (i + 1)).toArray }) h'.objs.size (catL it0 its (i + 1)).toArray 0 := IsL.new _ _
    have kp2 : ∀ b o, h'.get? b = some o → (h'.push { cls := .type "list", data := .seq (catL it0 its (i + 1)).toArray }).get? b = some o := fun b o e => Heap.get?_push_of_some _ e
    generalize h'.push { cls := .type "list", data := .seq (catL it0 its (i + 1)).toArray } = h2 at hS2 hT2 kp2 ⊢
    show wpAny _ A.in1 (updateSeq S (fun _ => #[.ref h'.objs.size]) >>= _) _ _ _
    refine wpAny_bind (wpAny_updateSeq hS2 rfl ?_)
    have hS3 := Heap.get?_update_self (Obj.mapSeq fun _ => #[Value.ref h'.objs.size]) hS2 rfl
    refine wpAny_bind (wpAny_letGo ?_)
    have hne : ∀ b o, h'.get? b = some o → b ≠ h'.objs.size := fun b o e => Nat.ne_of_lt (Heap.lt_size e)
    refine wpAny_bind (wpAny_updateSeq hS3 rfl (wpAny_pure ⟨plainId_quiet F.plain_sum_loop _, ih (i + 1) _ h'.objs.size 0 _ (by omega) hlt (W.frame _ _ _ hst' fun b hb o e => ?_) (fun b o e => ?_) (Heap.get?_update_self _ hS3 rfl) ?_ (Nat.ne_of_gt hSlt) (fun hb => Nat.lt_irrefl _ (fplt _ (W.sub _ hb))) (fun _ => Nat.le_of_lt (Nat.lt_of_le_of_lt hS0 hSlt)) fun h'' tk'' T'' m'' hk'' hT'' hL'' => ?_⟩))
    · have nb : S ≠ b := fun h => hSf (by rw [h]; exact hb)
      exact (Heap.get?_update_other _ _ nb).trans ((Heap.get?_update_other _ _ nb).trans (kp2 b o e))
    · have nb : S ≠ b := fun h => Nat.lt_irrefl _ (Nat.lt_of_lt_of_le (Heap.lt_size e) (by rw [← h]; exact hS0))
      exact (Heap.get?_update_other _ _ nb).trans ((Heap.get?_update_other _ _ nb).trans (kp2 b o (old b o e)))
    · have nb : S ≠ h'.objs.size := Nat.ne_of_lt hSlt
      exact (Heap.get?_update_other _ _ nb).trans ((Heap.get?_update_other _ _ nb).trans hT2)
    · exact hR h'' tk'' T'' m'' hk'' hT'' hL''
theorem call_sumL {s : Shared} {E : Value → Shared → Prop} {l q : Addr} {vs it0 : List Value} {its : List (List Value)} {m0 : Nat} {Q : Value → Shared → Prop} (hh : A.handled = none) (hl : s.heap.IsList l vs.toArray) (h0 : IsL s.heap q it0.toArray m0) (hn : its.length = vs.length) (hne : 0 < vs.length)
    (hv : ∀ (i : Nat) (v : Value), vs[i]? = some v → ∃ (a : Addr) (xs : List Value) (m : Nat), v = Value.ref a ∧ its[i]? = some xs ∧ IsL s.heap a xs.toArray m) (hz : (it0 ++ its.flatten).length ≤ sizeLine)
    (h : ∀ (h' : Heap) (tk : Nat) (T : Addr) (m : Nat), (∀ b o, s.heap.get? b = some o → h'.get? b = some o) → s.heap.objs.size ≤ T → IsL h' T (it0 ++ its.flatten).toArray m → Q (.ref T) { s with heap := h', toks := tk }) :
    wpAny (model prog w) A (call (.builtin "sum") [.ref l, .ref q]) Q E s := by
  have ec : catL it0 its vs.length = it0 ++ its.flatten := by unfold catL; rw [← hn, List.take_length]
  refine call_function_tree F.kind_sum F.plain_sum F.entry_sum (args_sum2 _ _) ?_
  unfold Builtin.«sum»
  simp only [List.length_cons, List.length_nil]
  rw [if_neg (by decide)]
  refine wpAny_bind (wpAny_of_eq (show Builtin.Builtins.bindParams "sum" ["start"] 0 ⟨[Value.ref q], []⟩ = pure [some (.ref q)] from rfl) ?_)
  refine wpAny_bind (wpAny_pyIter_list hl ?_)
  have hlt : l < s.heap.objs.size := by obtain ⟨_, e, _⟩ := hl; exact Heap.lt_size e
  have it1 : (s.heap.push { cls := .type "list_iterator", data := .fields #[.ref l, .int 0 0] }).IsListIter s.heap.objs.size l 0 := ⟨_, Heap.get?_push_size _ rfl, rfl, rfl⟩
  have hl1 := hl.push (o := { cls := .type "list_iterator", data := .fields #[.ref l, .int 0 0] })
  have kp1 : ∀ b o, s.heap.get? b = some o → (s.heap.push { cls := .type "list_iterator", data := .fields #[.ref l, .int 0 0] }).get? b = some o := fun b o e => Heap.get?_push_of_some _ e
  have sz1 : (s.heap.push { cls := .type "list_iterator", data := .fields #[.ref l, .int 0 0] }).objs.size = s.heap.objs.size + 1 := Heap.size_push _ _
  generalize s.heap.push { cls := .type "list_iterator", data := .fields #[.ref l, .int 0 0] } = h1 at it1 hl1 kp1 sz1 ⊢
  have hq1 : IsL h1 q it0.toArray m0 := kp1 _ _ h0
  refine wpAny_bind (wpAny_pure ?_)
  simp only [List.forIn_cons, List.forIn_nil]
  have tq : ({ s with heap := h1 } : Shared).TypeIs (.ref q) "list" := ⟨_, hq1, rfl⟩
  refine wpAny_bind (wpAny_bind (wpAny_bind (wpAny_isInstance (T := "list") (b := false) tq F.sub_list_str ?_)))
  simp only [Bool.false_eq_true, if_false]
  refine wpAny_pure (wpAny_bind (wpAny_bind (wpAny_isInstance (T := "list") (b := false) tq F.sub_list_bytes ?_)))
  simp only [Bool.false_eq_true, if_false]
  refine wpAny_pure (wpAny_bind (wpAny_bind (wpAny_isInstance (T := "list") (b := false) tq F.sub_list_bytearray ?_)))
  simp only [Bool.false_eq_true, if_false]
  refine wpAny_pure (wpAny_pure ?_)
  refine wpAny_bind (wpAny_newObj_type ?_)
  have W := Walks.list (prog := prog) (w := w) (A := A.in1) hh s.heap.objs.size l (Nat.ne_of_lt hlt) vs.toArray
  have hSf : h1.objs.size ∉ [s.heap.objs.size, l] := fun hm => by
    simp only [List.mem_cons, List.not_mem_nil, or_false] at hm
    rcases hm with hm | hm
    · exact Nat.ne_of_gt (show s.heap.objs.size < h1.objs.size by rw [sz1]; exact Nat.lt_succ_self _) hm
    · exact Nat.ne_of_gt (show l < h1.objs.size by rw [sz1]; exact Nat.lt_succ_of_lt hlt) hm
  have hq : q < s.heap.objs.size := Heap.lt_size h0
  refine wpAny_pure ⟨plainId_quiet F.plain_sum_loop _, sum_loopL W s.heap it0 its (by simpa using hn) (by simp only [List.size_toArray]; rw [ec]; exact hz) (fun b hb => by rw [List.mem_singleton.mp hb]; exact Nat.le_refl _) (fun i v hP => hv i v (by simpa using hP)) h1.objs.size (by omega) hSf (fun i hp hst b hb => ?_) vs.toArray.size 0 _ q m0 0 rfl (Nat.zero_le _)
    (W.frame 0 h1 _ ⟨it1, hl1⟩ fun b _ o e => Heap.get?_push_of_some _ e) (fun b o e => Heap.get?_push_of_some _ (kp1 b o e)) (Heap.get?_push_size _ rfl) (by rw [show catL it0 its 0 = it0 by simp [catL]]; exact IsL.push hq1 _) (Nat.ne_of_lt (show q < h1.objs.size by rw [sz1]; exact Nat.lt_succ_of_lt hq)) (fun hb => Nat.ne_of_lt hq (List.mem_singleton.mp hb)) (fun z => absurd z (by decide)) fun h' tk T m hk hT hL => ?_⟩
  · simp only [List.mem_cons, List.not_mem_nil, or_false] at hb
    rcases hb with rfl | rfl
    · obtain ⟨_, e, _⟩ := hst.1; exact Heap.lt_size e
    · obtain ⟨_, e, _⟩ := hst.2; exact Heap.lt_size e
  · simp only [List.size_toArray] at hL hT
    rw [ec] at hL
    exact h h' tk T m hk (hT hne) hL
end
section
variable {X : Cx} {pins : List (Addr × Obj)} {s : Shared} {σ : L2.St} {Γ : Gam} {F H : Hp} {as : List Ad} {μ : Mu}
theorem lists_of (I : Inv X pins σ H s) (W : Wd Γ F H as μ) : ∀ {ess : List (List D)} {vs : List V} {us : List Value}, DVs Γ F as vs (ess.map D.lst) → Vals vs us →
    ∃ (itss : List (List Value)) (wss : List V), itss.length = us.length ∧ (∀ (i : Nat) (v : Value), us[i]? = some v → ∃ (a : Addr) (xs : List Value) (m : Nat), v = Value.ref a ∧ itss[i]? = some xs ∧ IsL s.heap a xs.toArray m) ∧ Vals wss itss.flatten ∧ DVs Γ F as wss ess.flatten
  | [], vs, us, dv, rv => by
    cases dv
    cases rv
    exact ⟨[], [], rfl, fun i v h => by simp at h, .nil, .nil⟩
  | es :: ess, vs, us, dv, rv => by
    cases dv with
    | cons d0 dv =>
      cases rv with
      | cons r0 rv =>
        obtain ⟨itss, wss, l1, l2, l3, l4⟩ := lists_of I W dv rv
        obtain ⟨a, ws, rfl, ha, hw⟩ := W.lst d0 (show vw μ (.lst es) = .lst es from rfl)
        cases r0
        obtain ⟨_, its, n, r, _, e⟩ := I.lstM ha
        refine ⟨its :: itss, ws ++ wss, by rw [List.length_cons, List.length_cons, l1], fun i v h => ?_, by rw [List.flatten_cons]; exact r.append l3, by rw [List.flatten_cons]; exact hw.append l4⟩
        cases i with
        | zero =>
          obtain rfl := Option.some.inj h
          exact ⟨a, its, n, rfl, rfl, e⟩
        | succ i => exact l2 i v h
end
section
variable {S : Sc} {env : En} {μ : Mu} {d d0 : D} {es0 : List D} {P : KD} {e : Expr} {es : List Expr} {p0 pos : Pos}
theorem c_sumL {ess : List (List D)} (h1 : vw μ d = .lst (ess.map D.lst)) (h0 : vw μ d0 = .lst es0) (hne : 0 < ess.length) (hz : (es0 ++ ess.flatten).length ≤ sizeLine) (k : Nl P (es0 ++ ess.flatten) μ) (hc : S.X.calm = true := by rfl) : Cl S (.builtin "sum") [d, d0] env μ P := by
  intro pins s σ H xs us Q F as I rx a r kk
  obtain ⟨x, y, rfl, r1, r2⟩ := dvs2 r
  obtain ⟨p, vs, rfl, hp, dv⟩ := a.w.lst r1 h1
  obtain ⟨q, ws0, rfl, hq, dv0⟩ := a.w.lst r2 h0
  obtain ⟨u1, u2, rfl, e1, e2⟩ := vals2 rx
  cases e1
  cases e2
  obtain ⟨_, its, n, rv, _, hl⟩ := I.lstM hp
  obtain ⟨_, it0, n0, rv0, _, e0⟩ := I.lstM hq
  obtain ⟨itss, wss, l1, l2, l3, l4⟩ := lists_of I a.w dv rv
  have len1 : its.length = ess.length := by rw [← rv.length, dv.length, List.length_map]
  have len2 : (it0 ++ itss.flatten).length = (es0 ++ ess.flatten).length := by rw [← (rv0.append l3).length, (dv0.append l4).length]
  refine call_sumL (I.ok.hd hc) (IsL.isList hl) e0 l1 (by omega) l2 (by rw [len2]; exact hz) fun h' tk T m hk hT hL => ?_
  refine ⟨.ref T, upd H T (.lst (ws0 ++ wss)), I.laid (t' := tk) hk hT ⟨by rw [(dv0.append l4).length]; exact hz, _, m, rv0.append l3, hL⟩, rfl, kk.new a.w (I.hok.fresh hT) k (dv0.append l4)⟩
end
end Me

/-! Me37: l.index(x). -/
namespace Me
open PySem PySem.Spec PyProof.Rows L2
section
variable {S : Sc} {env : En} {μ : Mu} {o e : Expr} {apos cpos : Pos} {P : KD} {d x : D} {ds : List D}
theorem m_index {e1 z : D} {j : Nat} (h : vw μ d = .lst ds) (h1 : vw μ x = e1) (hk : EqOk e1 (.lst ds)) (hz : ds[j]? = some z) (he : eqv z e1 = true) (hno : ∀ (m : Nat) (z' : D), m < j → ds[m]? = some z' → eqv z' e1 = false) (k : P (.int (j : Nat)) μ) : Mt S "list.index" d [x] μ P :=
  ⟨_, mt_indexD (by have := S.hu; omega), fun F H as v xs Q W r rs kq => by
    obtain ⟨y, rfl, ry⟩ := dvs1 rs
    obtain ⟨a, vs, rfl, ha, dv⟩ := W.lst r h
    have dl : Dp S.X.K H (V.ref a) (D.lst ds).py := W.dp _ r h hk.2.1 (lay_of hk.2.2.2)
    refine ⟨a, y, e1.py, D.pys ds, j, z.py, rfl, rfl, dl, W.dp _ ry h1 hk.1 (lay_of hk.2.2.1), hk.2.2.2, hk.2.2.1, by rw [pys_map, List.getElem?_map, hz]; rfl, he, fun m z' hm hz' => ?_, kq.now W k (.int _)⟩
    rw [pys_map, List.getElem?_map] at hz'
    obtain ⟨d', hd', rfl⟩ := Option.map_eq_some_iff.mp hz'
    exact hno m d' hm hd'⟩
theorem e_index (h : E S o env μ fun d μ1 => (∃ ds, vw μ1 d = .lst ds) ∧ E S e env μ1 fun x μ2 => ∃ ds e1 z j, vw μ2 d = .lst ds ∧ vw μ2 x = e1 ∧ EqOk e1 (.lst ds) ∧ ds[j]? = some z ∧ eqv z e1 = true ∧ (∀ (m : Nat) (z' : D), m < j → ds[m]? = some z' → eqv z' e1 = false) ∧ P (.int (j : Nat)) μ2)
    (hbase : attributeBase o "index" S.X.env (eval o S.X.env) = eval o S.X.env := by rfl) (hline : (apos.endLine == cpos.line) = true := by rfl) (hs : starEach [e] S.X.env = (false, eval e S.X.env) :: starEach [] S.X.env := by rfl) :
    E S (.Call (.Attribute o "index" apos) [e] [] cpos) env μ P := by
  refine e_bm PySem.F.plainAttrs_list PySem.F.slot_list_index PySem.F.type_list_index (h.imp fun d μ1 ⟨⟨ds, h1⟩, h2⟩ => ⟨ty_lst h1, ?_⟩) hbase (by rw [hs]; rfl) hline hs (by rfl)
  exact a_cons (h2.imp fun x μ2 ⟨ds, e1, z, j, a1, a2, a3, a4, a5, a6, a7⟩ => a_nil (m_index a1 a2 a3 a4 a5 a6 a7)) hs
end
end Me

/-! Me38: xs[::-1]; a list or else; C(e) with defaults. -/
namespace Me
open PySem PySem.Spec PyProof.Rows L2
section
variable {S : Sc} {env : En} {μ : Mu} {a b e : Expr} {es : List Expr} {pos p0 p1 p2 p3 : Pos} {P : KD} {kk : Nat}
theorem e_revL (h : E S e env μ fun d μ1 => ∃ ds, vw μ1 d = .lst ds ∧ Nl P ds.reverse μ1) : E S (.Subscript e (.Slice none none (some (.UnaryOp .USub (.Constant (.int 1) kk p1) p2)) p3) pos) env μ P :=
  PE.imp (pe_revL h) fun σ H Q ⟨F, as, a, k⟩ => ⟨F, as, a, fun d μ1 v F1 H1 as1 ⟨ds, hv, p⟩ g1 W1 r1 => by
    obtain ⟨a', vs, rfl, h1, dv⟩ := W1.lst r1 hv
    exact ⟨a', vs, rfl, .inl (.inl h1), fun q n => (Kv.go k g1).new W1 n p dv.reverse⟩⟩
theorem e_orL (h : E S a env μ fun d μ1 => ∃ ds, vw μ1 d = .lst ds ∧ (ds ≠ [] → P d μ1) ∧ (ds = [] → E S (.BoolOp .Or (b :: es) pos) env μ1 P)) : E S (.BoolOp .Or (a :: b :: es) pos) env μ P := by
  refine PE.imp (pe_orT h pe_y) fun σ H Q ⟨F, as, a1, k⟩ => ⟨F, as, a1, fun d μ1 v F1 H1 as1 ⟨ds, hv, pt, pf⟩ g1 W1 r1 => ?_⟩
  obtain ⟨a', vs, rfl, h1, dv⟩ := W1.lst r1 hv
  refine ⟨!vs.isEmpty, .inl ⟨vs, .inl (.inl h1), rfl⟩, ?_⟩
  have hl := dv.length
  cases hq : vs.isEmpty with
  | true =>
    rw [if_neg (by decide)]
    have : ds = [] := by
      rw [List.isEmpty_iff.mp hq] at hl
      exact List.length_eq_zero_iff.mp hl.symm
    exact (pf this).go (a1.go g1 W1) fun d m v F2 H2 as2 p2 g2 W2 => k d m v F2 H2 as2 p2 (g1.trans g2) W2
  | false =>
    rw [if_pos (by decide)]
    exact k d μ1 _ F1 H1 as1 (pt fun z => by rw [z] at hl; rw [List.length_eq_zero_iff.mp hl] at hq; exact nomatch hq) g1 W1 r1
end
/-- a class whose __init__ takes its last values by default -/
structure MakD (P : Program) (w : World) (K : PySem.W.Frag) (mg : Str → Option Value) (base : Heap) (Γ : Gam) (k : Nat) (c : String) (x : Str) (ds0 : List D) (C : Ct) : Prop where
  ex : ∃ Ca f fd ps, Γ.cls c = some Ca ∧ Mk K Ca f ∧ mg x = some (.ref Ca) ∧ Gd.FnG P w K mg base (L2.CX P w) k f fd ps (spM Γ C) ∧ ∃ us0 vs0, Binds K fd ps us0 ∧ Vals vs0 us0 ∧ ∀ F as, DVs Γ F as vs0 ds0
section
variable {S : Sc} {env : En} {μ : Mu} {e : Expr} {es : List Expr} {pos p0 : Pos} {P : KD} {k : Nat} {c : String} {x : Str} {C : Ct} {ds0 : List D}
theorem run_makeMD {X : Cx} {f Ca : Addr} {fd : FuncData} {ps : List Str} {sp : Sp} {pins : List (Addr × Obj)} {σ : L2.St} {H : Hp} {s : Shared} {Q : VK} {us us0 : List Value} {vs vs0 : List V} (M : Mk X.K Ca f)
    (G : Gd.FnG X.prog X.w X.K X.mg X.base (L2.CX X.prog X.w) k f fd ps sp) (gX : X.A.guards = some []) (hr : Room (k + 1) X.A) (hb : Binds X.K fd ps us0) (I : Inv X pins σ H s) (r : Vals vs us) (r0 : Vals vs0 us0)
    (h : ∀ x dx, H x = none → H dx = none → dx ≠ x → sp (.ref x :: (vs ++ vs0)) (upd (upd H dx (.own x)) x (.ins Ca dx [])) (fun v H2 => v = .non ∧ Q (.ref x) H2) (fun cls d H' => Wk X cls d σ H')) :
    wpAny (model X.prog X.w) X.A (call (.ref Ca) us) (EP X pins σ Q) X.xe s := by
  have hq := h (s.heap.objs.size + 1) s.heap.objs.size (I.hok.fresh (Nat.le_succ _)) (I.hok.fresh (Nat.le_refl _)) (Nat.ne_of_lt (Nat.lt_succ_self _))
  have J := Inv.made (C := Ca) I
  have rr : Vals (V.ref (s.heap.objs.size + 1) :: (vs ++ vs0)) ((Value.ref (s.heap.objs.size + 1) :: us) ++ us0) := .cons rfl (r.append r0)
  have hl : ((Value.ref (s.heap.objs.size + 1) :: us) ++ us0).length = ps.length := rr.length.symm.trans (G.lenG _ _ _ _ hq)
  have bd := hb _ (Value.ref (s.heap.objs.size + 1) :: us) J.kIn hl
  refine wpAny_call (make_map (f := f) I.kIn M.makes M.init (beq_iff_eq.mp M.fn) (codeAny_mono (G.runG _ X.stack _ _ ⟨Value.ref (s.heap.objs.size + 1) :: us, []⟩ _ _ _ _ gX (hr.make Ca us []) (J.env0.make Ca us []) bd rr hq) fun res s' hq' => ?_))
  match res, hq' with
  | .error e, hq' => exact takes_wk _ _ (XE.of_call (W := Wk X) J (fun _ _ _ z => z) hq')
  | .ok (.ret u), hq' =>
    obtain ⟨v, H', J3, rv, ev, q3⟩ := J.after hq'
    subst ev
    exact ⟨rv, ⟨V.ref (s.heap.objs.size + 1), H', J3, rfl, q3⟩⟩
  | .ok .next, hq' => exact False.elim hq'
  | .ok .brk, hq' => exact False.elim hq'
  | .ok .cont, hq' => exact False.elim hq'
theorem e_makeD (M : MakD S.X.prog S.X.w S.X.K S.X.mg S.X.base S.Γ k c x ds0 C)
    (h : A S (e :: es) env μ fun ds μ1 => C (.cell μ1.length :: (ds ++ ds0)) (μ1 ++ [.ins c []]) (fun d m => d = .non ∧ P (.cell μ1.length) m) (fun x m => S.Z x env m)) (hkj : k + 1 ≤ S.k := by first | decide | assumption | omega) (hc : S.X.calm = true := by rfl)
    (hg : Gl S.X x := by rfl) (hdb : (x == ("__debug__" : Str)) = false := by decide)
    (he : starEach (e :: es) S.X.env = (false, eval e S.X.env) :: starEach es S.X.env := by rfl) (hpl : (backTo pos (starEach es S.X.env)).any (·.1) = false := by rfl) : E S (.Call (.Name x p0) (e :: es) [] pos) env μ P := by
  obtain ⟨Ca, f, fd, ps, hcl, M1, hm, F1, us0, vs0, hb, hv0, hd0⟩ := M.ex
  refine ⟨fun pins s σ H Q I ⟨F0, as, a, k0⟩ => wpAny_Call_Name_kw (ld_glob I hg hm ?_ hdb)⟩
  refine PySem.W.callWith_K (h₀ := S.X.base) I.ok.mod.kin M1.kp (thn (h.run pos pins s σ H (fun vs H1 => ∀ x dx, H1 x = none → H1 dx = none → dx ≠ x → spM S.Γ C (.ref x :: (vs ++ vs0)) (upd (upd H1 dx (.own x)) x (.ins Ca dx [])) (fun v H2 => v = .non ∧ Q (.ref x) H2) (fun cls d H' => Wk S.X cls d σ H')) I ⟨F0, as, a, ?_⟩) ?_) he hpl
  · intro ds μ1 vs F1 H1 as1 p1 g1 W1 r1 y dx ny nd ne
    obtain ⟨W2, g2⟩ := W1.born hcl ny nd ne
    have hat : DV S.Γ F1 (as1 ++ [⟨y, none⟩]) (.ref y) (.cell μ1.length) := .cell (ad := ⟨y, none⟩) (W1.last _)
    refine ⟨F1, _, _, _, _, _, p1, .cons hat ((r1.mono g2).append (hd0 _ _)), W2, ?_, ?_⟩
    · intro d m v F3 H3 as3 ⟨e1, p3⟩ g3 W3 r3
      subst e1
      cases r3
      exact ⟨rfl, k0 _ m _ F3 H3 as3 p3 ((g1.trans g2).trans g3) W3 (hat.mono g3)⟩
    · exact fun x μ' cls dx F' H' as' z g W' xo => a.k x env μ' σ cls dx F' H' as' z ((g1.trans g2).trans g) (a.e.mono ((g1.trans g2).trans g)) W' xo
  · intro us s1 ⟨vs, H1, I1, r1, q1⟩
    exact ⟨I1.kIn, run_makeMD M1 F1 S.hg ⟨I1.ok.hd hc, (S.rm.mono hkj).dp, (S.rm.mono hkj).un⟩ hb I1 r1 hv0 q1⟩
end
end Me

/-! Me39: sorted(xs, key=f), f a def of the program. -/
namespace Me
open PySem PySem.Spec PyProof.Rows L2 PySem.W
theorem vals_at {vs : List V} {us : List Value} {i : Nat} {u : Value} (r : Vals vs us) (e : us[i]? = some u) : ∃ v, vs[i]? = some v ∧ RelV v u := by
  have hi : i < us.length := (List.getElem?_eq_some_iff.mp e).1
  have hv : i < vs.length := by rw [r.length]; exact hi
  obtain ⟨u', h1, h2⟩ := r.get (List.getElem?_eq_getElem hv)
  rw [e] at h1
  obtain rfl := Option.some.inj h1
  exact ⟨_, List.getElem?_eq_getElem hv, h2⟩
section
variable {X : Cx} {pins : List (Addr × Obj)} {s : Shared} {σ : L2.St} {H : Hp}
/-- an untracked object of ours becomes tracked, another one of ours may have changed -/
theorem inv_took {a c : Addr} {o : HO} {h' : Heap} {t' : Nat} (I : Inv X pins σ H s) (k : ∀ b u, b ≠ a → b ≠ c → s.heap.get? b = some u → h'.get? b = some u) (fa : FpOk X pins H a) (fc : FpOk X pins H c) (ta : ∃ u, h'.get? a = some u) (new : ObjOk X.prog X.w (upd H a o) h' a o) :
    Inv X pins σ (upd H a o) { s with heap := h', toks := t' } := by
  obtain ⟨na, la, ffa, xa, ca, pa⟩ := fa
  obtain ⟨nc, lc, ffc, xc, cc, pc⟩ := fc
  have un : ∀ b u, H b = some u → b ≠ a := fun b u e z => by rw [z, na] at e; cases e
  have uc : ∀ b u, H b = some u → b ≠ c := fun b u e z => by rw [z, nc] at e; cases e
  refine I.step (g' := s.gens) (d' := s.drawn) (ch := [a, c]) (fun b hb => ?_) (fun b o _ _ hc e _ => k b o (fun z => hc (by simp [z])) (fun z => hc (by simp [z])) e) (fun b o _ _ hc e _ => ⟨o.slots, k b o (fun z => hc (by simp [z])) (fun z => hc (by simp [z])) e⟩)
    (fun b _ hc _ n => by rw [upd_ne (fun z => hc (by simp [z]))]; exact n)
    (fun b o hc e => ⟨o, k b o (fun z => hc (by simp [z])) (fun z => hc (by simp [z])) e⟩) (fun b xs e => by rw [upd_ne (un b _ e)]; exact e) (fun b _ _ e => by rw [upd_ne (un b _ e)]; exact e) (fun b ps e => ⟨#[], by rw [upd_ne (un b _ e), e]; simp⟩) (fun m hm => ?_) (fun b u e => ?_) I.bare
  · rcases List.mem_cons.mp hb with rfl | hb
    · exact ⟨xa, la, ca, pa⟩
    · obtain rfl : b = c := by simpa using hb
      exact ⟨xc, lc, cc, pc⟩
  · obtain ⟨o, es, ep, ho, r⟩ := hm
    exact ⟨o, es, ep, k _ o (Ne.symm la) (Ne.symm lc) ho, r⟩
  · by_cases hb : b = a
    · subst hb; rw [upd_same] at e; cases e; exact new
    · rw [upd_ne hb] at e
      refine (I.hok b u e).stay (fun c' v hc q => ?_) (fun c' q => by rw [upd_ne (un c' _ q)]; exact q) fun c' xs q => by rw [upd_ne (un c' _ q)]; exact q
      rcases hc with z | z
      · subst z; exact k _ v hb (uc _ u e) q
      · exact k c' v (un c' _ z) (uc c' _ z) q
/-- the keys of the items, one by one: J i ks H' -/
theorem sortKey_run {l : Addr} {vs : List V} {f : Addr} {bs : List D} {us : List Value} {kd : D → PyData} {R : Value → D → Prop} {Q : VK} {J : Nat → List V → Hp → Prop} (I : Inv X pins σ H s) (rv : Vals vs us) (hl : s.heap.IsList l us.toArray) (e : EachIs R us bs)
    (hal : AllAlike (bs.map kd)) (hk : Sortable (bs.map kd)) (hL : bs.length ≤ sizeLine) (hu : ∀ x, x ∈ bs → X.A.units + 2 + (kd x).depth < cLine) (j0 : J 0 [] H)
    (turn : ∀ (i : Nat) (v : V) (u : Value) (ks : List V) (H' : Hp) (pins' : List (Addr × Obj)) (s' : Shared), vs[i]? = some v → RelV v u → J i ks H' → Inv X pins' σ H' s' →
      wpAny (model X.prog X.w) X.A.in1.in1 (call (.ref f) [u]) (EP X pins' σ fun k H'' => J (i + 1) (ks ++ [k]) H'') (fun _ _ => False) s')
    (rd : ∀ (ks : List V) (ku : List Value) (H' : Hp) (s' : Shared), J bs.length ks H' → Vals ks ku → Inv X pins σ H' s' → ∃ as, ReadsAll s'.heap ku (bs.map kd) as)
    (fin : ∀ (ks : List V) (H' : Hp) (out : List Value) (p : Addr), J bs.length ks H' → out.length = bs.length → EachIs R out (bs.mergeSort (dataLe false kd)) → H' p = none → ∃ ws, Vals ws out ∧ Q (.ref p) (upd H' p (.lst ws))) :
    wpAny (model X.prog X.w) X.A (call (.builtin "sorted") [.ref l] [(Str.ofString "key", .ref f)]) (EP X pins σ Q) X.xe s := by
  have el : us.length = bs.length := e.length
  refine sorted_of_sort hl (by rw [el]; exact hL) (ksk_s1 _ _) (fun _ => ksk_l1 _ _) fun E' => ?_
  rw [ksk_t1]
  generalize ea : s.heap.objs.size + 1 = a
  have ho : (copyHeap s.heap us).get? a = some (seqObj "list" us.toArray 0) := by rw [← ea]; exact copyHeap_at s.heap us
  have oldc : ∀ b o, s.heap.get? b = some o → b ≠ a ∧ (copyHeap s.heap us).get? b = some o := fun b o q => ⟨by rw [← ea]; exact Nat.ne_of_lt (Nat.lt_succ_of_lt (Heap.lt_size q)), copyHeap_old q⟩
  have ha : a < (copyHeap s.heap us).objs.size := Heap.lt_size ho
  obtain ⟨e1, ho1⟩ : ∃ e1, ((copyHeap s.heap us).update a (Obj.mapSeq fun _ => (#[] : Array Value))).get? a = some (seqObj "list" #[] e1) := ⟨_, get?_update_seq ho fun _ => #[]⟩
  have hkS : (((copyHeap s.heap us).update a (Obj.mapSeq fun _ => (#[] : Array Value))).push (seqObj "tuple" us.toArray 0)).objs.size = (copyHeap s.heap us).objs.size + 1 := by rw [size_push', Heap.size_update]
  unfold ksk_tree
  refine wpAny_bind (listItems_at ho rfl ?_)
  refine wpAny_bind (listUpdate_at ho rfl ?_ (by rw [List.size_toArray, el]; exact hL) (Nat.zero_le _))
  refine wpAny_bind (seqEpoch_at ho1 rfl ?_)
  refine wpAny_bind (wpAny_newTuple ?_ (by show us.length ≤ _; rw [el]; exact hL))
  refine wpAny_bind (wpAny_newList ?_ (Nat.zero_le _))
  refine wpAny_holding ?_
  generalize ekS : (((copyHeap s.heap us).update a (Obj.mapSeq fun _ => (#[] : Array Value))).push (seqObj "tuple" us.toArray 0)).objs.size = kS
  have hka : kS ≠ a := by rw [← ekS, hkS]; exact Nat.ne_of_gt (Nat.lt_succ_of_lt ha)
  have hsk : s.heap.objs.size ≤ kS := by
    have : a < kS := by rw [← ekS, hkS]; exact Nat.lt_succ_of_lt ha
    omega
  have fa : ∀ {H' : Hp}, H' a = none → FpOk X pins H' a := fun {H'} h => I.fpOk (by omega) h
  have fk : ∀ {H' : Hp}, H' kS = none → FpOk X pins H' kS := fun {H'} h => I.fpOk hsk h
  generalize eh : (((copyHeap s.heap us).update a (Obj.mapSeq fun _ => (#[] : Array Value))).push (seqObj "tuple" us.toArray 0)).push (seqObj "list" #[] 0) = h1
  have keep1 : ∀ b o, s.heap.get? b = some o → h1.get? b = some o := fun b o q => by
    rw [← eh]
    exact Heap.get?_push_of_some _ (Heap.get?_push_of_some _ ((Heap.get?_update_ne _ _ _ _ (oldc b o q).1).trans (oldc b o q).2))
  have nk0 : h1.get? kS = some (seqObj "list" #[] 0) := by rw [← eh, ← ekS]; exact Heap.get?_push_size _ rfl
  have na0 : h1.get? a = some (seqObj "list" #[] e1) := by rw [← eh]; exact Heap.get?_push_of_some _ (Heap.get?_push_of_some _ ho1)
  have I1 : Inv X pins σ H { s with heap := h1 } := I.kept (t' := s.toks) keep1
  unfold ksk_rest
  refine wpAny_bind (wpAny_rule ?_)
  first
    | rw [List.forIn_toArray]
    | (rw [← Array.forIn_toList]; simp only [List.toList_toArray])
    | rw [← Array.forIn_toList]
  refine wpAny_bind (ksk_fold (fun i s' => ∃ H' ks kA e, Inv X pins σ H' s' ∧ s'.heap.get? kS = some (seqObj "list" kA e) ∧ s'.heap.get? a = some (seqObj "list" #[] e1) ∧ Vals ks kA.toList ∧ J i ks H' ∧ kA.size = i ∧ i ≤ us.length ∧ H' a = none ∧ H' kS = none) us 0 _
    ⟨H, [], #[], 0, I1, nk0, na0, .nil, j0, rfl, Nat.zero_le _, I.hok.fresh (by omega), I.hok.fresh hsk⟩ ?step ?done)
  case step =>
    rintro j x s' hx ⟨H', ks, kA, ep, I', nk', na', rk, jj, hsz, hle, na, nk⟩
    simp only [Nat.zero_add] at jj hsz hle ⊢
    have hj : j < us.length := (List.getElem?_eq_some_iff.mp hx).1
    obtain ⟨v, hv, rvx⟩ : ∃ v, vs[j]? = some v ∧ RelV v x := vals_at rv hx
    have Ip := I'.pinned (fp := [a, kS]) (fun b hb => by
      rcases List.mem_cons.mp hb with rfl | hb
      · exact fa na
      · obtain rfl : b = kS := by simpa using hb
        exact fk nk) (fun b hb => by
      rcases List.mem_cons.mp hb with rfl | hb
      · exact ⟨_, na', fun v => by simp [seqObj]⟩
      · obtain rfl : b = kS := by simpa using hb
        exact ⟨_, nk', fun v => by simp [seqObj]⟩)
    refine wpAny_bind (wpAny_attempt (wpAny_mono (turn j v x ks H' _ s' hv rvx jj Ip) (fun u s'' he => ?_) fun _ _ hF => hF.elim))
    obtain ⟨k, H2, I2, ru, j2⟩ := he
    have pa := I2.pin (a, _) (List.mem_append_right _ (List.mem_append_right _ (mem_pinsAt (by simp) na')))
    have pk := I2.pin (kS, _) (List.mem_append_right _ (List.mem_append_right _ (mem_pinsAt (by simp) nk')))
    have I3 := I2.unpinned
    try dsimp only
    have s1 := Heap.SameBut.update s''.heap kS (Obj.mapSeq (·.push u))
    obtain ⟨c2, hc2⟩ : ∃ c2, (s''.heap.update kS (Obj.mapSeq (·.push u))).get? kS = some (seqObj "list" (kA.push u) c2) := ⟨_, get?_update_seq pk.1 (·.push u)⟩
    have ea2 : (kA.push u).toList = kA.toList ++ [u] := by simp
    refine wpAny_bind (listUpdate_at pk.1 rfl ?_ (by rw [hsz]; omega) (by rw [Array.size_push, hsz]; omega))
    obtain ⟨k1, k2, k3, k4, k5, k6⟩ := fk (H' := H2) pk.2.1
    refine wpAny_pure ⟨rfl, H2, ks ++ [k], kA.push u, c2, I3.turned (it := kS) (t' := s''.toks) (fun b o hb q => (s1.2 b hb).trans q) k1 k2 k4 k5 k6, hc2, (s1.2 a hka.symm).trans pa.1, ?_, j2, by rw [Array.size_push, hsz], by omega, pa.2.1, pk.2.1⟩
    rw [ea2]
    exact rk.append (.cons ru .nil)
  case done =>
    rintro s' ⟨H', ks, kA, ep, I', nk', na', rk, jj, hsz, hle, na, nk⟩
    simp only [Nat.zero_add] at jj hsz
    rw [el] at jj
    try dsimp only
    obtain ⟨as, ra⟩ := rd ks kA.toList H' s' jj rk I'
    have hk' : EachIs (fun v k => ∃ as, Reads s'.heap v k as) kA.toList (bs.map kd) := each_map (R := fun v d => ∃ as, Reads s'.heap v d as) kd (readsAll_each kd ra)
    refine wpAny_bind (listItems_at nk' rfl ?_)
    obtain ⟨G, g1, g2⟩ := restrict s'.heap fun b => decide (b ≠ a) && decide (b ≠ kS)
    have gk : G.get? kS = none := g2 kS (by simp)
    have kp : KeepsBut a G s'.heap := fun b o hb q => by
      by_cases z : b = kS
      · subst z; rw [gk] at q; exact nomatch q
      · rw [← g1 b (by simp [hb, z])]; exact q
    refine keyH_end (κ := dataKind s'.heap (bs.map kd)) (h₁ := G) kp gk nk' na' hka (SortsAt.data hk' hal hk (bound_map (A := X.A.in1.in1) hu)) hsz (by rw [el]; exact hL) fun h3 tk3 c k3 n3 => ?_
    have ko : KeyedOut false (bs.map kd) us (sortVals (dataKind s'.heap (bs.map kd)) false kA.toList us) := ⟨s'.heap, kA.toList, hal, rfl, hk'⟩
    have lo := (ko.length (by rw [List.length_map]; exact e.length.symm)).trans e.length
    obtain ⟨ws, rw', q⟩ := fin ks H' _ a jj lo (keyedOut_each kd ko e) na
    refine ⟨rfl, .ref a, upd H' a (.lst ws), inv_took I' (fun b u hb hc q => k3 b u hb ((g1 b (by simp [hb, hc])).trans q)) (fa na) (fk nk) ⟨_, n3⟩ ⟨?_, _, c, rw', n3⟩, rfl, q⟩
    rw [rw'.length, lo]
    exact hL
end
/-- what can be sorted by a key -/
structure KeyOk (ds : List D) (key : D → D) : Prop where
  py : D.isPys (ds.map key) = true
  nd : PyData.hasDictAll (D.pys (ds.map key)) = false
  al : AllAlike (ds.map fun d => (key d).py)
  so : Sortable (ds.map fun d => (key d).py)
  sz : ds.length ≤ sizeLine
  dp : ∀ d ∈ ds, (key d).py.depth ≤ 60
abbrev srtK (key : D → D) (ds : List D) : List D := ds.mergeSort (dataLe false fun d => (key d).py)
section
variable {S : Sc} {env : En} {μ : Mu} {e : Expr} {pos p0 p1 kpos : Pos} {x : Str} {k : Nat} {C : Ct} {P : KD} {key : D → D}
theorem e_sortedK (F : Fn S.X.prog S.X.w S.X.K S.X.mg S.X.base S.Γ k x C)
    (h : E S e env μ fun d μ1 => ∃ ds, vw μ1 d = .lst ds ∧ KeyOk ds key ∧ (∀ d ∈ ds, C [d] μ1 (fun r m => r = key d ∧ m = μ1) (fun _ _ => False)) ∧ Nl P (srtK key ds) μ1) (hm : S.X.mg "sorted" = none)
    (hkj : k + 2 ≤ S.k := by first | decide | assumption | omega) (hc : S.X.calm = true := by rfl) (hg : Gl S.X "sorted" := by rfl) (hgx : Gl S.X x := by rfl) (hdb : (x == ("__debug__" : Str)) = false := by decide)
    (hs : starEach [e] S.X.env = (false, eval e S.X.env) :: starEach [] S.X.env := by rfl) (he : backTo pos (starEach [e] S.X.env) = (false, eval e S.X.env) :: backTo pos (starEach [] S.X.env) := by rfl) (hpl : (backTo pos (starEach [e] S.X.env)).any (·.1) = false := by rfl) :
    E S (.Call (.Name "sorted" p0) [e] [⟨some "key", .Name x p1, kpos⟩] pos) env μ P := by
  obtain ⟨f, fd, ps, F1, hmx, hk, hb⟩ := F.ex
  refine ⟨fun pins s σ H Q I ⟨F0, as, a, k0⟩ => wpAny_Call_Name_kw (ld_blt I hg hm rfl ?_)⟩
  refine PyProof.Rows.callWith_kw (thn (PA.run (show A S [e] env μ (fun zs μ1 => ∃ d ds, zs = [d] ∧ vw μ1 d = .lst ds ∧ KeyOk ds key ∧ (∀ d ∈ ds, C [d] μ1 (fun r m => r = key d ∧ m = μ1) (fun _ _ => False)) ∧ Nl P (srtK key ds) μ1) from a_cons (h.imp fun d μ1 ⟨ds, p⟩ => a_nil ⟨d, ds, rfl, p⟩) hs) pos pins s σ H
    (fun vs H1 => ∃ v d μ1 F1 as1 ds, vs = [v] ∧ (vw μ1 d = .lst ds ∧ KeyOk ds key ∧ (∀ d ∈ ds, C [d] μ1 (fun r m => r = key d ∧ m = μ1) (fun _ _ => False)) ∧ Nl P (srtK key ds) μ1) ∧ Go F0 H as F1 H1 as1 ∧ Wd S.Γ F1 H1 as1 μ1 ∧ DV S.Γ F1 as1 v d) I ⟨F0, as, a, ?_⟩) ?_) he hpl rfl rfl
  · rintro zs μ1 vs F1 H1 as1 ⟨d, ds, rfl, p⟩ g W r
    obtain ⟨v, rfl, rr⟩ := dvs1 r
    exact ⟨v, d, μ1, F1, as1, ds, rfl, p, g, W, rr⟩
  · rintro us s1 ⟨vs, H1, I1, r1, v, d, μ1, Fa, as1, ds, rfl, ⟨hv, ok, hC, nl⟩, g1, W1, rr⟩
    obtain ⟨u, rfl, ru⟩ := vals1 r1
    obtain ⟨l, xs, rfl, hp, dv⟩ := W1.lst rr hv
    cases ru
    refine thn ((pk_cons (nm := some "key") (kpos := kpos) (pe_glob (pos := p1) hgx hmx (show RelV (.ref f) (.ref f) from rfl) hdb) pk_nil).run pos pins s1 σ H1 (fun zs H2 => zs = [.ref f] ∧ H2 = H1) I1 ⟨rfl, rfl⟩) ?_
    rintro ws s2 ⟨zs, H2, I2, rz, rfl, e2⟩
    rw [e2] at I2
    replace I1 := I2
    obtain ⟨uf, rfl, ruf⟩ := vals1 rz
    cases ruf
    obtain ⟨its, rv, hl, hz⟩ := I1.list (show SqL S.X.K H1 l xs from .inl (.inl hp))
    have ee := each_vals dv rv
    show wpAny (model S.X.prog S.X.w) S.X.A (call (.builtin "sorted") [.ref l] [(Str.ofString "key", .ref f)]) (EP S.X pins σ Q) S.X.xe s2
    refine sortKey_run (J := fun i ks H' => ∃ F' as', Go Fa H1 as1 F' H' as' ∧ Wd S.Γ F' H' as' μ1 ∧ DVs S.Γ F' as' ks ((ds.take i).map key)) (kd := fun d => (key d).py) I1 rv hl.isList ee ok.al ok.so ok.sz (fun d hd => ?_) ⟨Fa, as1, Go.refl _ _ _, W1, .nil⟩ ?_ ?_ ?_
    · have := ok.dp d hd
      have := S.hu
      omega
    · rintro i v u ks H' pins' s' hx ru ⟨F', as', g, W', dk⟩ I'
      obtain ⟨d, hd, rd⟩ := dv.getV hx
      have sp : spM S.Γ C [v] H' (fun k H'' => ∃ F2 as2, Go Fa H1 as1 F2 H'' as2 ∧ Wd S.Γ F2 H'' as2 μ1 ∧ DVs S.Γ F2 as2 (ks ++ [k]) ((ds.take (i + 1)).map key)) (fun _ _ _ => False) := by
        refine ⟨F', as', [d], μ1, _, _, hC d (List.mem_of_getElem? hd), .cons (rd.mono g) .nil, W', ?_, fun _ _ _ _ _ _ _ z => z.elim⟩
        rintro r m v' F2 H2 as2 ⟨rfl, rfl⟩ g2 W2 r2
        refine ⟨F2, as2, g.trans g2, W2, ?_⟩
        rw [List.take_add_one, hd]
        show DVs S.Γ F2 as2 (ks ++ [v']) ((ds.take i ++ [d]).map key)
        rw [List.map_append]
        exact (dk.mono g2).append (.cons r2 .nil)
      have rr1 : Vals [v] [u] := .cons ru .nil
      have len : ([u] : List Value).length = ps.length := rr1.length ▸ F1.lenG _ _ _ _ sp
      have rm := S.rm.mono hkj
      have hb' := hb s' [u] I'.kIn (by rw [List.append_nil]; exact len)
      have e0 := I'.env0
      refine wpAny_call (codeAny_mono (F1.runG S.X.A.in1.in1 S.X.stack s' H' ⟨[u], []⟩ [u] [v] _ _ S.hg ⟨I'.ok.hd hc, by have := rm.dp; show S.X.A.depth + 3 * k + 5 < _; omega, by have := rm.un; show S.X.A.units + 1 + 1 + 16 * k + 200 < _; omega⟩
        ⟨e0.frames, e0.mod, e0.bs, e0.bsz, e0.funs, e0.frf, e0.hok, e0.bare⟩ hb' rr1 sp) fun res s'' hq => ?_)
      match res, hq with
      | .error e, hq =>
        obtain ⟨_, _, _, _, _, _, _, _, _, _, _, _, z⟩ := hq
        exact z
      | .ok (.ret u), hq => exact I'.after hq
      | .ok .next, hq => exact False.elim hq
      | .ok .brk, hq => exact False.elim hq
      | .ok .cont, hq => exact False.elim hq
    · rintro ks ku H' s' ⟨F', as', g, W', dk⟩ rk I'
      rw [List.take_length] at dk
      obtain ⟨ar, rd⟩ := Dp.readsAll I' _ _ _ (DVs.dpn S.X.K W'.sub dk ok.py ok.nd) rk
      rw [pys_map, List.map_map] at rd
      exact ⟨ar, rd⟩
    · rintro ks H' out p ⟨F', as', g, W', dk⟩ lo eo hn
      obtain ⟨ws, w1, w2⟩ := each_out eo
      exact ⟨ws, w1, ((k0.go g1).go g).new W' hn nl (w2.mono g)⟩
end
end Me

set_option maxHeartbeats 2000000
/-! Me40: the own errors (class N(ListError): __init__(self, f): super().__init__(f); self.f = f), made. -/
namespace Me
namespace Er
open PySem PySem.W PySem.Calls PyProof.Rows PySem.HandSPX
def xA (fld : Str) (p1 p2 : Pos) : Arguments := { posonlyargs := [], args := [{ arg := "self", annotation := none, pos := p1 }, { arg := fld, annotation := none, pos := p2 }], vararg := none, kwonlyargs := [], kw_defaults := [], kwarg := none, defaults := [] }
def xB (fld : Str) (q1 q2 q3 q4 q5 q6 q7 q8 q9 q10 : Pos) : List Stmt :=
  [.Expr (.Call (.Attribute (.Call (.Name "super" q1) [] [] q2) "__init__" q3) [.Name fld q4] [] q5) q6, .Assign [.Attribute (.Name "self" q7) fld q8] (.Name fld q9) q10]
def xS (fld : Str) : Scope := { kind := .function, names := [(PySem.Str.ofString "self", .local), (fld, .local), (PySem.Str.ofString "__class__", .free), (PySem.Str.ofString "super", .globalImplicit)], isGenerator := false, isCoroutine := false, more := [] }
theorem sup_ev {env : Env} {q1 q2 q3 q4 q5 : Pos} {fld : Str} (h : (q3.endLine == q5.line) = true) : ∃ pl : Sem Bool,
    eval (.Call (.Attribute (.Call (.Name "super" q1) [] [] q2) "__init__" q3) [.Name fld q4] [] q5) env = (do
      let ov ← attributeBase (.Call (.Name "super" q1) [] [] q2) "__init__" env (eval (.Call (.Name "super" q1) [] [] q2) env)
      standAt q3.atName
      let (g, first) ← holding [ov] (getMethod ov "__init__" pl)
      callWith q5 g first (backTo q5 (starEach [.Name fld q4] env)) []) := by
  have hm : ∀ o : Expr, methodCallPos true o env q3 q5 = pure q5 := fun o => by
    unfold methodCallPos
    rw [h]
    rfl
  have hc : ∀ ov : Value, methodCall (.Call (.Name "super" q1) [] [] q2) "__init__" q3 q5 env ov 1 (backTo q5 (starEach [.Name fld q4] env)) [] = (do
      let (g, first) ← holding [ov] (getMethod ov "__init__" (do return (← importBound (.Call (.Name "super" q1) [] [] q2) env).getD true))
      callWith q5 g first (backTo q5 (starEach [.Name fld q4] env)) []) := fun ov => by
    show (do
      let (f, first) ← holding [ov] (getMethod ov "__init__" (do return (← importBound (.Call (.Name "super" q1) [] [] q2) env).getD true))
      let callPos ← methodCallPos true (.Call (.Name "super" q1) [] [] q2) env q3 q5
      callWith callPos f first (backTo q5 (starEach [.Name fld q4] env)) []) = _
    rw [hm]
    rfl
  refine ⟨(do return (← importBound (.Call (.Name "super" q1) [] [] q2) env).getD true), ?_⟩
  show (do
    let ov ← attributeBase (.Call (.Name "super" q1) [] [] q2) "__init__" env (eval (.Call (.Name "super" q1) [] [] q2) env)
    standAt q3.atName
    methodCall (.Call (.Name "super" q1) [] [] q2) "__init__" q3 q5 env ov 1 (backTo q5 (starEach [.Name fld q4] env)) []) = _
  simp only [hc]
/-- what is asked of the field's name -/
structure FldOk (fld : Str) : Prop where
  n1 : ¬ fld = "self"
  n2 : (fld == ("__debug__" : Str)) = false
  n3 : ¬ fld = "__class__"
  n4 : ¬ fld = "super"
  bd : ∀ (qual : Str) (p1 p2 : Pos) (bo : List Stmt) (doc pm : Value) (an : Option Addr) (cdv ct : Value) (cc : Addr) (x v : Value), bindArgs (ksFn "__init__" qual (xA fld p1 p2) bo (xS fld) .none .none doc pm an cdv ct cc) ⟨[x, v], []⟩ = pure [(("self" : Str), x), (fld, v)]
  sw : ∀ (qual : Str) (p1 p2 q1 q2 q3 q4 q5 q6 q7 q8 q9 q10 : Pos) (doc pm : Value) (an : Option Addr) (cdv ct : Value) (cc L f : Addr),
    swapsWith (.Name fld q9) (some (.Attribute (.Name "self" q7) fld q8)) q10.line (callEnv (ksFn "__init__" qual (xA fld p1 p2) (xB fld q1 q2 q3 q4 q5 q6 q7 q8 q9 q10) (xS fld) .none .none doc pm an cdv ct cc) L f) = pure false
  sx : ∀ (qual : Str) (p1 p2 q1 q2 q3 q4 q5 q6 q7 q8 q9 q10 : Pos) (doc pm : Value) (an : Option Addr) (cdv ct : Value) (cc L f : Addr),
    swapsWith (.Call (.Attribute (.Call (.Name "super" q1) [] [] q2) "__init__" q3) [.Name fld q4] [] q5) none q6.line (callEnv (ksFn "__init__" qual (xA fld p1 p2) (xB fld q1 q2 q3 q4 q5 q6 q7 q8 q9 q10) (xS fld) .none .none doc pm an cdv ct cc) L f) = pure false
theorem fo_place : FldOk "place" := ⟨by decide, by decide, by decide, by decide, fun _ _ _ _ _ _ _ _ _ _ _ _ => rfl, fun _ _ _ _ _ _ _ _ _ _ _ _ _ _ _ _ _ _ _ _ _ => rfl, fun _ _ _ _ _ _ _ _ _ _ _ _ _ _ _ _ _ _ _ _ _ => rfl⟩
theorem fo_name : FldOk "name" := ⟨by decide, by decide, by decide, by decide, fun _ _ _ _ _ _ _ _ _ _ _ _ => rfl, fun _ _ _ _ _ _ _ _ _ _ _ _ _ _ _ _ _ _ _ _ _ => rfl, fun _ _ _ _ _ _ _ _ _ _ _ _ _ _ _ _ _ _ _ _ _ => rfl⟩
theorem fo_limit : FldOk "limit" := ⟨by decide, by decide, by decide, by decide, fun _ _ _ _ _ _ _ _ _ _ _ _ => rfl, fun _ _ _ _ _ _ _ _ _ _ _ _ _ _ _ _ _ _ _ _ _ => rfl, fun _ _ _ _ _ _ _ _ _ _ _ _ _ _ _ _ _ _ _ _ _ => rfl⟩
theorem fo_entry : FldOk "entry" := ⟨by decide, by decide, by decide, by decide, fun _ _ _ _ _ _ _ _ _ _ _ _ => rfl, fun _ _ _ _ _ _ _ _ _ _ _ _ _ _ _ _ _ _ _ _ _ => rfl, fun _ _ _ _ _ _ _ _ _ _ _ _ _ _ _ _ _ _ _ _ _ => rfl⟩
theorem fo_answer : FldOk "answer" := ⟨by decide, by decide, by decide, by decide, fun _ _ _ _ _ _ _ _ _ _ _ _ => rfl, fun _ _ _ _ _ _ _ _ _ _ _ _ _ _ _ _ _ _ _ _ _ => rfl, fun _ _ _ _ _ _ _ _ _ _ _ _ _ _ _ _ _ _ _ _ _ => rfl⟩
theorem fo_house : FldOk "house" := ⟨by decide, by decide, by decide, by decide, fun _ _ _ _ _ _ _ _ _ _ _ _ => rfl, fun _ _ _ _ _ _ _ _ _ _ _ _ _ _ _ _ _ _ _ _ _ => rfl, fun _ _ _ _ _ _ _ _ _ _ _ _ _ _ _ _ _ _ _ _ _ => rfl⟩
theorem fo_at : FldOk "at" := ⟨by decide, by decide, by decide, by decide, fun _ _ _ _ _ _ _ _ _ _ _ _ => rfl, fun _ _ _ _ _ _ _ _ _ _ _ _ _ _ _ _ _ _ _ _ _ => rfl, fun _ _ _ _ _ _ _ _ _ _ _ _ _ _ _ _ _ _ _ _ _ => rfl⟩
/-- what the written part says of an own error's class, at C, and of its __init__, at fI -/
structure ErrTxt (P : Program) (K : Frag) (mg : Str → Option Value) (nm fld : Str) (C fI : Addr) : Prop where
  gC : mg nm = some (.ref C)
  cls : ∃ nmq q N bs bm sn sub ab col dd k0 k1 k2 k3 k5, K.lookup C = some (excClassObj nmq q C N bs bm true sn sub ab col dd k0 k1 k2 k3 k5 "ValueError.__new__") ∧ refsVE bm = true
  sa : findIn K (.ref C) "__setattr__" = some (some (.builtin "object.__setattr__"))
  ga : findIn K (.ref C) "__getattribute__" = some (some (.builtin "BaseException.__getattribute__"))
  gg : findIn K (.ref C) "__getattr__" = some none
  noN : findIn K (.ref C) fld = some none
  iC : findIn K (.ref C) "__init__" = some (some (.ref fI))
  tC : typeIn K (.ref fI) = some (.type "function")
  kC : keepIn K (.ref C) = true
  exC : subIn K (.ref C) (.type "BaseException") = some true
  tyC : typeIn K (.ref C) = some (.type "type")
  hdC : hasDictIn K C = true
  fn : ∃ (oc : Value) (od : Option Addr) (qual : Str) (doc pm : Value) (an : Option Addr) (cda : Addr) (ct : Value) (cc : Addr) (osl : Array (Option Value)) (p1 p2 q1 q2 q3 q4 q5 q6 q7 q8 q9 q10 : Pos),
    (q3.endLine == q5.line) = true ∧ K.lookup fI = some ⟨oc, od, .func (ksFn "__init__" qual (xA fld p1 p2) (xB fld q1 q2 q3 q4 q5 q6 q7 q8 q9 q10) (xS fld) .none .none doc pm an (.ref cda) ct cc), osl⟩ ∧ codeIn K (.ref cda) qual = true ∧
    (∃ (ccl : Value) (cdd : Option Addr) (vs : Array Value) (ccs : Array (Option Value)) (file : Str) (tf : Tok), K.lookup cda = some ⟨ccl, cdd, .fields vs, ccs⟩ ∧ vs[2]? = some (.str file tf) ∧ ((P.main.file : Str) == file) = true) ∧
    ∃ (cl : Value) (cld : Option Addr) (csl : Array (Option Value)), K.lookup cc = some ⟨cl, cld, .cell (some (.ref C)), csl⟩
  mr : mroIn K C (.ref C) = some true
  su : mg "super" = none
  tp : (P.main.scope.names.lookup ("super" : Str)).isSome = false
  op : nsIn K cStatics "thirdparty.any" = some none
  si : ks_superIn K C C "__init__" = some (some (.builtin "ValueError.__init__"))
  ve : subIn K (.ref C) (.type "ValueError") = some true
  fo : FldOk fld
theorem one_size (v : Value) : [v].length ≤ sizeLine := by
  rw [sizeLine_eq]
  exact (by decide : 1 ≤ 16777216)
/-- what __init__ leaves of a fresh exception at x -/
structure InitEnd (fld : Str) (h h' : Heap) (x C dx : Addr) (v : Value) : Prop where
  keep : ∀ b o, b ≠ x → h.get? b = some o → h'.get? b = some o
  obj : ∃ t1 : Addr, h'.get? x = some { cls := .ref C, dict := some dx, data := .fields #[.ref t1, .none, .none, .none, .bool false, .none] }
  dbig : h.objs.size ≤ dx
  dne : dx ≠ x
  ns : h'.Ns1 dx (fun y => if y = fld then some v else none)
/-- a made error -/
structure OwnMade (fld : Str) (h h' : Heap) (e C d : Addr) (v : Value) : Prop where
  keep : ∀ b o, h.get? b = some o → h'.get? b = some o
  new : h.objs.size ≤ e
  obj : ∃ oe vs, h'.get? e = some oe ∧ oe.cls = .ref C ∧ oe.dict = some d ∧ oe.data = .fields vs ∧ vs[1]? = some .none
  dbig : h.objs.size ≤ d
  dne : d ≠ e
  ns : h'.Ns1 d (fun y => if y = fld then some v else none)
section
variable {prog : Program} {w : World} {M : Model} {A : Around} {E : Value → Shared → Prop} {R : Result → Shared → Prop} {s : Shared} {K : Frag} {mg : Str → Option Value} {nm fld : Str} {C fI : Addr}
theorem callWith_mw {i : String} {u x : Addr} {pos : Pos} {env : Env} {e : Expr} {rest : List Expr} {Q : Value → Shared → Prop}
    (h : wpAny M A (spliced (backTo pos (starEach (e :: rest) env))) (fun vs s₁ => KxsAt i u x s₁.heap ∧ wpAny M A (call (.ref u) vs) Q E s₁) E s)
    (he : starEach (e :: rest) env = (false, eval e env) :: starEach rest env := by rfl) (hplain : (backTo pos (starEach rest env)).any (·.1) = false := by rfl) :
    wpAny M A (callWith pos (.ref u) [] (backTo pos (starEach (e :: rest) env)) []) Q E s := by
  rw [he] at h ⊢
  refine kxs_callWith (i := i) (x := x) (by show (false || (backTo pos (starEach rest env)).any (·.1)) = false; rw [hplain]; rfl) ?_
  exact evalArgs_plain h
theorem call_mw {h : Heap} {g : Array GenState} {d : Drawn} {t : Nat} {os : OsState} {nmq q : Str} {N : Addr} {bs bm : List Value} {hdct : Bool} {sn : List Str} {sub : List Value} {ab : Bool} {col : Option Bool} {dd : Option Addr} {k0 k1 k2 k3 k5 : Option Value} {u e t0 : Addr} {rest : List Value} {Q : Value → Shared → Prop}
    (hC : h.get? C = some (excClassObj nmq q C N bs bm hdct sn sub ab col dd k0 k1 k2 k3 k5 "ValueError.__new__")) (he : h.get? e = some (excO C t0)) (hu : h.get? u = some (kxs_mw "ValueError.__init__" e)) (hrest : rest.length ≤ sizeLine)
    (hq : ∀ h' t1, (∀ b o, b ≠ e → h.get? b = some o → h'.get? b = some o) → h'.get? e = some (excO C t1) → Q .none ⟨h', g, d, t, os⟩) :
    wpAny (model prog w) A (call (.ref u) rest) Q E ⟨h, g, d, t, os⟩ := by
  refine wpAny_call (codeAny_of_tree ?_)
  show wpAny _ A.in1 (callAny (.ref u) ⟨rest, []⟩) _ _ _
  simp only [callAny]
  refine wpAny_bind (wpAny_load hu ?_)
  simp only [kxs_mw, show (Value.type "method-wrapper" == Value.type "method" || Value.type "method-wrapper" == Value.type "builtin_function_or_method" || Value.type "method-wrapper" == Value.type "method-wrapper") = true by decide, if_true]
  refine W.KFB.if_so (by decide) ?_
  refine wpAny_bind (check_bound_init PySem.F.excBase_ValueError.toExcCallFacts hC he rfl ?_)
  refine wpAny_bind (wpAny_pure (wpAny_pure ?_))
  refine ⟨plainId_quiet PySem.F.excBase_ValueError.init.plain _, codeAny_builtin PySem.F.excBase_ValueError.initEntry ?_⟩
  exact exc_init_tree (cls := .ref C) (t0 := t0) (dv := none) (c2 := .none) (c3 := .none) (b4 := .bool false) he hrest fun h' k e' _ => hq h' _ k e'
theorem look_self {fld : Str} : (xS fld).names.lookup ("self" : Str) = some .local := by
  simp [xS, List.lookup]
theorem look_fld {fld : Str} (h : ¬ fld = "self") : (xS fld).names.lookup fld = some .local := by
  have h1 : (fld == PySem.Str.ofString "self") = false := by
    simpa using h
  simp [xS, List.lookup, h1]
theorem look_sup {fld : Str} (h : ¬ fld = "super") : (xS fld).names.lookup ("super" : Str) = some .globalImplicit := by
  have h1 : (PySem.Str.ofString "super" == fld) = false := by
    simp
    exact fun z => h z.symm
  have h2 : (PySem.Str.ofString "super" == PySem.Str.ofString "self") = false := by decide
  have h3 : (PySem.Str.ofString "super" == PySem.Str.ofString "__class__") = false := by decide
  simp [xS, List.lookup, h1, h2, h3]
theorem look_cls {fld : Str} (h : ¬ fld = "__class__") : (xS fld).names.lookup ("__class__" : Str) = some .free := by
  have h1 : (PySem.Str.ofString "__class__" == fld) = false := by
    simp
    exact fun z => h z.symm
  have h2 : (PySem.Str.ofString "__class__" == PySem.Str.ofString "self") = false := by decide
  simp [xS, List.lookup, h1, h2]
theorem err_init (T : ErrTxt prog K mg nm fld C fI) {x t0 : Addr} {v : Value} (X : K.In s.heap) (hg : s.heap.Ns mainGlobals mg) (hb : ∃ mb, s.heap.Ns builtinsNs mb ∧ ∀ y : Str, y ≠ "__name__" → mb y = bootBuiltins y) (hlim : s.heap.NoLimit)
    (hx : s.heap.get? x = some (excO C t0)) (hnx : K.lookup x = none) (hroom : A.depth < recursionLimit)
    (hq : ∀ h' tk dx, InitEnd fld s.heap h' x C dx v → R (.ok (.ret .none)) { s with heap := h', toks := tk }) :
    codeAny (model prog w) A (.call (.ref fI) ⟨[.ref x, v], []⟩) R s := by
  obtain ⟨oc, od, qual, doc, pm, an, cda, ct, cc, osl, p1, p2, q1, q2, q3, q4, q5, q6, q7, q8, q9, q10, hpos, ho, hcd, ⟨ccl, cdd, vs, ccs, file, tf, hcode, hvs, hfile⟩, ⟨cl, cld, csl, hcell⟩⟩ := T.fn
  obtain ⟨nmq, q, N, bs, bm, sn, sub, ab, col, dd, k0, k1, k2, k3, k5, hC, hbm⟩ := T.cls
  have hcl : clsIn K C = some { name := nmq, bases := bs, mro := .ref C :: bm, ns := N, qualname := q, hasDict := true, slotNames := sn, subclasses := sub, abstract := ab, collection := col, hasDel := false } := by unfold clsIn; rw [hC] <;> rfl
  obtain ⟨mb, hb1, hb2⟩ := hb
  have ls := look_self (fld := fld)
  have lf := look_fld T.fo.n1
  refine ks_codeAny_call_defAt (fd := ksFn "__init__" qual (xA fld p1 p2) (xB fld q1 q2 q3 q4 q5 q6 q7 q8 q9 q10) (xS fld) .none .none doc pm an (.ref cda) ct cc) (body := xB fld q1 q2 q3 q4 q5 q6 q7 q8 q9 q10) (binds := [("self", .ref x), (fld, v)])
    hroom (X _ _ ho) rfl hlim (codeRec_of X hcd) rfl (BindsTo.of_eq (T.fo.bd _ _ _ _ _ _ _ _ _ _ _ _)) ?cell ?loc (fun h₁ hns hk₁ => ?_) rfl rfl rfl
  case cell =>
    intro y hy
    simp [xS] at hy
    rcases hy with rfl | rfl | rfl | rfl <;> simp
  case loc =>
    intro y hy
    simp at hy
    rcases hy with rfl | rfl
    · exact ls
    · exact lf
  have X₁ : K.In h₁ := X.keeps hk₁
  have hx₁ := hk₁ _ _ hx
  have hC₁ := X₁ _ _ hC
  have m1 : (fun y => List.lookup y [(("self" : Str), Value.ref x), (fld, v)].reverse) "self" = some (.ref x) := by
    have h1 : (("self" : Str) == fld) = false := by
      have := T.fo.n1
      simp
      exact fun z => this z.symm
    simp [List.lookup, h1]
  have m2 : (fun y => List.lookup y [(("self" : Str), Value.ref x), (fld, v)].reverse) fld = some v := by
    simp [List.lookup]
  obtain ⟨pl, hev⟩ := sup_ev (env := callEnv (ksFn "__init__" qual (xA fld p1 p2) (xB fld q1 q2 q3 q4 q5 q6 q7 q8 q9 q10) (xS fld) .none .none doc pm an (.ref cda) ct cc) s.heap.objs.size fI) (q1 := q1) (q2 := q2) (q4 := q4) (fld := fld) hpos
  refine ks_wpAt_execs_cons (ks_wpAt_Expr_any (ks_wpAt_MethodCall (pl := pl) ?_ hev) rfl (T.fo.sx _ _ _ _ _ _ _ _ _ _ _ _ _ _ _ _ _ _ _ _ _))
  have hCo : ∃ oD, h₁.get? C = some oD ∧ oD.data = .cls { name := nmq, bases := bs, mro := .ref C :: bm, ns := N, qualname := q, hasDict := true, slotNames := sn, subclasses := sub, abstract := ab, collection := col, hasDel := false } := ⟨_, hC₁, rfl⟩
  obtain ⟨oD, hD1, hD2⟩ := hCo
  have hxC : x ≠ C := fun z => by
    rw [z, hC₁] at hx₁
    exact nomatch hx₁
  refine ks_wpAt_super_base (env := callEnv (ksFn "__init__" qual (xA fld p1 p2) (xB fld q1 q2 q3 q4 q5 q6 q7 q8 q9 q10) (xS fld) .none .none doc pm an (.ref cda) ct cc) s.heap.objs.size fI) (look_sup T.fo.n4) (look_cls T.fo.n3) (by decide) rfl (X₁ _ _ ho) rfl rfl rfl (X₁ _ _ hcode) rfl hvs hfile T.tp ?_
  refine ks_loadName_global rfl (look_sup T.fo.n4) (Calls.loadGlobal_builtin (hg.keeps hk₁) T.su (hb1.keeps hk₁) ((hb2 "super" (by decide)).trans (by kernel_rfl)) ⟨rfl, ?_⟩)
  refine wpAny_loadName_free rfl (look_cls T.fo.n3) rfl ⟨_, X₁ _ _ hcell, rfl⟩ ?_
  refine wpAny_loadName_local rfl ls hns m1 ?_
  refine ks_wpAny_isType_cls hD1 hD2 ⟨rfl, ?_⟩
  refine ks_wpAny_call_super hD1 hD2 hx₁ rfl (fun c e => nomatch e) (looks_mroIn X₁ T.mr) (fun h2 e2 k2 => ?_)
  have X2 : K.In h2 := X₁.keeps k2
  have hx2 := k2 _ _ hx₁
  have hI : Looks (model prog w) h2 (isInstance (.ref x) (.type "ValueError")) true := (InstAt.type (od := none) ⟨hx2, rfl, rfl, trivial⟩).andThen (looks_subIn X2 T.ve)
  have si := T.si
  unfold ks_superIn at si
  rw [hcl] at si
  refine kxs_getMethod kxs_ValueError e2 (looks_opaque X2 T.op) (l₀ := .ref C :: bm) (fun A Q E s k q => wpAny_bind ((looks_clsIn X2 hcl) A _ E s k (wpAny_pure q))) rfl X2 si hI hxC (by decide) ?_
  have k3 : ∀ b o, h2.get? b = some o → (h2.push (kxs_mw "ValueError.__init__" x)).get? b = some o := fun b o e => Heap.get?_push_of_some _ e
  have hu : (h2.push (kxs_mw "ValueError.__init__" x)).get? h2.objs.size = some (kxs_mw "ValueError.__init__" x) := Heap.get?_push_at rfl rfl
  have hns3 := (hns.keeps k2).keeps k3
  refine callWith_mw (i := "ValueError.__init__") (x := x) (spliced_more (wpAny_Name (wpAny_loadName_local rfl lf hns3 m2 (spliced_none ?_)) T.fo.n2))
  refine ⟨hu, ?_⟩
  refine call_mw ((X2.keeps k3) _ _ hC) (k3 _ _ hx2) hu (one_size v) (fun h4 t1 k4 hx4 => ?_)
  -- self.fld = fld
  have kall : ∀ b o, b ≠ x → h₁.get? b = some o → h4.get? b = some o := fun b o hb e => k4 b o hb (k3 b o (k2 b o e))
  have X4 : K.In h4 := fun b o e => kall b o (fun z => by rw [z, hnx] at e; cases e) (X₁ b o e)
  have xL : s.heap.objs.size ≠ x := Nat.ne_of_gt (Heap.lt_size hx)
  have hns4 : h4.Ns s.heap.objs.size (fun y => List.lookup y [(("self" : Str), Value.ref x), (fld, v)].reverse) := let ⟨o, es, ep, e, r⟩ := hns3; ⟨o, es, ep, k4 _ o xL e, r⟩
  refine ks_wpAt_execs_cons (ks_wpAt_Assign_Attr (wpAt_of_wpAny (wpAny_Name (wpAny_loadName_local rfl lf hns4 m2 (wpAny_Name (wpAny_loadName_local rfl ls hns4 m1 ?_) (by decide))) T.fo.n2)) (T.fo.sw _ _ _ _ _ _ _ _ _ _ _ _ _ _ _ _ _ _ _ _ _))
  refine set_plain X4 (ox := excO C t1) (od := none) ⟨hx4, rfl, rfl, trivial⟩ T.sa ?_
  refine exc_osa X4 hx4 hcl (show refsVE (.ref C :: bm) = true from hbm) rfl T.noN (fun h₃ tk₃ dx k₃ dn dne hx₃ hn₃ => ?_)
  refine wpAt_of_wpAny (wpAny_execs_nil ?_)
  exact hq h₃ tk₃ dx ⟨fun b o hb e => k₃ b o hb (kall b o hb (hk₁ b o e)), ⟨t1, hx₃⟩, Nat.le_of_lt (Nat.lt_of_lt_of_le hns4.lt dn), dne, hn₃⟩
theorem err_made (T : ErrTxt prog K mg nm fld C fI) {v : Value} (X : K.In s.heap) (hg : s.heap.Ns mainGlobals mg) (hb : ∃ mb, s.heap.Ns builtinsNs mb ∧ ∀ y : Str, y ≠ "__name__" → mb y = bootBuiltins y) (hlim : s.heap.NoLimit) (hroom : A.depth + 1 < recursionLimit)
    (hq : ∀ h' tk e d, OwnMade fld s.heap h' e C d v → R (.ok (.ret (.ref e))) { s with heap := h', toks := tk }) :
    codeAny (model prog w) A (.call (.ref C) ⟨[v], []⟩) R s := by
  obtain ⟨nmq, q, N, bs, bm, sn, sub, ab, col, dd, k0, k1, k2, k3, k5, hC, hbm⟩ := T.cls
  obtain ⟨hp, g, dr, tk, os⟩ := s
  have k : ∀ b o, hp.get? b = some o → ((hp.push (kdv_tup [v])).push (excO C hp.objs.size)).get? b = some o := fun b o e => Heap.get?_push_of_some _ (Heap.get?_push_of_some _ e)
  have hget : ((hp.push (kdv_tup [v])).push (excO C hp.objs.size)).get? (hp.objs.size + 1) = some (excO C hp.objs.size) := by heap_get
  have hnx : K.lookup (hp.objs.size + 1) = none := by
    cases e : K.lookup (hp.objs.size + 1) with
    | none => rfl
    | some o =>
      have z : hp.get? (hp.objs.size + 1) = some o := X _ _ e
      exact absurd (Nat.lt_of_succ_lt (Heap.lt_size z)) (Nat.lt_irrefl _)
  obtain ⟨mb, hb1, hb2⟩ := hb
  refine call_own PySem.F.excBase_ValueError (fun X => refsVE_contains X bm hbm) (X _ _ hC) (looks_findIn X T.iC) (fun self => bind_fn X self T.tC) (one_size v) ?_
  refine err_init (s := ⟨(hp.push (kdv_tup [v])).push (excO C hp.objs.size), g, dr, tk, os⟩) T (X.keeps k) (hg.keeps k) ⟨mb, hb1.keeps k, hb2⟩ (hlim.keeps k) hget hnx ?_ fun h' tk' dx ⟨k', hx, dn, dne, hns⟩ => ?_
  · show A.depth + 1 < recursionLimit
    exact hroom
  · have old : ∀ b o, hp.get? b = some o → h'.get? b = some o := fun b o e => k' b o (Nat.ne_of_lt (Nat.lt_succ_of_lt (Heap.lt_size e))) (k b o e)
    have z : hp.objs.size + 1 + 1 ≤ dx := by
      first
        | (simpa only [Heap.size_push] using dn)
        | exact dn
        | (have q := dn; rw [Heap.size_push, Heap.size_push] at q; exact q)
    obtain ⟨t1, hx⟩ := hx
    exact ⟨rfl, hq h' tk' (hp.objs.size + 1) dx ⟨old, Nat.le_succ _, ⟨_, _, hx, rfl, rfl, rfl, rfl⟩, Nat.le_trans (Nat.le_trans (Nat.le_succ _) (Nat.le_succ _)) z, dne, hns⟩⟩
end
end Er
end Me

set_option maxHeartbeats 2000000
/-! Me41: raise, try. -/
namespace Me
open PySem PySem.Spec PyProof.Rows L2
mutual
def D.ne : D → Bool
  | .lst ds => D.neL ds
  | .tup ds => D.neL ds
  | .dct _ kvs => D.neP kvs
  | .ins _ fs => D.neF fs
  | .err _ _ => false
  | .cell _ => true | .ty _ => true | .cls _ => true | .non => true | .bl _ => true | .int _ => true | .str _ => true
def D.neL : List D → Bool
  | [] => true
  | d :: ds => d.ne && D.neL ds
def D.neP : List (DK × D) → Bool
  | [] => true
  | (_, d) :: ds => d.ne && D.neP ds
def D.neF : List (Str × D) → Bool
  | [] => true
  | (_, d) :: ds => d.ne && D.neF ds
end
def Cell.ne : Cell → Bool
  | .lst ds => D.neL ds
  | .dct _ _ kvs => D.neP kvs
  | .ins _ fs => D.neF fs
  | .dead => true
def NE (μ : Mu) : Prop := ∀ (j : Nat) (c : Cell), μ[j]? = some c → c.ne = true
def NEe (env : En) : Prop := ∀ (j : Nat) (d : D), env[j]? = some (some d) → d.ne = true
section
variable {Γ Γ' : Gam} {F H : Hp} {as : List Ad}
theorem and_tt {a b : Bool} (h1 : a = true) (h2 : b = true) : (a && b) = true := by rw [h1, h2]; rfl
mutual
theorem DV.noErr (h0 : Γ.err = none) {v : V} {d : D} (h : DV Γ F as v d) : d.ne = true := by
  cases h with
  | non => rfl
  | bl b => rfl
  | int i => rfl
  | str x => rfl
  | lst h1 h2 => rw [D.ne]; exact DVs.noErr h0 h2
  | tup h1 h2 => rw [D.ne]; exact DVs.noErr h0 h2
  | dctK h1 h2 => rw [D.ne]; exact DKs.noErr h0 h2
  | dctT h1 h2 => rw [D.ne]; exact DTs.noErr h0 h2
  | ins h1 hc h2 => rw [D.ne]; exact DFs.noErr h0 h2
  | err0 h1 hc => rw [h0] at h1; exact nomatch h1
  | err1 h1 hc h2 h3 => rw [h0] at h1; exact nomatch h1
  | ty n => rfl
  | cls hc => rfl
  | cell h => rfl
theorem DVs.noErr (h0 : Γ.err = none) {vs : List V} {ds : List D} (h : DVs Γ F as vs ds) : D.neL ds = true := by
  cases h with
  | nil => rfl
  | cons h1 h2 => rw [D.neL]; exact and_tt (DV.noErr h0 h1) (DVs.noErr h0 h2)
theorem DKs.noErr (h0 : Γ.err = none) {vs : List (Key × V)} {ds : List (DK × D)} (h : DKs Γ F as vs ds) : D.neP ds = true := by
  cases h with
  | nil => rfl
  | cons h1 h2 => rw [D.neP]; exact and_tt (DV.noErr h0 h1) (DKs.noErr h0 h2)
theorem DTs.noErr (h0 : Γ.err = none) {vs : List (List Key × V)} {ds : List (DK × D)} (h : DTs Γ F as vs ds) : D.neP ds = true := by
  cases h with
  | nil => rfl
  | cons h1 h2 => rw [D.neP]; exact and_tt (DV.noErr h0 h1) (DTs.noErr h0 h2)
theorem DFs.noErr (h0 : Γ.err = none) {vs : List (Str × V)} {ds : List (Str × D)} (h : DFs Γ F as vs ds) : D.neF ds = true := by
  cases h with
  | nil => rfl
  | cons h1 h2 => rw [D.neF]; exact and_tt (DV.noErr h0 h1) (DFs.noErr h0 h2)
end
mutual
theorem DV.chg (hc : Γ'.cls = Γ.cls) {v : V} {d : D} (h : DV Γ F as v d) (n : d.ne = true) : DV Γ' F as v d := by
  cases h with
  | non => exact .non
  | bl b => exact .bl b
  | int i => exact .int i
  | str x => exact .str x
  | lst h1 h2 => rw [D.ne] at n; exact .lst h1 (DVs.chg hc h2 n)
  | tup h1 h2 => rw [D.ne] at n; exact .tup h1 (DVs.chg hc h2 n)
  | dctK h1 h2 => rw [D.ne] at n; exact .dctK h1 (DKs.chg hc h2 n)
  | dctT h1 h2 => rw [D.ne] at n; exact .dctT h1 (DTs.chg hc h2 n)
  | ins h1 hcl h2 => rw [D.ne] at n; exact .ins h1 (by rw [hc]; exact hcl) (DFs.chg hc h2 n)
  | err0 h1 hcl => exact nomatch n
  | err1 h1 hcl h2 h3 => exact nomatch n
  | ty m => exact .ty m
  | cls hcl => exact .cls (by rw [hc]; exact hcl)
  | cell h => exact .cell h
theorem DVs.chg (hc : Γ'.cls = Γ.cls) {vs : List V} {ds : List D} (h : DVs Γ F as vs ds) (n : D.neL ds = true) : DVs Γ' F as vs ds := by
  cases h with
  | nil => exact .nil
  | cons h1 h2 => rw [D.neL] at n; obtain ⟨n1, n2⟩ := Bool.and_eq_true_iff.mp n; exact .cons (DV.chg hc h1 n1) (DVs.chg hc h2 n2)
theorem DKs.chg (hc : Γ'.cls = Γ.cls) {vs : List (Key × V)} {ds : List (DK × D)} (h : DKs Γ F as vs ds) (n : D.neP ds = true) : DKs Γ' F as vs ds := by
  cases h with
  | nil => exact .nil
  | cons h1 h2 => rw [D.neP] at n; obtain ⟨n1, n2⟩ := Bool.and_eq_true_iff.mp n; exact .cons (DV.chg hc h1 n1) (DKs.chg hc h2 n2)
theorem DTs.chg (hc : Γ'.cls = Γ.cls) {vs : List (List Key × V)} {ds : List (DK × D)} (h : DTs Γ F as vs ds) (n : D.neP ds = true) : DTs Γ' F as vs ds := by
  cases h with
  | nil => exact .nil
  | cons h1 h2 => rw [D.neP] at n; obtain ⟨n1, n2⟩ := Bool.and_eq_true_iff.mp n; exact .cons (DV.chg hc h1 n1) (DTs.chg hc h2 n2)
theorem DFs.chg (hc : Γ'.cls = Γ.cls) {vs : List (Str × V)} {ds : List (Str × D)} (h : DFs Γ F as vs ds) (n : D.neF ds = true) : DFs Γ' F as vs ds := by
  cases h with
  | nil => exact .nil
  | cons h1 h2 => rw [D.neF] at n; obtain ⟨n1, n2⟩ := Bool.and_eq_true_iff.mp n; exact .cons (DV.chg hc h1 n1) (DFs.chg hc h2 n2)
end
theorem CellOk.noErr (h0 : Γ.err = none) {ad : Ad} {c : Cell} (k : CellOk Γ F H as ad c) : c.ne = true := by
  match c, k with
  | .dead, _ => rfl
  | .lst ds, ⟨k0, k1, vs, k2, k3⟩ => exact k3.noErr h0
  | .dct false lk kvs, ⟨k1, vs, k2, k3⟩ => exact k3.noErr h0
  | .dct true lk kvs, ⟨k1, vs, k2, k3⟩ => exact k3.noErr h0
  | .ins c fs, ⟨k0, k1, C, dx, vs, kc, k2, k3⟩ => exact k3.noErr h0
theorem CellOk.chg (hc : Γ'.cls = Γ.cls) {ad : Ad} {c : Cell} (k : CellOk Γ F H as ad c) (n : c.ne = true) : CellOk Γ' F H as ad c := by
  match c, k with
  | .dead, _ => trivial
  | .lst ds, ⟨k0, k1, vs, k2, k3⟩ => exact ⟨k0, k1, vs, k2, k3.chg hc n⟩
  | .dct false lk kvs, ⟨k1, vs, k2, k3⟩ => exact ⟨k1, vs, k2, k3.chg hc n⟩
  | .dct true lk kvs, ⟨k1, vs, k2, k3⟩ => exact ⟨k1, vs, k2, k3.chg hc n⟩
  | .ins c fs, ⟨k0, k1, C, dx, vs, kc, k2, k3⟩ => exact ⟨k0, k1, C, dx, vs, by rw [hc]; exact kc, k2, k3.chg hc n⟩
theorem Wd.noErr (h0 : Γ.err = none) {μ : Mu} (W : Wd Γ F H as μ) : NE μ := fun j c h => by
  have hl : j < as.length := by rw [W.len]; exact (List.getElem?_eq_some_iff.mp h).1
  exact (W.ok j as[j] c (List.getElem?_eq_getElem hl) h).noErr h0
theorem Wd.chg (hc : Γ'.cls = Γ.cls) {μ : Mu} (W : Wd Γ F H as μ) (n : NE μ) : Wd Γ' F H as μ :=
  ⟨W.sub, W.nd, W.len, fun j ad c ha h => (W.ok j ad c ha h).chg hc (n j c h), W.seen⟩
theorem EnvOk.noErr (h0 : Γ.err = none) {env : En} {σ : L2.St} (h : EnvOk Γ F as env σ) : NEe env := fun j d e => by
  obtain ⟨v, _, r⟩ := h.2 j d e
  exact r.noErr h0
theorem EnvOk.chg (hc : Γ'.cls = Γ.cls) {env : En} {σ : L2.St} (h : EnvOk Γ F as env σ) (n : NEe env) : EnvOk Γ' F as env σ :=
  ⟨h.1, fun i d e => let ⟨v, h1, h2⟩ := h.2 i d e; ⟨v, h1, h2.chg hc (n i d e)⟩⟩
theorem EnvOk.clr {env : En} {σ : L2.St} (h : EnvOk Γ F as env σ) (i : Nat) : EnvOk Γ F as (env.set i none) (σ.set i none) := by
  refine ⟨by rw [List.length_set, List.length_set, h.1], fun k d e => ?_⟩
  rw [List.getElem?_set] at e ⊢
  by_cases hk : i = k
  · rw [if_pos hk] at e
    split at e <;> exact nomatch e
  · rw [if_neg hk] at e ⊢
    exact h.2 k d e
end

/-! ### raise -/
section
open PySem.W (Frag)
variable {X : Cx} {C fI : Addr} {nm fld : Str}
theorem relO_fld {v : V} {v' : Value} (r : RelV v v') (f : Str) : RelO (List.lookup f [(fld, v)]) (if f = fld then some v' else none) := by
  by_cases hw : f = fld
  · subst hw
    rw [if_pos rfl]
    have q : List.lookup f [(f, v)] = some v := by simp [List.lookup]
    rw [q]
    exact r
  · rw [if_neg hw]
    have qw : (f == fld) = false := by simpa using hw
    have q2 : List.lookup f [(fld, v)] = none := by simp [List.lookup, qw]
    rw [q2]
    trivial
def tMkErr (C : Addr) (fld : Str) (ta : TA) : L2.St → Hp → XK → Prop := fun σ H Q => ta σ H fun vs H1 => ∃ v, vs = [v] ∧ ∀ d, H1 d = none → Q (.ref C) (some d) (upd H1 d (.xd [(fld, v)]))
theorem pmk_err {a : Expr} {ta : TA} {p pos : Pos} {k : Nat} (T : Er.ErrTxt X.prog X.K X.mg nm fld C fI) (hr : L2H.RoomH k X.A) (ha : PA X [a] ta) (hg : Gl X nm)
    (hdb : (nm == ("__debug__" : Str)) = false) (he : starEach (a :: []) X.env = (false, eval a X.env) :: starEach [] X.env) (hpl : (backTo pos (starEach [] X.env)).any (·.1) = false) :
    PMk X (.Call (.Name nm p) [a] [] pos) (tMkErr C fld ta) := by
  intro pins s σ H Q I h
  refine wpAny_Call_Name_kw (ld_glob I hg T.gC ?_ hdb)
  refine PySem.W.callWith_K (h₀ := X.base) I.ok.mod.kin T.kC (thn (ha.run pos pins s σ H _ I h) fun us s1 hh => ?_) he hpl
  obtain ⟨vs, H1, I1, r1, v, ev, q1⟩ := hh
  subst ev
  refine ⟨I1.kIn, ?_⟩
  cases r1 with
  | cons rv rn =>
    rename_i v' us'
    cases rn
    show wpAny _ _ (call (.ref C) [v']) _ _ _
    have hlim := I1.nolimit
    have hgl := I1.mod.glob.keeps I1.bk
    have hbl : ∃ mb, s1.heap.Ns builtinsNs mb ∧ ∀ y : Str, y ≠ "__name__" → mb y = bootBuiltins y := let ⟨mb, h1, h2⟩ := I1.mod.blt; ⟨mb, h1.keeps I1.bk, h2⟩
    obtain ⟨hp, g, dr, tk, os⟩ := s1
    refine wpAny_call (Er.err_made T I1.kIn hgl hbl hlim (by have := hr.dp; omega) fun h' tk' e d M => ?_)
    show MkP X pins σ Q (.ref e) ⟨h', g, dr, tk', os⟩
    obtain ⟨oe, fv, hoe, hc, hd, hdat, h1⟩ := M.obj
    have hns := M.ns
    obtain ⟨G', g1, g2⟩ := restrict h' fun b => decide (b ≠ e)
    have gk : ∀ b, b ≠ e → G'.get? b = h'.get? b := fun b hb => g1 b (decide_eq_true hb)
    have ge : G'.get? e = none := g2 e (by simp)
    have old : ∀ b o, hp.get? b = some o → G'.get? b = some o := fun b o q => (gk b (Nat.ne_of_lt (Nat.lt_of_lt_of_le (Heap.lt_size q) M.new))).trans (M.keep b o q)
    have ob : ObjOk X.prog X.w (upd H1 d (.xd [(fld, v)])) G' d (.xd [(fld, v)]) :=
      ⟨_, hns.at (fun o q => (gk d M.dne).trans q), fun f => relO_fld rv f⟩
    have J : Inv X pins σ (upd H1 d (.xd [(fld, v)])) ⟨G', g, dr, tk', os⟩ := I1.laid (t' := tk') old M.dbig ob
    refine ⟨e, oe, fv, ⟨G', g, dr, tk', os⟩, _, .ref C, some d, rfl, J, fun b o q => ?_, ge, hoe, ⟨hc, hd⟩, hdat, h1, ?_, rfl, I1.bare, raises_own T.exC T.tyC, q1 d (I1.hok.fresh M.dbig)⟩
    · by_cases hb : b = e
      · have q' : G'.get? b = some o := q
        rw [hb, ge] at q'; cases q'
      · exact (gk b hb).symm.trans q
    · rw [upd_ne (Ne.symm M.dne)]
      exact I1.hok.fresh M.new
end
section
variable {S : Sc} {env : En} {μ : Mu} {a : Expr} {rest : List Stmt} {R : Out → Prop} {pos p0 p1 p2 : Pos} {nm fld : Str} {cn : String} {C fI : Addr}
/-- raise N(a) -/
theorem b_raise (T : Er.ErrTxt S.X.prog S.X.K S.X.mg nm fld C fI) (hC : S.Γ.cls cn = some C) (h : A S [a] env μ fun ds μ1 => ∃ d, ds = [d] ∧ S.Z ⟨cn, [(fld, d)]⟩ env μ1) (hc : S.X.calm = true := by rfl) (hg : Gl S.X nm := by rfl)
    (hdb : (nm == ("__debug__" : Str)) = false := by decide) (he : starEach (a :: []) S.X.env = (false, eval a S.X.env) :: starEach [] S.X.env := by rfl) (hpl : (backTo p1 (starEach [] S.X.env)).any (·.1) = false := by rfl) :
    B S (.Raise (some (.Call (.Name nm p0) [a] [] p1)) none p2 :: rest) env μ R := by
  refine b_cons (PS.imp (ps_raise hc takes_wk (pmk_err T S.rm pa_y hg hdb he hpl)) fun D σ H ⟨F, as, a1, k⟩ => ?_)
  refine h.go a1 fun ds μ1 vs F1 H1 as1 ⟨d, ed, z⟩ g1 W1 r1 => ?_
  subst ed
  cases r1 with
  | cons rv rn =>
    rename_i v' us'
    cases rn
    refine ⟨_, rfl, fun dx hdx => ?_⟩
    have hFx : F1 dx = none := by
      cases e : F1 dx with
      | none => rfl
      | some o => rw [W1.sub _ _ e] at hdx; exact nomatch hdx
    obtain ⟨W2, g2⟩ := W1.addF (o := .xd [(fld, v')]) hdx
    exact a1.k _ env μ1 σ _ _ _ _ _ z (g1.trans g2) ((a1.e.mono g1).mono g2) W2 ⟨C, hC, rfl, .inr ⟨dx, _, rfl, upd_same, .cons (DV.mono g2 rv) .nil⟩⟩
end
end Me

set_option maxHeartbeats 2000000
/-! Me42: try .. except N as e; what the suite may ask of e. -/
namespace Me
open PySem PySem.Spec PyProof.Rows L2
/-- with an exception held -/
def Gam.er (Γ : Gam) (e : Addr × Addr × Option Addr) : Gam := ⟨Γ.K, Γ.cls, some e⟩
/-- the body of a try -/
def trS (S : Sc) (pn : List (Addr × Obj)) (xe : Value → Shared → Prop) (hp : PassesOwn (model S.X.prog S.X.w) S.X.A S.X.env xe) (Z : Ex → En → Mu → Prop) : Sc :=
  { Γ := S.Γ, X := S.X.tr pn xe, Z := Z, hK := S.hK, hg := S.hg, hN := S.hN, hp := hp, hb := S.hb, k := S.k, rm := S.rm }
/-- a suite: the exception lies at a, its class is at C, its dict at d -/
def suS (S : Sc) (a : Addr) (oe : Obj) (C : Addr) (d : Option Addr) (pn : List (Addr × Obj)) : Sc :=
  { Γ := S.Γ.er (a, C, d), X := S.X.suite a ((a, oe) :: pn), Z := fun _ _ _ => False, hK := S.hK, hg := S.hg, hN := S.hN, hp := PassesOwn.never, hb := S.hb, k := S.k, rm := ⟨S.rm.dp, S.rm.un⟩ }
/-- what a suite's end must be -/
def SuR (i : Nat) (R : Out → Prop) : Out → Prop
  | .next env μ => NEe (env.set i none) ∧ NE μ ∧ R (.next (env.set i none) μ)
  | .ret d μ => d.ne = true ∧ NE μ ∧ R (.ret d μ)
  | .brk env μ => NEe (env.set i none) ∧ NE μ ∧ R (.brk (env.set i none) μ)
  | .cont env μ => NEe (env.set i none) ∧ NE μ ∧ R (.cont (env.set i none) μ)
/-- an exception that the clause takes, and the suite run with it -/
def Cat (S : Sc) (CE : Addr) (i : Nat) (suite : List Stmt) (R : Out → Prop) : Ex → En → Mu → Prop := fun ex env μ =>
  (∀ C, S.Γ.cls ex.c = some C → PySem.W.exmOne S.X.K (.ref C) (.ref CE) = some true) ∧
  ∀ (a : Addr) (oe : Obj) (C : Addr) (d : Option Addr) (pn : List (Addr × Obj)), S.Γ.cls ex.c = some C → Zc (.ref C) d oe → (∃ vs, oe.data = .fields vs) → NE μ → NEe env → D.neF ex.fs = true →
    B (suS S a oe C d pn) suite (env.set i (some (.err ex.c ex.fs))) μ (SuR i R)
theorem takesF {X : Cx} : Takes X (fun _ _ _ _ => False) := fun _ _ x => by
  obtain ⟨_, _, _, _, _, _, _, _, _, _, _, _, _, _, _, _, z⟩ := x
  exact z.elim
/-- the promise for exceptions, by a wish -/
def KoW (S : Sc) (Z : Ex → En → Mu → Prop) (W : WX) (F H : Hp) (as : List Ad) : Prop := ∀ x env μ σ cls dx F' H' as', Z x env μ → Go F H as F' H' as' → EnvOk S.Γ F' as' env σ → Wd S.Γ F' H' as' μ → XOk S.Γ F' H' as' cls dx x → W cls dx σ H'
def rdW (S : Sc) (Z : Ex → En → Mu → Prop) (env : En) (μ : Mu) (R : Out → Prop) (W : WX) : TS := fun D σ H => ∃ F as, EnvOk S.Γ F as env σ ∧ Wd S.Γ F H as μ ∧ KoW S Z W F H as ∧ Ed S F H as R D
def rdSu (S : Sc) (suite : List Stmt) (R : Out → Prop) (a : Addr) (cls : Value) (d : Option Addr) : TS := fun D σ H => ∃ C env μ F as, cls = .ref C ∧
  (∀ oe pn, Zc cls d oe → (∃ vs, oe.data = .fields vs) → B (suS S a oe C d pn) suite env μ R) ∧ EnvOk (S.Γ.er (a, C, d)) F as env σ ∧ Wd (S.Γ.er (a, C, d)) F H as μ ∧
  Ed (suS S a ⟨.none, none, .fields #[], #[]⟩ C d []) F H as R D
theorem nee_set {env : En} (h : NEe env) (i : Nat) (d : D) : NEe ((env.set i (some d)).set i none) := by
  intro j e hj
  rw [List.set_set, List.getElem?_set] at hj
  split at hj
  · split at hj <;> exact nomatch hj
  · exact h j e hj
section
variable {S : Sc} {env : En} {μ : Mu} {body rest suite : List Stmt} {st0 : Stmt} {R : Out → Prop} {pos p0 p1 : Pos} {x n : Str} {CE : Addr}
/-- try: body / except x as n: suite -/
theorem b_try (i : Nat) (h0 : S.Γ.err = none) (hx : S.X.mg x = some (.ref CE))
    (h : ∀ pn xe hp, B (trS S pn xe hp (Cat S CE i (st0 :: suite) (Thn S rest R))) body env μ (Thn S rest R))
    (hs : S.X.stack = S.X.env :: S.X.outer := by rfl) (hf : S.X.env.frame = some S.X.env.locals := by rfl) (hi : S.X.N[i]? = some n := by rfl) (hln : S.X.env.kindOf n = some .local := by rfl) (hg : Gl S.X x := by rfl)
    (hdb : (x == ("__debug__" : Str)) = false := by decide) :
    B S (.Try body [.ExceptHandler (some (.Name x p0)) (some n) (st0 :: suite) p1] [] [] pos :: rest) env μ R := by
  refine b_cons ?_
  refine PS.imp (ps_try_as (i := i) (tb := rdW S (Cat S CE i (st0 :: suite) (Thn S rest R)) env μ (Thn S rest R)) (ts := rdSu S (st0 :: suite) (SuR i (Thn S rest R))) (Wout := fun _ _ _ _ => False)
    hs hf S.hN hi hln ⟨hg, hdb, .inl hx⟩ takesF (fun W pn xe tk hp => ?_) (fun a oe cls d pn hz hfl => ?_)) fun Dn σ H ⟨F, as, a, k⟩ => ?_
  · refine PSs.imp (h pn xe hp) fun D σ H ⟨F, as, e, w, ko, ed⟩ => ⟨F, as, ⟨e, w, fun x env μ σ cls dx F' H' as' z g e' w' xo => ?_⟩, ed.nx, ed.rt, ed.bk, ed.ct⟩
    exact Wk.of tk (ko x env μ σ cls dx F' H' as' z g e' w' xo)
  · refine ⟨fun pins s σ H D I q => ?_⟩
    obtain ⟨C, env1, μ1, F, as, rfl, hB, e, w, ed⟩ := q
    refine (hB oe pn hz hfl).run pins s σ H D I ⟨F, as, ⟨e, w, fun x env μ σ cls dx F' H' as' z => z.elim⟩, ed.nx, ed.rt, ed.bk, ed.ct⟩
  · refine ⟨F, as, a.e, a.w, fun ex env1 μ1 σ1 cls dx F1 H1 as1 z g1 e1 W1 xo => ?_, k⟩
    obtain ⟨C, hC, rfl, xf⟩ := xo
    obtain ⟨z1, z2⟩ := z
    refine ⟨true, z1 C hC, fun _ ax hax => ?_, fun q => nomatch q⟩
    have ne := W1.noErr h0
    have nee := e1.noErr h0
    have nf : D.neF ex.fs = true := by
      rcases xf with e | ⟨dx', vs, _, _, dfs⟩
      · rw [e]; rfl
      · exact dfs.noErr h0
    have dv : DV (S.Γ.er (ax, C, dx)) F1 as1 (.ref ax) (.err ex.c ex.fs) := by
      rcases xf with e | ⟨dx', vs, rfl, hxd, dfs⟩
      · rw [e]
        exact .err0 rfl hC
      · exact .err1 rfl hC hxd (DFs.chg (Γ := S.Γ) (Γ' := S.Γ.er (ax, C, some dx')) rfl dfs nf)
    refine ⟨C, env1.set i (some (.err ex.c ex.fs)), μ1, F1, as1, rfl, fun oe pn hz hfl => z2 ax oe C dx pn hC hz hfl ne nee nf, (EnvOk.chg (Γ := S.Γ) (Γ' := S.Γ.er (ax, C, dx)) rfl e1 nee).set dv i, Wd.chg (Γ := S.Γ) (Γ' := S.Γ.er (ax, C, dx)) rfl W1 ne, ?_⟩
    refine ⟨fun env' μ' σ' F' H' as' r g e' w' => ?_, fun d μ' v F' H' as' r g w' dv' => ?_, fun env' μ' σ' F' H' as' r g e' w' => ?_, fun env' μ' σ' F' H' as' r g e' w' => ?_⟩
    · obtain ⟨r1, r2, r3⟩ := r
      exact k.nx _ μ' _ F' H' as' r3 (g1.trans g) (EnvOk.chg (Γ := S.Γ.er (ax, C, dx)) (Γ' := S.Γ) rfl (e'.clr i) r1) (Wd.chg (Γ := S.Γ.er (ax, C, dx)) (Γ' := S.Γ) rfl w' r2)
    · obtain ⟨r1, r2, r3⟩ := r
      exact k.rt d μ' v F' H' as' r3 (g1.trans g) (Wd.chg (Γ := S.Γ.er (ax, C, dx)) (Γ' := S.Γ) rfl w' r2) (DV.chg (Γ := S.Γ.er (ax, C, dx)) (Γ' := S.Γ) rfl dv' r1)
    · obtain ⟨r1, r2, r3⟩ := r
      exact k.bk _ μ' _ F' H' as' r3 (g1.trans g) (EnvOk.chg (Γ := S.Γ.er (ax, C, dx)) (Γ' := S.Γ) rfl (e'.clr i) r1) (Wd.chg (Γ := S.Γ.er (ax, C, dx)) (Γ' := S.Γ) rfl w' r2)
    · obtain ⟨r1, r2, r3⟩ := r
      exact k.ct _ μ' _ F' H' as' r3 (g1.trans g) (EnvOk.chg (Γ := S.Γ.er (ax, C, dx)) (Γ' := S.Γ) rfl (e'.clr i) r1) (Wd.chg (Γ := S.Γ.er (ax, C, dx)) (Γ' := S.Γ) rfl w' r2)
end
/-! ### e.f in the suite -/
section
variable {S : Sc} {env : En} {μ : Mu} {e : Expr} {pos : Pos} {P : KD} {ax : Addr} {oe : Obj} {C : Addr} {d : Option Addr} {pn : List (Addr × Obj)} {f : Str}
theorem e_xf (hz : Zc (.ref C) d oe) (hf : ∃ vs, oe.data = .fields vs) (Tx : XfC S.X.K C) (hno : PySem.W.findIn S.X.K (.ref C) f = some none)
    (h : E (suS S ax oe C d pn) e env μ fun dv μ1 => ∃ c fs v, dv = .err c fs ∧ fs.lookup f = some v ∧ P v μ1) (hb : attributeBase e f S.X.env (eval e S.X.env) = eval e S.X.env := by rfl) :
    E (suS S ax oe C d pn) (.Attribute e f pos) env μ P := by
  refine PE.imp (pe_xf (X := S.X) (a := ax) (C := C) (cls := .ref C) (d := d) (pn := pn) Tx hno hz hf (pe_y (X := S.X.suite ax ((ax, oe) :: pn))) hb) fun σ H Q ⟨F, as, a1, kk⟩ => ?_
  refine E.go h a1 fun dv μ1 v F1 H1 as1 p1 g1 W1 r1 => ?_
  obtain ⟨c, fs, w, rfl, hl, p⟩ := p1
  cases r1 with
  | err0 h1 hc => exact nomatch hl
  | err1 h1 hc h2 h3 =>
    cases h1
    obtain ⟨u, hu, ru⟩ := h3.look hl
    exact ⟨rfl, rfl, _, _, u, rfl, W1.sub _ _ h2, hu, kk w μ1 u F1 H1 as1 p g1 W1 ru⟩
end
end Me
/-! ### isinstance(e, ..) -/
namespace PySem.W
open PySem PySem.Spec PySem.Calls PyProof.Rows
section
variable {prog : Program} {w : World} {A : Around} {E : Value → Shared → Prop} {s : Shared} {K : Frag} {x D : Addr} {ox : Obj} {od : Option Obj}
theorem me_findObj {C : Addr} {name : Str} {a g : Value} (hc : (clsIn K C).isSome = true) (ha : findIn K (.ref C) name = some (some a)) (hg : specialIn K a "__get__" = some (some g)) (ht : takesIn K a = some true) : findObj K C od name = some (.bind g a) := by
  obtain ⟨cd, hc⟩ := Option.isSome_iff_exists.mp hc
  unfold findObj
  rw [hc, Option.bind_some, ha, Option.bind_some]
  simp [hg, ht]
theorem me_classE {Q : Option Value → Shared → Prop} (hga : findIn K (.ref D) "__getattribute__" = some (some (.builtin "BaseException.__getattribute__"))) (hgt : findIn K (.ref D) "__getattr__" = some none) (hsub : subIn K (.ref D) (.type "BaseException") = some true)
    (hdct : hasDictIn K D = true) (ha : findIn K (.ref D) "__class__" = some (some (.builtin "object.__class__")))
    (hn : specialIn K (.builtin "object.__class__") "__get__" = some (some (.builtin "getset_descriptor.__get__"))) (htk : takesIn K (.builtin "object.__class__") = some true) (hm : mroIn K D (.type "object") = some true)
    (X : K.In s.heap) (I : InstAt s.heap x ox D od) (h : Q (some (.ref D)) { s with toks := s.toks + 1 }) : wpAny (model prog w) A (getAttr? (.ref x) "__class__") Q E s := by
  have hf : findObj K D od "__class__" = some (.bind (.builtin "getset_descriptor.__get__") (.builtin "object.__class__")) := me_findObj (by obtain ⟨cd, hc, _⟩ := any_some hdct; rw [hc]; rfl) ha hn htk
  obtain ⟨hp, g, d, t, os⟩ := s
  have L0 := I.type (M := model prog w)
  have L1 := looks_findIn (M := model prog w) X hga
  have L2 := looks_findIn (M := model prog w) X hgt
  have L3 := looks_find (M := model prog w) X I hf
  have sub : Looks (model prog w) hp (isInstance (.ref x) (.type "BaseException")) true := L0.andThen (looks_subIn X hsub)
  have hx0 : (false && onTheHeap (Value.builtin "BaseException.__getattribute__")) = false := rfl
  have hx2 : (Value.builtin "BaseException.__getattribute__" == Value.builtin "object.__getattribute__") = false := by decide +kernel
  have hx1 : (onTheHeap (Value.ref D) && Value.builtin "BaseException.__getattribute__" == Value.builtin "object.__getattribute__") = false := by rw [hx2]; rfl
  unfold getAttr? getAttrBy? getAttrBy
  refine wpAny_bind (wpAny_mkText (wpAny_bind (wpAny_attempt (wpAny_holding (wpAny_bind (L0.at (wpAny_bind (L1.at ?_))))))))
  show wpAny _ _ (if (onTheHeap (Value.ref D) && Value.builtin "BaseException.__getattribute__" == Value.builtin "object.__getattribute__") = true then _ else _) _ _ _
  rw [hx1, if_neg Bool.false_ne_true]
  unfold getAttrByItsOwn hookBefore
  refine wpAny_bind ?_
  rw [if_pos (show onTheHeap (Value.ref D) = true from rfl)]
  refine L2.at ?_
  refine wpAny_bind (wpAny_attempt (wpAny_holding ?_))
  unfold callGetattribute
  rw [hx0, if_neg Bool.false_ne_true]
  unfold boundAndCalled
  rw [PySem.F.excAttr_ValueError.ga.bind (.ref x)]
  refine wpAny_bind (wpAny_pure ?_)
  show wpAny _ _ (call (.builtin "BaseException.__getattribute__") [.ref x, .str "__class__" t]) _ _ _
  refine wpAny_call (codeAny_call_builtin PySem.F.excAttr_ValueError.ga.plain PySem.F.entry_bexc_ga ?_)
  refine @check_slot (model prog w) _ _ ⟨hp, g, d, t + 1, os⟩ "BaseException.__getattribute__" "BaseException" "__getattribute__" (.ref x) [.str "__class__" t] [] _ (by decide +kernel) (by decide +kernel) sub (PySem.F.args_bexc_ga (.ref x) (.str "__class__" t)) ?_
  unfold Builtin.«object.__getattribute__»
  refine wpAny_bind (wpAny_of_eq (a := ((Value.ref x : Value), [Value.str "__class__" t])) (by first | rfl | (simp only [slotArgs]; rfl)) ?_)
  refine wpAny_bind (wpAny_pure (wpAny_bind (L0.at (wpAny_bind (L3.at ?_)))))
  show wpAny _ _ (holding [Value.builtin "object.__class__"] (call (.builtin "getset_descriptor.__get__") [.builtin "object.__class__", .ref x, .ref D]) >>= ret) _ _ _
  refine wpAny_bind (wpAny_holding (wpAny_call (class_get (s := ⟨hp, g, d, t + 1, os⟩) (ox := ox) (od := od) X I hm ?_)))
  refine wpAny_pure ?_
  show wpAny _ _ (handedOut (.ref D)) _ _ _
  rw [handedOut_of (v := .ref D) rfl]
  first
    | exact wpAny_pure (wpAny_pure h)
    | exact wpAny_pure h
    | exact wpAny_pure (wpAny_bind (wpAny_pure (wpAny_pure h)))
theorem me_kitx (hga : findIn K (.ref D) "__getattribute__" = some (some (.builtin "BaseException.__getattribute__"))) (hgt : findIn K (.ref D) "__getattr__" = some none) (hsub : subIn K (.ref D) (.type "BaseException") = some true) (hdct : hasDictIn K D = true) (ha : findIn K (.ref D) "__class__" = some (some (.builtin "object.__class__")))
    (hn : specialIn K (.builtin "object.__class__") "__get__" = some (some (.builtin "getset_descriptor.__get__"))) (htk : takesIn K (.builtin "object.__class__") = some true) (hm : mroIn K D (.type "object") = some true) :
    KitX K (.ref x) (.ref D) (fun h => InstAt h x ox D od) where
  ty := fun _ _ _ I => I.type
  it := fun _ _ X _ => by
    obtain ⟨cdD, hcD, _⟩ := any_some hdct
    unfold clsIn at hcD
    split at hcD
    · rename_i c' d' cd' sl' ho
      intro A' Q' E' s' k q
      unfold isType loadHead
      exact wpAny_bind (wpAny_loadPart (k _ _ (X _ _ ho)) (wpAny_pure q))
    · cases hcD
  ne := fun h tp dd its n sl X htp => by
    obtain ⟨cdD, hcD, _⟩ := any_some hdct
    refine Bool.eq_false_iff.mpr fun q => ?_
    have e : D = tp := Value.ref.inj (beq_iff_eq.mp q)
    subst e
    unfold clsIn at hcD
    split at hcD
    · rename_i c' d' cd' sl' ho
      have z := (X _ _ ho).symm.trans htp
      cases z
    · cases hcD
  ca := fun X I k => me_classE hga hgt hsub hdct ha hn htk hm X I k
end
end PySem.W
namespace Me
open PySem PySem.Spec PyProof.Rows L2
section
variable {S : Sc} {env : En} {μ : Mu} {e : Expr} {pos : Pos} {P : KD} {ax : Addr} {oe : Obj} {C : Addr} {d : Option Addr} {pn : List (Addr × Obj)} {c : String} {fs : List (Str × D)}
/-- the exception that the suite holds, as an object -/
theorem err_at {X : Cx} {Γ : Gam} {F H : Hp} {as : List Ad} {v : V} {pins : List (Addr × Obj)} {σ : L2.St} {s : Shared} (hΓ : Γ.err = some (ax, C, d)) (hz : Zc (.ref C) d oe) (hf : ∃ vs, oe.data = .fields vs) (I : Inv (X.suite ax ((ax, oe) :: pn)) pins σ H s)
    (sub : Same F H) (r : DV Γ F as v (.err c fs)) (hne : fs ≠ []) : v = .ref ax ∧ ∃ od, PySem.W.InstAt s.heap ax oe C od := by
  obtain ⟨vs, hd⟩ := hf
  obtain ⟨ha, _⟩ := I.pin (ax, oe) (List.mem_append_left _ List.mem_cons_self)
  cases r with
  | err0 h1 hc => exact absurd rfl hne
  | err1 h1 hc h2 h3 =>
    rw [hΓ] at h1
    cases h1
    refine ⟨rfl, ?_⟩
    obtain ⟨mA, hns, hr⟩ := (show ObjOk X.prog X.w H s.heap _ (.xd _) from I.hok _ _ (sub _ _ h2))
    obtain ⟨od, ho, hl⟩ := lookIn_ns hns
    exact ⟨some od, ha, hz.1, by unfold PySem.W.notCls; rw [hd] <;> rfl, by rw [hz.2]; exact ho⟩
theorem c_isiE {u : Value} {q : Bool} {dc : D} (hz : Zc (.ref C) d oe) (hf : ∃ vs, oe.data = .fields vs) (Ec : ExcC S.X.K C) (hu : clsV S.Γ dc = some u) (hk : PySem.W.kitOne S.X.K (.ref C) u = some q) (hne : fs ≠ []) (k : P (.bl q) μ) :
    Cl (suS S ax oe C d pn) (.builtin "isinstance") [.err c fs, dc] env μ P := by
  intro pins s σ H xs us Q F as I rx a1 h1 kk
  obtain ⟨x, y, rfl, r1, r2⟩ := dvs2 h1
  obtain ⟨u1, u2, rfl, s1, s2⟩ := vals2 rx
  obtain ⟨rfl, od, J⟩ := err_at (Γ := (suS S ax oe C d pn).Γ) rfl hz hf I a1.w.sub r1 hne
  cases (show u1 = Value.ref ax from s1)
  have e2 := (clsV_of r2 (show clsV (suS S ax oe C d pn).Γ dc = some u from hu)).eq s2
  subst e2
  exact PySem.W.kia_one (PySem.W.me_kitx Ec.hg Ec.hk Ec.hs Ec.hd Ec.ha Ec.hn Ec.ht Ec.hm) I.kIn J hk (fun z => nomatch z) fun tk => ⟨.bl q, H, I.tok tk, rfl, kk _ μ _ F H as k (Go.refl F H as) a1.w (.bl q)⟩
theorem clsVs_er {Γ : Gam} {e : Addr × Addr × Option Addr} : ∀ ds : List D, clsVs (Γ.er e) ds = clsVs Γ ds
  | [] => rfl
  | d :: ds => by
    have h : clsV (Γ.er e) d = clsV Γ d := by cases d <;> rfl
    rw [clsVs, clsVs, clsVs_er ds, h]
theorem c_isiTE {us' : List Value} {q : Bool} {dcs : List D} (hz : Zc (.ref C) d oe) (hf : ∃ vs, oe.data = .fields vs) (Ec : ExcC S.X.K C) (hu : clsVs S.Γ dcs = some us') (hk : PySem.W.kitAny S.X.K (.ref C) us' = some q) (hne : fs ≠ []) (k : P (.bl q) μ) :
    Cl (suS S ax oe C d pn) (.builtin "isinstance") [.err c fs, .tup dcs] env μ P := by
  intro pins s σ H xs us Q F as I rx a1 h1 kk
  obtain ⟨x, y, rfl, r1, r2⟩ := dvs2 h1
  obtain ⟨u1, u2, rfl, s1, s2⟩ := vals2 rx
  obtain ⟨tp, vs, rfl, ht, dv⟩ := r2.tupV
  obtain ⟨rfl, od, J⟩ := err_at (Γ := (suS S ax oe C d pn).Γ) rfl hz hf I a1.w.sub r1 hne
  cases (show u1 = Value.ref ax from s1)
  cases (show u2 = Value.ref tp from s2)
  obtain ⟨_, its, rv, o, g1, g2, n, g3⟩ := (show ObjOk S.X.prog S.X.w H s.heap tp (.tup vs) from I.hok tp _ (a1.w.sub _ _ ht))
  have e3 := ClsV.all (clsVs_of dv ((clsVs_er dcs).trans hu)) rv
  subst e3
  obtain ⟨oc, odd, dt, sl⟩ := o
  simp only at g2 g3
  subst g2 g3
  exact PySem.W.kia_tup (PySem.W.me_kitx Ec.hg Ec.hk Ec.hs Ec.hd Ec.ha Ec.hn Ec.ht Ec.hm) I.kIn J g1 hk (fun z => nomatch z) fun tk => ⟨.bl q, H, I.tok tk, rfl, kk _ μ _ F H as k (Go.refl F H as) a1.w (.bl q)⟩
end
end Me

/-! Me43: the comprehension of a dict with two clauses. -/
namespace Me
open PySem PySem.Spec PyProof.Rows L2
theorem turnD2_out (kx vx t0 i0 t1 i1 : Expr) (ifs0 ifs1 : List Expr) (scope : Scope) (pos : Pos) (it acc : Value) (env : Env) :
    compTurn (.DictComp kx vx [⟨t0, i0, ifs0, 0⟩, ⟨t1, i1, ifs1, 0⟩] scope pos) 0 it acc env = (do
      standAt i0.pos
      match ← pyNext it with
      | none => pure (.done .next)
      | some v =>
        letOwnedTupleGo t0 it v
        assign t0 env v
        let mut ok := true
        for c in ifs0 do
          if ok then ok ← isTrue c env (eval c env)
        if ok then
          let x ← eval i1 env
          standAt i1.pos
          let x ← foldedSetIterable i1 env x
          let _ ← runOwn (.compStart (.DictComp kx vx [⟨t0, i0, ifs0, 0⟩, ⟨t1, i1, ifs1, 0⟩] scope pos) 1 (← holding [x] (pyIter x)) acc env) env
        again (.compLoop (.DictComp kx vx [⟨t0, i0, ifs0, 0⟩, ⟨t1, i1, ifs1, 0⟩] scope pos) 0 it acc env)) := by rfl
theorem turnD2_in (kx vx t0 i0 t1 i1 : Expr) (ifs0 ifs1 : List Expr) (scope : Scope) (pos : Pos) (it : Value) (D0 : Addr) (env : Env) :
    compTurn (.DictComp kx vx [⟨t0, i0, ifs0, 0⟩, ⟨t1, i1, ifs1, 0⟩] scope pos) 1 it (.ref D0) env = (do
      standAt i1.pos
      match ← pyNext it with
      | none => pure (.done .next)
      | some v =>
        letOwnedTupleGo t1 it v
        assign t1 env v
        let mut ok := true
        for c in ifs1 do
          if ok then ok ← isTrue c env (eval c env)
        if ok then
          (do
            let kv ← eval kx env
            let vv ← holding [kv] (eval vx env)
            standAt { kx.pos with endLine := vx.pos.endLine, endCol := vx.pos.endCol }
            holding [kv, vv] (dictSet D0 kv vv))
        again (.compLoop (.DictComp kx vx [⟨t0, i0, ifs0, 0⟩, ⟨t1, i1, ifs1, 0⟩] scope pos) 1 it (.ref D0) env)) := by rfl
section
variable {prog : Program} {w : World} {A : Around} {R : Result → Shared → Prop} {s : Shared} {kx vx t0 i0 t1 i1 : Expr} {ifs0 ifs1 : List Expr} {scope : Scope} {pos : Pos} {it acc : Value} {D0 : Addr} {env : Env}
theorem loopD2_out (hs : ∀ x, foldedSetIterable i1 env x = pure x) (I : Nat → Shared → Prop)
    (turn : ∀ n s, I n s → wpAny (model prog w) A (pyNext it) (fun r s₁ => match r with
      | none => R (.ok .next) s₁
      | some v => wpAny (model prog w) A (letOwnedTupleGo t0 it v) (fun _ s₁' => wpAny (model prog w) A (assign t0 env v) (fun _ s₂ =>
          wpAny (model prog w) A (forIn ifs0 true fun c r => if r = true then do let ok ← isTrue c env (eval c env); pure (ForInStep.yield ok) else pure (ForInStep.yield r)) (fun ok s₃ =>
            if ok = true then wpAny (model prog w) A (eval i1 env) (fun x s₄ => wpAny (model prog w) A (pyIter x) (fun it1 s₅ =>
              codeAny (model prog w) A (.compStart (.DictComp kx vx [⟨t0, i0, ifs0, 0⟩, ⟨t1, i1, ifs1, 0⟩] scope pos) 1 it1 acc env) (fun r s' => match r with
                | .ok _ => ∃ m, m < n ∧ I m s'
                | .error _ => False) s₅) (notedBy (model prog w) A env fun e s' => R (.error e) s') s₄) (notedBy (model prog w) A env fun e s' => R (.error e) s') s₃
            else ∃ m, m < n ∧ I m s₃) (notedBy (model prog w) A env fun e s' => R (.error e) s') s₂) (notedBy (model prog w) A env fun e s' => R (.error e) s') s₁') (notedBy (model prog w) A env fun e s' => R (.error e) s') s₁) (notedBy (model prog w) A env fun e s' => R (.error e) s') s)
    (n : Nat) (h : I n s) :
    codeAny (model prog w) A (.compLoop (.DictComp kx vx [⟨t0, i0, ifs0, 0⟩, ⟨t1, i1, ifs1, 0⟩] scope pos) 0 it acc env) R s := by
  refine codeAny_loop rfl I (fun n s hI => ?_) n h
  show wpAny _ A ((compTurn (.DictComp kx vx [⟨t0, i0, ifs0, 0⟩, ⟨t1, i1, ifs1, 0⟩] scope pos) 0 it acc env).onRaise (fun x => do noteFrame x env; theTreesLotGoes x)) _ _ s
  refine wpAny_noted ?_
  rw [turnD2_out]
  refine wpAny_bind (wpAny_standAt (wpAny_bind (wpAny_mono (turn n s hI) (fun r s₁ h₁ => ?_) fun _ _ h' => h')))
  cases r with
  | none => exact wpAny_pure h₁
  | some v =>
    refine wpAny_bind (wpAny_mono h₁ (fun _ s₁' h₁' => ?_) fun _ _ h' => h')
    refine wpAny_bind (wpAny_mono h₁' (fun _ s₂ h₂ => wpAny_bind (wpAny_mono h₂ (fun ok s₃ h₃ => ?_) fun _ _ h' => h')) fun _ _ h' => h')
    cases ok with
    | false => exact wpAny_pure ⟨rfl, h₃⟩
    | true =>
      refine wpAny_bind (wpAny_mono h₃ (fun x s₄ h₄ => ?_) fun _ _ h' => h')
      refine wpAny_bind (wpAny_standAt (wpAny_bind (wpAny_of_eq (hs x) (wpAny_bind (wpAny_holding (wpAny_mono h₄ (fun it1 s₅ h₅ => ?_) fun _ _ h' => h'))))))
      refine wpAny_bind (wpAny_runOwn ?_)
      rw [Around.mark_none]
      refine codeAny_mono h₅ fun r s' hr => ?_
      cases r with
      | ok f =>
        first
          | exact wpAny_pure ⟨rfl, hr⟩
          | exact wpAny_bind (wpAny_pure (wpAny_pure ⟨rfl, hr⟩))
      | error e => exact hr.elim
theorem loopD2_in (I : Nat → Shared → Prop)
    (turn : ∀ n s, I n s → wpAny (model prog w) A (pyNext it) (fun r s₁ => match r with
      | none => R (.ok .next) s₁
      | some v => wpAny (model prog w) A (letOwnedTupleGo t1 it v) (fun _ s₁' => wpAny (model prog w) A (assign t1 env v) (fun _ s₂ =>
          wpAny (model prog w) A (forIn ifs1 true fun c r => if r = true then do let ok ← isTrue c env (eval c env); pure (ForInStep.yield ok) else pure (ForInStep.yield r)) (fun ok s₃ =>
            if ok = true then wpAny (model prog w) A (eval kx env) (fun kv s₄ => wpAny (model prog w) A (eval vx env) (fun vv s₅ =>
              wpAny (model prog w) A (dictSet D0 kv vv) (fun _ s₆ => ∃ m, m < n ∧ I m s₆) (notedBy (model prog w) A env fun e s' => R (.error e) s') s₅) (notedBy (model prog w) A env fun e s' => R (.error e) s') s₄) (notedBy (model prog w) A env fun e s' => R (.error e) s') s₃
            else ∃ m, m < n ∧ I m s₃) (notedBy (model prog w) A env fun e s' => R (.error e) s') s₂) (notedBy (model prog w) A env fun e s' => R (.error e) s') s₁') (notedBy (model prog w) A env fun e s' => R (.error e) s') s₁) (notedBy (model prog w) A env fun e s' => R (.error e) s') s)
    (n : Nat) (h : I n s) :
    codeAny (model prog w) A (.compLoop (.DictComp kx vx [⟨t0, i0, ifs0, 0⟩, ⟨t1, i1, ifs1, 0⟩] scope pos) 1 it (.ref D0) env) R s := by
  refine codeAny_loop rfl I (fun n s hI => ?_) n h
  show wpAny _ A ((compTurn (.DictComp kx vx [⟨t0, i0, ifs0, 0⟩, ⟨t1, i1, ifs1, 0⟩] scope pos) 1 it (.ref D0) env).onRaise (fun x => do noteFrame x env; theTreesLotGoes x)) _ _ s
  refine wpAny_noted ?_
  rw [turnD2_in]
  refine wpAny_bind (wpAny_standAt (wpAny_bind (wpAny_mono (turn n s hI) (fun r s₁ h₁ => ?_) fun _ _ h' => h')))
  cases r with
  | none => exact wpAny_pure h₁
  | some v =>
    refine wpAny_bind (wpAny_mono h₁ (fun _ s₁' h₁' => ?_) fun _ _ h' => h')
    refine wpAny_bind (wpAny_mono h₁' (fun _ s₂ h₂ => wpAny_bind (wpAny_mono h₂ (fun ok s₃ h₃ => ?_) fun _ _ h' => h')) fun _ _ h' => h')
    cases ok with
    | false => exact wpAny_pure ⟨rfl, h₃⟩
    | true =>
      exact wpAny_bind (wpAny_bind (wpAny_mono h₃ (fun kv s₄ h₄ => wpAny_bind (wpAny_holding (wpAny_mono h₄ (fun vv s₅ h₅ => wpAny_bind (wpAny_standAt (wpAny_holding (wpAny_mono h₅ (fun _ s₆ h₆ => wpAny_pure ⟨rfl, h₆⟩) fun _ _ h' => h')))) fun _ _ h' => h'))) fun _ _ h' => h'))
theorem startD2 (h0 : codeAny (model prog w) A (.compLoop (.DictComp kx vx [⟨t0, i0, ifs0, 0⟩, ⟨t1, i1, ifs1, 0⟩] scope pos) 1 it acc env) R s)
    (h : wpAny (model prog w) A (pyIter it) (fun it' s' => codeAny (model prog w) A (.compLoop (.DictComp kx vx [⟨t0, i0, ifs0, 0⟩, ⟨t1, i1, ifs1, 0⟩] scope pos) 1 it' acc env) R s')
      (notedBy (model prog w) A env fun x s' => R (.error x) s') s) :
    codeAny (model prog w) A (.compStart (.DictComp kx vx [⟨t0, i0, ifs0, 0⟩, ⟨t1, i1, ifs1, 0⟩] scope pos) 1 it acc env) R s := by
  refine codeAny_of_tree ?_
  show wpAny _ _ ((compStart (.DictComp kx vx [⟨t0, i0, ifs0, 0⟩, ⟨t1, i1, ifs1, 0⟩] scope pos) 1 it acc env).onRaise (fun x => do noteFrame x env; standAt theWindowsPlace)) _ _ s
  refine wpAny_notedAt ?_
  unfold compStart
  show wpAny _ _ (ask >>= _) _ _ s
  refine wpAny_bind (wpAny_askSetting (wpAny_ite ?_))
  split
  · first
      | exact wpAny_bind (wpAny_pure (wpAny_pure (And.intro rfl h0)))
      | exact wpAny_pure (And.intro rfl h0)
  · first
      | exact wpAny_bind (wpAny_rule (wpAny_bind (wpAny_standAt (wpAny_bind (wpAny_mono h (fun it' s' h' => wpAny_pure (And.intro rfl h')) fun _ _ x => x)))))
      | (refine wpAny_bind (wpAny_rule ?_); show wpAny _ _ (standAt i1.pos >>= _) _ _ s; exact wpAny_bind (wpAny_standAt (wpAny_bind (wpAny_mono h (fun it' s' h' => wpAny_pure (And.intro rfl h')) fun _ _ x => x))))
end
section
variable {X : Cx}
def tDc2 (o0 : HO) (wi : TI) (g : TG) (tt : TT) (wi1 : TI) (g1 : TG) (tt1 : TT) (tk tv : TE) (vs vs1 : List Nat) : TE := fun σ H Q => wi σ H fun J H1 => ∀ D0, H1 D0 = none → ∃ Y : Nat → Nat → Hp → Prop, (∃ m, Y 0 m (upd H1 D0 o0)) ∧ ∀ i m H, Y i m H →
  (J.stop i H ∧ Q (.ref D0) H) ∨ (J.go i H ∧ ∃ Nx : Hp → Prop, (∀ H', Nx H' → ∃ m', m' < m ∧ Y (i + 1) m' H') ∧ ∀ x H', J.yld i H x H' → g x (wipe σ vs) H' fun σ2 H2 => wipe σ2 vs = wipe σ vs ∧ tt σ2 H2 fun b H3 =>
    if b = true then wi1 σ2 H3 fun J1 H4 => ∃ Y1 : Nat → Nat → Hp → Prop, (∃ m, Y1 0 m H4) ∧ ∀ j k H, Y1 j k H →
      (J1.stop j H ∧ Nx H) ∨ (J1.go j H ∧ ∃ Nx1 : Hp → Prop, (∀ H', Nx1 H' → ∃ k', k' < k ∧ Y1 (j + 1) k' H') ∧ ∀ x H', J1.yld j H x H' → g1 x (wipe σ2 vs1) H' fun σ3 H5 => wipe σ3 vs1 = wipe σ2 vs1 ∧ tt1 σ3 H5 fun b H6 =>
        if b = true then tk σ3 H6 fun y H7 => tv σ3 H7 fun z H8 => ∃ H9, DPut H8 D0 y z H9 ∧ Nx1 H9 else Nx1 H6)
    else Nx H3)
theorem dc2_run {o0 : HO} {pins : List (Addr × Obj)} {s : Shared} {σ : L2.St} {H : Hp} {Q : VK} {kx vx tg iter tg1 iter1 : Expr} {ifs ifs1 : List Expr} {scope : Scope} {own : List (Str × Nat)} {vs1 : List Nat} {pos pos' : Pos} {wi wi1 : TI} {g g1 : TG} {tt tt1 : TT} {tk tv : TE} {use : Option (Value → Sem Unit)} {Qf : Value → Shared → Prop}
    (new : ∀ (H : Hp) (h : Heap), sysModules < h.objs.size → ObjOk X.prog X.w H (h.push newD) h.objs.size o0) (hu : X.A.units + 1 < cLine)
    (hc : X.calm = true) (hN : X.N.Nodup) (I : Inv X pins σ H s) (hi : L2.PI X tg iter wi) (ok : BlkOk X.N X.env.scope scope own) (hv : ∀ i ∈ vs1, i ∈ own.map (·.2)) (hg : InB X scope fun B => PG B tg g) (ht : InB X scope fun B => PTs B ifs tt)
    (hi1 : InB X scope fun B => L2.PI B tg1 iter1 wi1) (hg1 : InB X scope fun B => PG B tg1 g1) (ht1 : InB X scope fun B => PTs B ifs1 tt1)
    (hk : InB X scope fun B => PE B kx tk) (he : InB X scope fun B => PE B vx tv) (hs : ∀ x, foldedSetIterable iter X.env x = pure x) (hs1 : ∀ env x, foldedSetIterable iter1 env x = pure x) (h : tDc2 o0 wi g tt wi1 g1 tt1 tk tv (own.map (·.2)) vs1 σ H Q)
    (fin : ∀ D0 C s' m H', Inv X pins σ H' s' → Q (.ref D0) H' → s'.heap.Ns C m → FpOk X pins H' C → compPost (model X.prog X.w) X.A X.xe use Qf (.ref D0) C (.ok .next) s') :
    wpAny (model X.prog X.w) X.A (comprehension (.DictComp kx vx [⟨tg, iter, ifs, 0⟩, ⟨tg1, iter1, ifs1, 0⟩] scope pos) scope X.env pos' newDict false (eval iter X.env) use) Qf X.xe s := by
  have clos : ∀ y ∈ scope.names, y.2 = .free → ∃ c, X.env.cells.lookup y.1 = some c := fun y hy e => (ok.free y hy e).elim (fun z => I.ok.has _ (.inl z)) fun z => I.ok.has _ (.inr z)
  refine wpAny_comprehension_free (use := use) rfl hs (closure_ok clos) ok.kind (fun y hy e => by rw [ok.uniq y hy, e]) (thn (hi.run pins s σ H _ I h) fun xv sa hx => thn hx fun itv sb hb => ?_)
  obtain ⟨it, fp, tn, J, Hb, rfl, Ib, T, stb, fb, q⟩ := hb
  refine wpAny_newObj_type (newEnv_comp ?_)
  generalize eD : sb.heap.objs.size = D0
  have nD : Hb D0 = none := Ib.hok.fresh (Nat.le_of_eq eD)
  obtain ⟨Y, ⟨m0, y0⟩, turn⟩ := q D0 nD
  generalize ec : ({ sb with heap := sb.heap.push newD } : Shared) = sc
  have hpc : sc.heap = sb.heap.push newD := by rw [← ec]
  have Ic : Inv X pins σ (upd Hb D0 o0) sc := by
    rw [← ec]; refine Ib.laid (t' := sb.toks) (fun b o e => Heap.get?_push_of_some _ e) (Nat.le_of_eq eD) ?_
    rw [← eD]; exact new _ _ Ib.big
  have lt : ∀ b ∈ fp, b < sb.heap.objs.size := fun b hb => let ⟨o, e, _⟩ := T.obj _ _ stb b hb; Heap.lt_size e
  have fc : ∀ b ∈ fp, FpOk X pins (upd Hb D0 o0) b ∧ b < sc.heap.objs.size := fun b hb =>
    ⟨⟨by rw [upd_ne (by rw [← eD]; exact Nat.ne_of_lt (lt b hb))]; exact (fb b hb).1, (fb b hb).2⟩, by rw [hpc, Heap.size_push]; exact Nat.lt_succ_of_lt (lt b hb)⟩
  have stc : tn 0 sc.heap := T.keep _ _ _ stb fun b _ o e => by rw [hpc]; exact Heap.get?_push_of_some _ e
  have Id := block_start Ic ok hN fc
  generalize eC : sc.heap.objs.size = C0 at Id ⊢
  generalize eL : cellsFrom (C0 + 1) scope.names (cloFrom X.env.cells scope.names []) = cl at Id
  have pg := hg sc (upd Hb D0 o0) C0 cl fp
  have pt := ht sc (upd Hb D0 o0) C0 cl fp
  have pk := hk sc (upd Hb D0 o0) C0 cl fp
  have pv := he sc (upd Hb D0 o0) C0 cl fp
  have pi1 := hi1 sc (upd Hb D0 o0) C0 cl fp
  have pg1 := hg1 sc (upd Hb D0 o0) C0 cl fp
  have pt1 := ht1 sc (upd Hb D0 o0) C0 cl fp
  have nfp : ∀ b ∈ fp, (upd Hb D0 o0) b = none := fun b hb => (fc b hb).1.1
  show codeAny _ _ (.compStart (.DictComp kx vx [⟨tg, iter, ifs, 0⟩, ⟨tg1, iter1, ifs1, 0⟩] scope pos) 0 (.ref it) (.ref D0) (compEnvC scope cl C0 X.env)) (compPost (model X.prog X.w) X.A X.xe use Qf (.ref D0) C0) { sc with heap := pushCells (sc.heap.push newD) scope.names }
  generalize ee : compEnvC scope cl C0 X.env = ce at Id pg pt pk pv pi1 pg1 pt1 ⊢
  have cL : ce.locals = C0 := by subst ee; rfl
  generalize eH : upd Hb D0 o0 = Hc at Ic Id pg pt pk pv pi1 pg1 pt1 y0 nfp fc
  generalize ed : ({ sc with heap := pushCells (sc.heap.push newD) scope.names } : Shared) = sd at Id ⊢
  have std : tn 0 sd.heap := T.keep _ _ _ stc fun b _ o e => by rw [← ed]; exact pushCells_keeps _ _ _ _ (Heap.get?_push_of_some _ e)
  have hold : ∀ {σ' : L2.St} {H' : Hp} {s' : Shared}, Inv (X.blk sc Hc scope ce fp) [] σ' H' s' → (∀ b ∈ fp, H' b = none) → ∀ b ∈ fp, FpOk (X.blk sc Hc scope ce fp) [] H' b := fun {σ' H' s'} I' hn b hb =>
    ⟨hn b hb, (I'.ok.exf b hb).1, I'.ok.exfs b hb, .inl hb, fun x c e => (I'.ok.exf b hb).2 x c e, fun p hp => absurd (show p ∈ ([] : List (Addr × Obj)) ++ [] from hp) (by simp)⟩
  have loop : codeAny (model X.prog X.w) X.A (.compLoop (.DictComp kx vx [⟨tg, iter, ifs, 0⟩, ⟨tg1, iter1, ifs1, 0⟩] scope pos) 0 (.ref it) (.ref D0) ce) (compPost (model X.prog X.w) X.A X.xe use Qf (.ref D0) C0) sd := by
    refine loopD2_out (hs1 ce) (fun n s' => ∃ i H', Inv (X.blk sc Hc scope ce fp) [] (wipe σ (own.map (·.2))) H' s' ∧ tn i s'.heap ∧ (∀ b ∈ fp, H' b = none) ∧ Y i n H') ?_ m0 ⟨0, Hc, Id, std, nfp, y0⟩
    rintro n s5 ⟨i, H5, I5, st5, n5, y5⟩
    rcases turn i n H5 y5 with ⟨stop, done⟩ | ⟨go, Nx, hNx, step⟩
    · refine thnF (T.done (X.blk sc Hc scope ce fp) rfl rfl rfl hc i [] s5 _ H5 (fun _ _ => False) I5 (hold I5 n5) st5 stop) fun r s6 ⟨hr, I6⟩ => ?_
      subst hr
      have I7 : Inv X pins σ H5 s6 := Ic.call' (ch := fp) I6.os I6.base I6.hok I6.bare fun b hb => let z := (fc b hb).1.2; ⟨z.2.2.1, z.1, z.2.2.2.1, z.2.2.2.2⟩
      have nC : H5 C0 = none := by rw [← cL]; exact I6.free
      obtain ⟨m, hn, _⟩ := I6.loc
      have hn : s6.heap.Ns ce.locals m := hn
      rw [cL] at hn
      exact fin D0 C0 s6 m H5 I7 done hn (Ic.fpOk (Nat.le_of_eq eC) nC)
    · refine thnF (T.item (X.blk sc Hc scope ce fp) rfl rfl rfl hc i [] s5 _ H5 (fun _ _ => False) I5 (hold I5 n5) st5 go) fun r s6 ⟨u, hr, h6⟩ => ?_
      subst hr
      refine thnF h6 fun _ s7 ⟨x, H7, I7, r7, yl, st7, n7⟩ => thnF (pg.run _ s7 _ H7 x u _ (I7.pinned (hold I7 n7) (T.obj _ _ st7)) r7 (step x H7 yl)) fun _ s8 ⟨σ8, H8, I8, hw8, q8⟩ => thnF (pt.run _ s8 σ8 H8 _ I8 q8) fun b s9 ⟨H9, I9, q9⟩ => ?_
      have fin2 : ∀ {σ9 : L2.St} {s' : Shared} {H' : Hp}, Inv (X.blk sc Hc scope ce fp) ([] ++ pinsAt fp s7.heap) σ9 H' s' → (wipe σ (own.map (·.2))).length = σ9.length → (∀ (j : Nat) v, (wipe σ (own.map (·.2)))[j]? = some (some v) → σ9[j]? = some (some v)) → Nx H' →
          ∃ m, m < n ∧ ∃ i H', Inv (X.blk sc Hc scope ce fp) [] (wipe σ (own.map (·.2))) H' s' ∧ tn i s'.heap ∧ (∀ b ∈ fp, H' b = none) ∧ Y i m H' := fun {σ9 s' H'} I' hl hk nx => by
        obtain ⟨m', hm, w'⟩ := hNx H' nx
        have pin : ∀ b ∈ fp, ∀ o, s7.heap.get? b = some o → s'.heap.get? b = some o ∧ H' b = none := fun b hb o e => let z := I'.pin (b, o) (List.mem_append_right _ (List.mem_append_right _ (mem_pinsAt hb e))); ⟨z.1, z.2.1⟩
        refine ⟨m', hm, i + 1, H', (I'.unpinned (pins := [])).weak hl hk, T.keep _ _ _ st7 fun b hb o e => (pin b hb o e).1, fun b hb => ?_, w'⟩
        obtain ⟨o, e, _⟩ := T.obj _ _ st7 b hb
        exact (pin b hb o e).2
      have hl8 : (wipe σ (own.map (·.2))).length = σ8.length := by rw [← hw8, wipe_length]
      have hk8 : ∀ (j : Nat) v, (wipe σ (own.map (·.2)))[j]? = some (some v) → σ8[j]? = some (some v) := fun j v e => by
        rw [← hw8] at e
        exact (wipe_some e).1
      have hk9 : ∀ (j : Nat) v, (wipe σ (own.map (·.2)))[j]? = some (some v) → (wipe σ8 vs1)[j]? = some (some v) := fun j v e => by
        rw [← hw8] at e
        obtain ⟨e1, e2⟩ := wipe_some e
        rw [L2.wipe_out fun z => e2 (hv j z)]
        exact e1
      cases b with
      | false =>
        simp only [Bool.false_eq_true, if_false] at q9 ⊢
        exact fin2 I9 hl8 hk8 q9
      | true =>
        simp only [if_true] at q9 ⊢
        refine thnF (pi1.run _ s9 σ8 H9 _ I9 q9) fun xv s10 hx => thnF hx fun itv s11 h11 => ?_
        obtain ⟨it1, fp1, tn1, J1, H11, e1, I11, T1, st11, f11, Y1, ⟨m1, w1⟩, turn1⟩ := h11
        subst e1
        have stat1 : ∀ {H' : Hp}, (∀ b ∈ fp1, H' b = none) → ∀ b ∈ fp1, FpOk (X.blk sc Hc scope ce fp) ([] ++ pinsAt fp s7.heap) H' b := fun hn b hb => ⟨hn b hb, (f11 b hb).2⟩
        have loop1 : codeAny (model X.prog X.w) X.A (.compLoop (.DictComp kx vx [⟨tg, iter, ifs, 0⟩, ⟨tg1, iter1, ifs1, 0⟩] scope pos) 1 (.ref it1) (.ref D0) ce)
            (fun r s' => match r with
              | .ok _ => ∃ m, m < n ∧ ∃ i H', Inv (X.blk sc Hc scope ce fp) [] (wipe σ (own.map (·.2))) H' s' ∧ tn i s'.heap ∧ (∀ b ∈ fp, H' b = none) ∧ Y i m H'
              | .error _ => False) s11 := by
          refine loopD2_in (fun k s' => ∃ j H', Inv (X.blk sc Hc scope ce fp) ([] ++ pinsAt fp s7.heap) (wipe σ8 vs1) H' s' ∧ tn1 j s'.heap ∧ (∀ b ∈ fp1, H' b = none) ∧ Y1 j k H') ?_ m1 ⟨0, H11, I11.weak (wipe_length _ _) (fun j v e => (wipe_some e).1), st11, fun b hb => (f11 b hb).1, w1⟩
          rintro k s12 ⟨j, H12, I12, st12, n12, w12⟩
          rcases turn1 j k H12 w12 with ⟨stop1, nx1⟩ | ⟨go1, Nx1, hNx1, step1⟩
          · refine thnF (T1.done (X.blk sc Hc scope ce fp) rfl rfl rfl hc j _ s12 (wipe σ8 vs1) H12 (fun _ _ => False) I12 (stat1 n12) st12 stop1) fun r s13 ⟨hr, I13⟩ => ?_
            subst hr
            exact fin2 I13 (hl8.trans (wipe_length σ8 vs1).symm) hk9 nx1
          · refine thnF (T1.item (X.blk sc Hc scope ce fp) rfl rfl rfl hc j _ s12 (wipe σ8 vs1) H12 (fun _ _ => False) I12 (stat1 n12) st12 go1) fun r s13 ⟨u1, hr, h13⟩ => ?_
            subst hr
            refine thnF h13 fun _ s14 ⟨x1, H14, I14, r14, y14, st14, n14⟩ => ?_
            have I14' := I14.pinned (stat1 n14) (T1.obj _ _ st14)
            refine thnF (pg1.run _ s14 (wipe σ8 vs1) H14 x1 u1 _ I14' r14 (step1 x1 H14 y14)) fun _ s15 ⟨σ15, H15, I15, hw15, q15⟩ => ?_
            refine thnF (pt1.run _ s15 σ15 H15 _ I15 q15) fun b1 s16 ⟨H16, I16, q16⟩ => ?_
            have fin1 : ∀ {s' : Shared} {H' : Hp}, Inv (X.blk sc Hc scope ce fp) (([] ++ pinsAt fp s7.heap) ++ pinsAt fp1 s14.heap) σ15 H' s' → Nx1 H' → ∃ m, m < k ∧ ∃ j H', Inv (X.blk sc Hc scope ce fp) ([] ++ pinsAt fp s7.heap) (wipe σ8 vs1) H' s' ∧ tn1 j s'.heap ∧ (∀ b ∈ fp1, H' b = none) ∧ Y1 j m H' := fun {s' H'} I' nx => by
              obtain ⟨m', hm, w'⟩ := hNx1 H' nx
              have pin' : ∀ b ∈ fp1, ∀ o, s14.heap.get? b = some o → s'.heap.get? b = some o ∧ H' b = none := fun b hb o e =>
                let z := I'.pin (b, o) (List.mem_append_right _ (List.mem_append_right _ (mem_pinsAt hb e)))
                ⟨z.1, z.2.1⟩
              refine ⟨m', hm, j + 1, H', I'.unpinned.weak (by rw [← hw15, wipe_length]) (fun j v e => by rw [← hw15] at e; exact (wipe_some e).1), T1.keep _ _ _ st14 fun b hb o e => (pin' b hb o e).1, fun b hb => ?_, w'⟩
              obtain ⟨o, e, _⟩ := T1.obj _ _ st14 b hb
              exact (pin' b hb o e).2
            cases b1 with
            | false =>
              simp only [Bool.false_eq_true, if_false] at q16 ⊢
              exact fin1 I16 q16
            | true =>
              simp only [if_true] at q16 ⊢
              refine thnF (pk.run _ s16 σ15 H16 _ I16 q16) fun z s17 ⟨yk, H17, I17, r17, q17⟩ => thnF (pv.run _ s17 σ15 H17 _ I17 q17) fun z2 s18 ⟨yv, H18, I18, r18, H19, dp, nx⟩ => ?_
              exact d_setG (X := X.blk sc Hc scope ce fp) hu I18 dp r17 r18 fun s19 I19 => fin1 I19 nx
        exact startD2 loop1 (T1.self X.A 0 _ _ _ st11 loop1)
  exact codeAny_compStart_dict loop (T.self X.A 0 _ _ _ std loop)
theorem pe_dc2 {o0 : HO} {kx vx tg iter tg1 iter1 : Expr} {ifs ifs1 : List Expr} {scope : Scope} {own : List (Str × Nat)} {vs1 : List Nat} {pos : Pos} {wi wi1 : TI} {g g1 : TG} {tt tt1 : TT} {tk tv : TE}
    (new : ∀ (H : Hp) (h : Heap), sysModules < h.objs.size → ObjOk X.prog X.w H (h.push newD) h.objs.size o0) (hu : X.A.units + 1 < cLine)
    (hc : X.calm = true) (hN : X.N.Nodup) (hi : L2.PI X tg iter wi) (ok : BlkOk X.N X.env.scope scope own) (hv : ∀ i ∈ vs1, i ∈ own.map (·.2)) (hg : InB X scope fun B => PG B tg g) (ht : InB X scope fun B => PTs B ifs tt)
    (hi1 : InB X scope fun B => L2.PI B tg1 iter1 wi1) (hg1 : InB X scope fun B => PG B tg1 g1) (ht1 : InB X scope fun B => PTs B ifs1 tt1)
    (hk : InB X scope fun B => PE B kx tk) (he : InB X scope fun B => PE B vx tv) (hs : ∀ x, foldedSetIterable iter X.env x = pure x) (hs1 : ∀ env x, foldedSetIterable iter1 env x = pure x) :
    PE X (.DictComp kx vx [⟨tg, iter, ifs, 0⟩, ⟨tg1, iter1, ifs1, 0⟩] scope pos) (tDc2 o0 wi g tt wi1 g1 tt1 tk tv (own.map (·.2)) vs1) := by
  refine ⟨fun pins s σ H Q I h => ?_⟩
  rw [arm_eval_DictComp]
  refine dc2_run new hu hc hN I hi ok hv hg ht hi1 hg1 ht1 hk he hs hs1 h fun D0 C s' m H' I' q hn f => ⟨m, hn, fun h'' sb => ?_⟩
  exact ⟨.ref D0, H', I'.turned (t' := s'.toks) (fun b o hb e => (sb.2 b hb).trans e) f.1 f.2.1 f.2.2.2.1 f.2.2.2.2.1 f.2.2.2.2.2, rfl, q⟩
end
end Me

/-! Me44: {k: v for x in xs for y in ys}, by values. -/
namespace Me
open PySem PySem.Spec PyProof.Rows L2
section
variable {S : Sc} {env : En} {μ : Mu} {kx vx tg iter tg1 iter1 : Expr} {ifs ifs1 : List Expr} {pos p1 p2 : Pos} {x y : Str} {scope : Scope} {P : KD}
/-- the inner walk; the new dict is the cell n0 -/
structure CompI (S : Sc) (scope : Scope) (rel1 : D → En → En → Prop) (vs1 : List Nat) (kx vx : Expr) (ifs1 : List Expr) (env2 : En) (t : Bool) (n0 : Nat) (J : Nat → Mu → Prop) (ds1 : List D) (Sx1 : Mu → Prop) (m0 : Mu) (Dn : Mu → Prop) : Prop where
  start : J 0 m0
  stay : ∀ j m, J j m → Sx1 m
  turn : ∀ j d m, ds1[j]? = some d → J j m → ∃ env3 PB, rel1 d (wipeE env2 vs1) env3 ∧ AllB S scope (fun S' => Ts S' ifs1 env3 m PB) ∧
    ∀ q m1, PB q m1 → (q = true → ∃ PK, AllB S scope (fun S' => E S' kx env3 m1 PK) ∧ ∀ dk m2, PK dk m2 → ∃ key, asDK t dk = some key ∧ AllB S scope fun S' => E S' vx env3 m2 fun d' m3 => ∃ acc, m3[n0]? = some (.dct t none acc) ∧ acc.length < sizeLine ∧ J (j + 1) (m3.set n0 (.dct t none (putD acc key d')))) ∧ (q = false → J (j + 1) m1)
  done : ∀ m, J ds1.length m → Dn m
structure CompO (S : Sc) (scope : Scope) (rel rel1 : D → En → En → Prop) (vs vs1 : List Nat) (kx vx tg1 iter1 : Expr) (ifs ifs1 : List Expr) (env : En) (t : Bool) (n0 : Nat) (I : Nat → Mu → Prop) (ds : List D) (Sx : Mu → Prop) (m0 : Mu) (fin : Mu → Prop) : Prop where
  start : I 0 m0
  stay : ∀ k m, I k m → Sx m
  turn : ∀ k d m, ds[k]? = some d → I k m → ∃ env2 PB, rel d (wipeE env vs) env2 ∧ AllB S scope (fun S' => Ts S' ifs env2 m PB) ∧
    ∀ q m1, PB q m1 → (q = true → ∃ PI, AllB S scope (fun S' => Iter S' tg1 iter1 env2 m1 PI) ∧ ∀ ds1 Sx1 m2, PI ds1 Sx1 m2 → ∃ J, CompI S scope rel1 vs1 kx vx ifs1 env2 t n0 J ds1 Sx1 m2 (I (k + 1))) ∧ (q = false → I (k + 1) m1)
  done : ∀ m, I ds.length m → fin m
def rdII (S : Sc) (scope : Scope) (tg1 iter1 : Expr) : TI := fun σ H R => ∃ env m PI F as, AllB S scope (fun S' => Iter S' tg1 iter1 env m PI) ∧ EnvOk S.Γ F as env σ ∧ Wd S.Γ F H as m ∧
  ∀ ds Sx μ1 J F1 H1 as1, PI ds Sx μ1 → Go F H as F1 H1 as1 → Wd S.Γ F1 H1 as1 μ1 → IsWalk S ds Sx F1 H1 as1 J → R J H1
theorem pi_all (s : Shared) (H : Hp) (C : Addr) (cl : List (Str × Addr)) (fp : List Addr) : L2.PI (S.X.blk s H scope (compEnvC scope cl C S.X.env) fp) tg1 iter1 (rdII S scope tg1 iter1) :=
  ⟨fun pins s2 σ H2 R J ⟨env, m, PI, F, as, h, e, w, k⟩ => (h s H C cl fp).run pins s2 σ H2 R J ⟨F, as, ⟨e, w, ko_blk⟩, fun ds Sx μ1 J1 F1 H1 as1 p g W iw => k ds Sx μ1 J1 F1 H1 as1 p g W iw⟩⟩
theorem emptyC {Γ : Gam} {F H : Hp} {as : List Ad} {p : Addr} {t : Bool} (W : Wd Γ F H as μ) (np : H p = none) : Wd Γ F (upd H p (emptyO t)) (as ++ [⟨p, none⟩]) (μ ++ [.dct t none []]) ∧ Go F H as F (upd H p (emptyO t)) (as ++ [⟨p, none⟩]) := by
  cases t with
  | false => exact W.addO (o := .dK []) (c := .dct false none []) np fun nF => ⟨nF, [], upd_same, .nil⟩
  | true => exact W.addO (o := .dT []) (c := .dct true none []) np fun nF => ⟨nF, [], upd_same, .nil⟩
/-- an item is put into the cell -/
theorem putC {Γ : Gam} {F H : Hp} {as : List Ad} {j : Nat} {ad : Ad} {t : Bool} {kvs : List (DK × D)} {y v : V} {dk d : D} {k : DK} (W : Wd Γ F H as μ) (ha : as[j]? = some ad) (hc : μ[j]? = some (.dct t none kvs)) (r : DV Γ F as y dk) (hk : asDK t dk = some k) (rv : DV Γ F as v d) (hz : kvs.length < sizeLine) :
    ∃ o, DPut H ad.a y v (upd H ad.a o) ∧ Wd Γ F (upd H ad.a o) as (μ.set j (.dct t none (putD kvs k d))) ∧ Go F H as F (upd H ad.a o) as := by
  cases t with
  | false =>
    obtain ⟨nF, vs, h1, h2⟩ := W.ok j ad _ ha hc
    obtain ⟨x, rfl, e⟩ := asDK_k hk
    rw [r.key e]
    obtain ⟨W2, g2⟩ := W.setD (o := .dK (putK vs x v)) (kvs := putD kvs (.k x) d) ha hc fun nF => ⟨nF, _, upd_same, h2.put x rv⟩
    exact ⟨_, DPut.k h1 (by rw [h2.length]; exact hz), W2, g2⟩
  | true =>
    obtain ⟨nF, vs, h1, h2⟩ := W.ok j ad _ ha hc
    obtain ⟨x, rfl⟩ := asDK_t hk
    obtain ⟨b, rfl, e⟩ := r.keyT hk
    obtain ⟨W2, g2⟩ := W.setD (o := .dT (putK vs x v)) (kvs := putD kvs (.t x) d) ha hc fun nF => ⟨nF, _, upd_same, h2.put x rv⟩
    exact ⟨_, DPut.t h1 (W.sub _ _ e) (by rw [h2.length]; exact hz), W2, g2⟩
theorem rd_dc2G {rel rel1 : D → En → En → Prop} (t : Bool) (vs vs1 : List Nat) {wi : TI} {σ : L2.St} {H : Hp} {Q : VK}
    (hwi : ∀ σ H R, rdI S env μ (fun ds Sx μ1 => ∃ I, CompO S scope rel rel1 vs vs1 kx vx tg1 iter1 ifs ifs1 env t μ1.length I ds Sx (μ1 ++ [.dct t none []]) (P (.cell μ1.length))) σ H R → wi σ H R)
    {F : Hp} {as : List Ad} (a : At S env μ σ H F as) (k : Kv S F H as P Q) :
    tDc2 (emptyO t) wi (rdG S rel vs) (rdTT S scope ifs) (rdII S scope tg1 iter1) (rdG S rel1 vs1) (rdTT S scope ifs1) (rdEE S scope kx) (rdEE S scope vx) vs vs1 σ H Q := by
  refine hwi σ H _ ?_
  refine ⟨F, as, a, fun ds Sx μ1 J F1 H1 as1 ⟨I, L⟩ g1 W1 ⟨G, Y, w, hG, hY⟩ D0 nD => ?_⟩
  obtain ⟨W1', g1'⟩ := emptyC (t := t) W1 nD
  have hat : ∀ {F' H' as'}, Go F1 (upd H1 D0 (emptyO t)) (as1 ++ [⟨D0, none⟩]) F' H' as' → as'[μ1.length]? = some ⟨D0, none⟩ := fun g => g.at (by rw [← W1.len]; simp)
  refine ⟨fun n mm H2 => mm = ds.length - n ∧ n ≤ ds.length ∧ ∃ m F2 as2, I n m ∧ Wd S.Γ F2 H2 as2 m ∧ Go F1 (upd H1 D0 (emptyO t)) (as1 ++ [⟨D0, none⟩]) F2 H2 as2, ⟨_, rfl, Nat.zero_le _, _, F1, _, L.start, W1', Go.refl _ _ _⟩, ?_⟩
  rintro n mm H2 ⟨rfl, hn, m, F2, as2, i2, W2, g2⟩
  have gg := hG F2 H2 as2 m (g1'.trans g2) W2 (L.stay n m i2)
  by_cases hlt : n < ds.length
  · refine .inr ⟨w.goes n H2 hlt gg, fun H' => n + 1 ≤ ds.length ∧ ∃ m F2 as2, I (n + 1) m ∧ Wd S.Γ F2 H' as2 m ∧ Go F1 (upd H1 D0 (emptyO t)) (as1 ++ [⟨D0, none⟩]) F2 H' as2, fun H' z => ⟨ds.length - (n + 1), by omega, rfl, z.1, z.2⟩, fun v H' y => ?_⟩
    obtain ⟨F3, d, hd1, g3, W3, dvd⟩ := hY n F2 H2 as2 m v H' (g1'.trans g2) W2 (L.stay n m i2) (w.yields n H2 v H' hlt gg y) hlt
    obtain ⟨env2, PB, r2, ht, hh⟩ := L.turn n d m hd1 i2
    refine ⟨d, wipeE env vs, env2, F3, as2, r2, dvd, W3.sub, ((((a.e.mono g1).mono g1').mono g2).mono g3).wipe vs, fun σ2 e2 hw => ⟨by rw [hw, wipe_wipe], env2, m, PB, F3, as2, ht, e2, W3, fun q m1 F4 H4 as4 p4 g4 W4 => ?_⟩⟩
    obtain ⟨hT, hF⟩ := hh q m1 p4
    cases q with
    | true =>
      obtain ⟨PI1, hi1, hcomp⟩ := hT rfl
      refine ⟨env2, m1, PI1, F4, as4, hi1, e2.mono g4, W4, fun ds1 Sx1 m2 J1 F5 H5 as5 p5 g5 W5 ⟨G1, Y1, w1, hG1, hY1⟩ => ?_⟩
      obtain ⟨JJ, L1⟩ := hcomp ds1 Sx1 m2 p5
      have gIn : Go F1 (upd H1 D0 (emptyO t)) (as1 ++ [⟨D0, none⟩]) F5 H5 as5 := ((g2.trans g3).trans g4).trans g5
      refine ⟨fun j kk H6 => kk = ds1.length - j ∧ j ≤ ds1.length ∧ ∃ m F6 as6, JJ j m ∧ Wd S.Γ F6 H6 as6 m ∧ Go F5 H5 as5 F6 H6 as6, ⟨_, rfl, Nat.zero_le _, m2, F5, as5, L1.start, W5, Go.refl _ _ _⟩, ?_⟩
      rintro j kk H6 ⟨rfl, hj, m6, F6, as6, i6, W6, g6⟩
      have gg1 := hG1 F6 H6 as6 m6 g6 W6 (L1.stay j m6 i6)
      by_cases hlt1 : j < ds1.length
      · refine .inr ⟨w1.goes j H6 hlt1 gg1, fun H' => j + 1 ≤ ds1.length ∧ ∃ m F6 as6, JJ (j + 1) m ∧ Wd S.Γ F6 H' as6 m ∧ Go F5 H5 as5 F6 H' as6, fun H' z => ⟨ds1.length - (j + 1), by omega, rfl, z.1, z.2⟩, fun v7 H7 y7 => ?_⟩
        obtain ⟨F7, d7, hd7, g7, W7, dvd7⟩ := hY1 j F6 H6 as6 m6 v7 H7 g6 W6 (L1.stay j m6 i6) (w1.yields j H6 v7 H7 hlt1 gg1 y7) hlt1
        obtain ⟨env3, PB7, r7, ht7, hh7⟩ := L1.turn j d7 m6 hd7 i6
        refine ⟨d7, wipeE env2 vs1, env3, F7, as6, r7, dvd7, W7.sub, ((((e2.mono g4).mono g5).mono g6).mono g7).wipe vs1, fun σ3 e3 hw3 => ⟨by rw [hw3, wipe_wipe], env3, m6, PB7, F7, as6, ht7, e3, W7, fun q7 m8 F8 H8 as8 p8 g8 W8 => ?_⟩⟩
        obtain ⟨hT8, hF8⟩ := hh7 q7 m8 p8
        cases q7 with
        | true =>
          obtain ⟨PK, hk, hkv⟩ := hT8 rfl
          refine ⟨env3, m8, PK, F8, as8, hk, e3.mono g8, W8, fun dk m9 u F9 H9 as9 p9 g9 W9 r9 => ?_⟩
          obtain ⟨key, ek, hvv⟩ := hkv dk m9 p9
          refine ⟨env3, m9, _, F9, as9, hvv, (e3.mono g8).mono g9, W9, fun d' m10 u2 F10 H10 as10 ⟨acc, hcell, hz, i10⟩ g10 W10 r10 => ?_⟩
          have gI : Go F5 H5 as5 F10 H10 as10 := (((g6.trans g7).trans g8).trans g9).trans g10
          obtain ⟨o, dp, W11, g11⟩ := putC (j := μ1.length) W10 (hat (gIn.trans gI)) hcell (r9.mono g10) ek r10 hz
          exact ⟨_, dp, hlt1, _, F10, as10, i10, W11, gI.trans g11⟩
        | false => exact ⟨hlt1, m8, F8, as8, hF8 rfl, W8, (g6.trans g7).trans g8⟩
      · have e : j = ds1.length := by omega
        subst e
        exact .inl ⟨w1.stops H6 gg1, hlt, m6, F6, as6, L1.done _ i6, W6, gIn.trans g6⟩
    | false => exact ⟨hlt, m1, F4, as4, hF rfl, W4, (g2.trans g3).trans g4⟩
  · have e : n = ds.length := by omega
    subst e
    refine .inl ⟨w.stops H2 gg, ?_⟩
    exact k _ _ _ _ _ _ (L.done m i2) ((g1.trans g1').trans g2) W2 (.cell (ad := ⟨D0, none⟩) (hat g2))
theorem e_dc2G {rel rel1 : D → En → En → Prop} (t : Bool) (own : List (Str × Nat)) (vs1 : List Nat) (hc : S.X.calm = true) (ok : BlkOk S.X.N S.X.env.scope scope own) (hv : ∀ i ∈ vs1, i ∈ own.map (·.2)) (hg : AllB S scope fun S' => Tg S' tg rel (own.map fun x : Str × Nat => x.2)) (hg1 : AllB S scope fun S' => Tg S' tg1 rel1 vs1)
    (h : Iter S tg iter env μ fun ds Sx μ1 => ∃ I, CompO S scope rel rel1 (own.map fun x : Str × Nat => x.2) vs1 kx vx tg1 iter1 ifs ifs1 env t μ1.length I ds Sx (μ1 ++ [.dct t none []]) (P (.cell μ1.length)))
    (hf : ∀ x, foldedSetIterable iter S.X.env x = pure x := by intro _; rfl) (hf1 : ∀ env x, foldedSetIterable iter1 env x = pure x := by intro _ _; rfl) :
    E S (.DictComp kx vx [⟨tg, iter, ifs, 0⟩, ⟨tg1, iter1, ifs1, 0⟩] scope pos) env μ P := by
  refine PE.imp (pe_dc2 (o0 := emptyO t) (own := own) (vs1 := vs1) (g := rdG S rel (own.map fun x : Str × Nat => x.2)) (g1 := rdG S rel1 vs1) (tt := rdTT S scope ifs) (tt1 := rdTT S scope ifs1) (wi1 := rdII S scope tg1 iter1) (tk := rdEE S scope kx) (tv := rdEE S scope vx) (empty_ok t) (by have := S.hu; omega) hc S.hN h ok hv hg pts_all pi_all hg1 pts_all pe_all pe_all hf hf1) fun σ H Q ⟨F, as, a, k⟩ => ?_
  exact rd_dc2G t _ vs1 (fun σ H R z => z) a k
theorem e_dc2 (t : Bool) (i j : Nat) (hc : S.X.calm = true) (ok : BlkOk S.X.N S.X.env.scope scope [(x, i), (y, j)])
    (h : Iter S (.Name x p1) iter env μ fun ds Sx μ1 => ∃ I, CompO S scope (rName i) (rName j) [i, j] [j] kx vx (.Name y p2) iter1 ifs ifs1 env t μ1.length I ds Sx (μ1 ++ [.dct t none []]) (P (.cell μ1.length)))
    (hn : S.X.N[i]? = some x := by rfl) (hx : NameOk S scope x := by exact fun _ _ _ _ _ => ⟨by first | exact .inl rfl | exact .inr rfl, by first | exact .inl rfl | exact .inr rfl⟩)
    (hm : S.X.N[j]? = some y := by rfl) (hy : NameOk S scope y := by exact fun _ _ _ _ _ => ⟨by first | exact .inl rfl | exact .inr rfl, by first | exact .inl rfl | exact .inr rfl⟩)
    (hij : i ≠ j := by decide)
    (hf : ∀ x, foldedSetIterable iter S.X.env x = pure x := by intro _; rfl) (hf1 : ∀ env x, foldedSetIterable iter1 env x = pure x := by intro _ _; rfl) :
    E S (.DictComp kx vx [⟨.Name x p1, iter, ifs, 0⟩, ⟨.Name y p2, iter1, ifs1, 0⟩] scope pos) env μ P := by
  refine e_dc2G (rel := rName i) (rel1 := rName j) t [(x, i), (y, j)] [j] hc ok (by simp) ?_ (fun s H C cl fp => g_name (S := Blk S scope s H C cl fp) j hm (hy s H C cl fp).1 (hy s H C cl fp).2) h hf hf1
  intro s H C cl fp
  have z := g_name (S := Blk S scope s H C cl fp) (pos := p1) i hn (hx s H C cl fp).1 (hx s H C cl fp).2
  refine ⟨fun pins s2 σ H2 v u Q I r ⟨d, env1, env', F, as, h1, dv, sm, he, k⟩ => z.run pins s2 σ H2 v u Q I r ⟨d, env1, env', F, as, h1, dv, sm, he, fun σ' e' hw => k σ' e' ?_⟩⟩
  show (L2.wipe σ' [j]).set i none = (L2.wipe σ [j]).set i none
  have hw : σ'.set i none = σ.set i none := hw
  show (σ'.set j none).set i none = (σ.set j none).set i none
  rw [List.set_comm _ _ (Ne.symm hij), hw, List.set_comm _ _ hij]
/-! ### nothing else changes -/
def foldD (ps : List (DK × D)) : List (DK × D) := ps.foldl (fun acc p => putD acc p.1 p.2) []
theorem foldD_snoc (ps : List (DK × D)) (p : DK × D) : foldD (ps ++ [p]) = putD (foldD ps) p.1 p.2 := by unfold foldD; rw [List.foldl_append]; rfl
theorem foldD_len (ps : List (DK × D)) : (foldD ps).length ≤ ps.length := by
  have : ∀ (ps acc : List (DK × D)), (ps.foldl (fun acc p => putD acc p.1 p.2) acc).length ≤ acc.length + ps.length := by
    intro ps
    induction ps with
    | nil => intro acc; exact Nat.le_refl _
    | cons p ps ih =>
      intro acc
      rw [List.foldl_cons, List.length_cons]
      have h1 := ih (putD acc p.1 p.2)
      have h2 := putD_len acc p.1 p.2
      omega
  have := this ps []
  simpa [foldD] using this
abbrev dcW (μ : Mu) (t : Bool) (ps : List (DK × D)) : Mu := μ ++ [.dct t none (foldD ps)]
theorem e_dc2P (t : Bool) (i j : Nat) (gI : D → List D) (g : D → D → Option (DK × D)) (hc : S.X.calm = true) (ok : BlkOk S.X.N S.X.env.scope scope [(x, i), (y, j)])
    (h : Iter S (.Name x p1) iter env μ fun ds Sx μ1 => μ1 = μ ∧ (∀ ps, Sx (dcW μ t ps)) ∧ (ds.flatMap gI).length ≤ sizeLine ∧
      (∀ (k : Nat) d, ds[k]? = some d → ∀ ps, AllB S scope fun S' => Iter S' (.Name y p2) iter1 (((wipeE env [i, j])).set i (some d)) (dcW μ t ps) fun ds1 Sx1 m2 => ds1 = gI d ∧ m2 = dcW μ t ps ∧ ∀ ps, Sx1 (dcW μ t ps)) ∧
      (∀ (k : Nat) d, ds[k]? = some d → ∀ (l : Nat) d1, (gI d)[l]? = some d1 → ∀ ps, ∃ q, AllB S scope (fun S' => Ts S' ifs1 ((wipeE (((wipeE env [i, j])).set i (some d)) [j]).set j (some d1)) (dcW μ t ps) fun b m => b = q ∧ m = dcW μ t ps) ∧ (q = false → g d d1 = none) ∧
        (q = true → ∃ key v dk, g d d1 = some (key, v) ∧ asDK t dk = some key ∧ AllB S scope (fun S' => E S' kx ((wipeE (((wipeE env [i, j])).set i (some d)) [j]).set j (some d1)) (dcW μ t ps) fun x m => x = dk ∧ m = dcW μ t ps) ∧
          AllB S scope (fun S' => E S' vx ((wipeE (((wipeE env [i, j])).set i (some d)) [j]).set j (some d1)) (dcW μ t ps) fun x m => x = v ∧ m = dcW μ t ps))) ∧
      P (.cell μ.length) (dcW μ t (ds.flatMap fun d => (gI d).filterMap (g d))))
    (hn : S.X.N[i]? = some x := by rfl) (hx : NameOk S scope x := by exact fun _ _ _ _ _ => ⟨by first | exact .inl rfl | exact .inr rfl, by first | exact .inl rfl | exact .inr rfl⟩)
    (hm : S.X.N[j]? = some y := by rfl) (hy : NameOk S scope y := by exact fun _ _ _ _ _ => ⟨by first | exact .inl rfl | exact .inr rfl, by first | exact .inl rfl | exact .inr rfl⟩)
    (hij : i ≠ j := by decide)
    (hf : ∀ x, foldedSetIterable iter S.X.env x = pure x := by intro _; rfl) (hf1 : ∀ env x, foldedSetIterable iter1 env x = pure x := by intro _ _; rfl) :
    E S (.DictComp kx vx [⟨.Name x p1, iter, [], 0⟩, ⟨.Name y p2, iter1, ifs1, 0⟩] scope pos) env μ P := by
  refine e_dc2 t i j hc ok (PI.imp h fun σ H R ⟨F, as, a, k⟩ => ⟨F, as, a, fun ds Sx μ1 J F1 H1 as1 p g1 W iw => k ds Sx μ1 J F1 H1 as1 ?_ g1 W iw⟩) hn hx hm hy hij hf hf1
  obtain ⟨rfl, hS, hz, hI, hE, hP⟩ := p
  have len : ∀ (l : List D), (l.flatMap fun d => (gI d).filterMap (g d)).length ≤ (l.flatMap gI).length := by
    intro l
    induction l with
    | nil => exact Nat.le_refl _
    | cons d l ih =>
      rw [List.flatMap_cons, List.flatMap_cons, List.length_append, List.length_append]
      have := List.length_filterMap_le (g d) (gI d)
      omega
  refine ⟨fun k m => m = dcW μ1 t ((ds.take k).flatMap fun d => (gI d).filterMap (g d)), rfl, fun k m e => e ▸ hS _, fun k d m hd e => ?_, fun m e => ?_⟩
  · subst e
    refine ⟨_, _, rfl, fun s H C cl fp => ts_nil (PB := fun b m' => b = true ∧ m' = dcW μ1 t ((ds.take k).flatMap fun d => (gI d).filterMap (g d))) ⟨rfl, rfl⟩, fun q m1 ⟨e1, e2⟩ => ⟨fun _ => ?_, fun z => ?_⟩⟩
    · subst e2
      refine ⟨_, hI k d hd _, fun ds1 Sx1 m2 ⟨e3, e4, hS1⟩ => ?_⟩
      subst e3 e4
      refine ⟨fun l m => m = dcW μ1 t ((ds.take k).flatMap (fun d => (gI d).filterMap (g d)) ++ ((gI d).take l).filterMap (g d)), by rw [List.take_zero, List.filterMap_nil, List.append_nil], fun l m e => e ▸ hS1 _, fun l d1 m hd1 e => ?_, fun m e => ?_⟩
      · subst e
        obtain ⟨q1, ht, hF, hT⟩ := hE k d hd l d1 hd1 ((ds.take k).flatMap (fun d => (gI d).filterMap (g d)) ++ ((gI d).take l).filterMap (g d))
        refine ⟨_, _, rfl, ht, fun b m3 ⟨e5, e6⟩ => ?_⟩
        subst e5 e6
        refine ⟨fun z => ?_, fun z => ?_⟩
        · obtain ⟨key, v, dk, eg, ek, h1, h2⟩ := hT z
          refine ⟨_, h1, fun dk2 m4 ⟨e7, e8⟩ => ?_⟩
          subst e7 e8
          refine ⟨key, ek, fun s H C cl fp => (h2 s H C cl fp).imp fun x m ⟨e9, e10⟩ => ?_⟩
          subst e9 e10
          refine ⟨_, by rw [List.getElem?_append_right (Nat.le_refl _), Nat.sub_self]; rfl, ?_, ?_⟩
          · refine Nat.lt_of_le_of_lt (foldD_len _) (Nat.lt_of_lt_of_le ?_ hz)
            have hl := (List.getElem?_eq_some_iff.mp hd1).1
            have hk := (List.getElem?_eq_some_iff.mp hd).1
            have e11 : ds = ds.take k ++ d :: ds.drop (k + 1) := by
              have z := (List.take_append_drop k ds).symm
              rw [List.drop_eq_getElem_cons hk] at z
              rw [(List.getElem?_eq_some_iff.mp hd).2] at z
              exact z
            rw [List.length_append]
            have h3 := len (ds.take k)
            have h4 := List.length_filterMap_le (g d) ((gI d).take l)
            rw [List.length_take] at h4
            have h5 : (ds.flatMap gI).length = ((ds.take k).flatMap gI).length + ((gI d).length + ((ds.drop (k + 1)).flatMap gI).length) := by
              conv => lhs; rw [e11]
              rw [List.flatMap_append, List.flatMap_cons, List.length_append, List.length_append]
            omega
          · show (μ1 ++ [Cell.dct t none _]).set μ1.length _ = μ1 ++ [_]
            rw [List.set_append_right _ _ (Nat.le_refl _), Nat.sub_self]
            show μ1 ++ [Cell.dct t none _] = μ1 ++ [Cell.dct t none _]
            rw [take_snoc hd1, List.filterMap_append, ← List.append_assoc]
            have e12 : [d1].filterMap (g d) = [(key, x)] := by simp [eg]
            rw [e12, foldD_snoc]
        · rw [take_snoc hd1, List.filterMap_append, ← List.append_assoc]
          have e12 : [d1].filterMap (g d) = [] := by simp [hF z]
          rw [e12, List.append_nil]
      · subst e
        rw [List.take_length, take_snoc hd, List.flatMap_append]
        simp
    · rw [e1] at z; exact nomatch z
  · subst e
    rw [List.take_length]
    exact hP
end
end Me

/-! Me45: sum([], []), range with a step, rstrip, index of a text. -/
namespace Me
open PySem PySem.Spec PyProof.Rows L2
section
variable {prog : Program} {w : World} {A : Around}
theorem call_sum0 {s : Shared} {E : Value → Shared → Prop} {l q : Addr} {it0 : List Value} {m0 : Nat} {Q : Value → Shared → Prop} (hh : A.handled = none) (hl : s.heap.IsList l #[]) (h0 : IsL s.heap q it0.toArray m0)
    (h : ∀ (h' : Heap) (tk : Nat), (∀ b o, s.heap.get? b = some o → h'.get? b = some o) → Q (.ref q) { s with heap := h', toks := tk }) :
    wpAny (model prog w) A (call (.builtin "sum") [.ref l, .ref q]) Q E s := by
  refine call_function_tree F.kind_sum F.plain_sum F.entry_sum (args_sum2 _ _) ?_
  unfold Builtin.«sum»
  simp only [List.length_cons, List.length_nil]
  rw [if_neg (by decide)]
  refine wpAny_bind (wpAny_of_eq (show Builtin.Builtins.bindParams "sum" ["start"] 0 ⟨[Value.ref q], []⟩ = pure [some (.ref q)] from rfl) ?_)
  refine wpAny_bind (wpAny_pyIter_list hl ?_)
  have hlt : l < s.heap.objs.size := by obtain ⟨_, e, _⟩ := hl; exact Heap.lt_size e
  have it1 : (s.heap.push { cls := .type "list_iterator", data := .fields #[.ref l, .int 0 0] }).IsListIter s.heap.objs.size l 0 := ⟨_, Heap.get?_push_size _ rfl, rfl, rfl⟩
  have hl1 := hl.push (o := { cls := .type "list_iterator", data := .fields #[.ref l, .int 0 0] })
  have kp1 : ∀ b o, s.heap.get? b = some o → (s.heap.push { cls := .type "list_iterator", data := .fields #[.ref l, .int 0 0] }).get? b = some o := fun b o e => Heap.get?_push_of_some _ e
  have sz1 : (s.heap.push { cls := .type "list_iterator", data := .fields #[.ref l, .int 0 0] }).objs.size = s.heap.objs.size + 1 := Heap.size_push _ _
  generalize s.heap.push { cls := .type "list_iterator", data := .fields #[.ref l, .int 0 0] } = h1 at it1 hl1 kp1 sz1 ⊢
  have hq1 : IsL h1 q it0.toArray m0 := kp1 _ _ h0
  refine wpAny_bind (wpAny_pure ?_)
  simp only [List.forIn_cons, List.forIn_nil]
  have tq : ({ s with heap := h1 } : Shared).TypeIs (.ref q) "list" := ⟨_, hq1, rfl⟩
  refine wpAny_bind (wpAny_bind (wpAny_bind (wpAny_isInstance (T := "list") (b := false) tq F.sub_list_str ?_)))
  simp only [Bool.false_eq_true, if_false]
  refine wpAny_pure (wpAny_bind (wpAny_bind (wpAny_isInstance (T := "list") (b := false) tq F.sub_list_bytes ?_)))
  simp only [Bool.false_eq_true, if_false]
  refine wpAny_pure (wpAny_bind (wpAny_bind (wpAny_isInstance (T := "list") (b := false) tq F.sub_list_bytearray ?_)))
  simp only [Bool.false_eq_true, if_false]
  refine wpAny_pure (wpAny_pure ?_)
  refine wpAny_bind (wpAny_newObj_type ?_)
  have W := Walks.list (prog := prog) (w := w) (A := A.in1) hh s.heap.objs.size l (Nat.ne_of_lt hlt) #[]
  refine wpAny_pure ⟨plainId_quiet F.plain_sum_loop _, ?_⟩
  refine codeAny_builtin F.entry_sum_loop ?_
  rw [Around.under_plainId F.plain_sum_loop _]
  show wpAny _ A.in1 (seqItems? (.ref h1.objs.size) >>= _) _ _ _
  refine wpAny_bind (wpAny_seqItems (Heap.get?_push_size _ rfl) rfl ?_)
  show wpAny _ A.in1 (tryCatch (pyNext (.ref s.heap.objs.size)) _ >>= _) _ _ _
  refine wpAny_bind (wpAny_tryCatch (W.done _ _ _ (W.frame 0 h1 _ ⟨it1, hl1⟩ fun b _ o e => Heap.get?_push_of_some _ e) fun h' tk hk' => ?_))
  refine wpAny_pure (h h' tk fun b o e => ?_)
  refine hk' b o (fun hb => ?_) (Heap.get?_push_of_some _ (kp1 b o e))
  rw [List.mem_singleton.mp hb] at e
  exact Nat.lt_irrefl _ (Heap.lt_size e)
end
section
variable {S : Sc} {env : En} {μ : Mu} {d d0 : D} {es0 : List D} {P : KD} {PI : KI} {e a b c o tg : Expr} {es : List Expr} {p0 pos apos cpos : Pos} {x y : Str}
theorem c_sum0 (h1 : vw μ d = .lst []) (h0 : vw μ d0 = .lst es0) (k : P d0 μ) (hc : S.X.calm = true := by rfl) : Cl S (.builtin "sum") [d, d0] env μ P := by
  intro pins s σ H xs us Q F as I rx a r kk
  obtain ⟨x, y, rfl, r1, r2⟩ := dvs2 r
  obtain ⟨p, vs, rfl, hp, dv⟩ := a.w.lst r1 h1
  obtain ⟨q, ws0, rfl, hq, dv0⟩ := a.w.lst r2 h0
  obtain ⟨u1, u2, rfl, e1, e2⟩ := vals2 rx
  cases e1
  cases e2
  cases dv
  obtain ⟨_, its, n, rv, _, hl⟩ := I.lstM hp
  obtain ⟨_, it0, n0, rv0, _, e0⟩ := I.lstM hq
  cases rv
  refine call_sum0 (I.ok.hd hc) (IsL.isList hl) e0 fun h' tk hk => ?_
  exact ⟨.ref q, H, I.kept (t' := tk) hk, rfl, kk.now a.w k r2⟩
/-- lo, lo + c, .. -/
def rangeC (lo c : Int) (n : Nat) : List D := (List.range n).map fun (i : Nat) => D.int (lo + i * c)
theorem rangeC_len (lo c : Int) (n : Nat) : (rangeC lo c n).length = n := by unfold rangeC; simp
theorem rangeC_get {lo c : Int} {n i : Nat} (h : i < n) : (rangeC lo c n)[i]? = some (.int (lo + i * c)) := by unfold rangeC; simp [h]
theorem i_range3 (hm : S.X.mg "range" = none) (h : A S [a, b, c] env μ fun ds m => ∃ i j k n, ds = [.int i, .int j, .int k] ∧ RgC i j k n ∧ PI (rangeC i k n) (fun _ => True) m) (hg : Gl S.X "range" := by rfl)
    (hs : starEach [a, b, c] S.X.env = (false, eval a S.X.env) :: starEach [b, c] S.X.env := by rfl) (hpl : (backTo pos (starEach [b, c] S.X.env)).any (·.1) = false := by rfl) :
    Iter S tg (.Call (.Name "range" p0) [a, b, c] [] pos) env μ PI := by
  refine Me.PI.imp (pi_range3 hg hm pa_y hs hpl) fun σ H R ⟨F, as, a1, k⟩ => h.go a1 fun ds m vs F1 H1 as1 ⟨i, j, l, n, e1, hz, p1⟩ g1 W1 r1 => ?_
  subst e1
  cases r1 with
  | cons h1 t1 => cases t1 with
    | cons h2 t2 => cases t2 with
      | cons h3 t3 =>
        cases t3
        cases h1
        cases h2
        cases h3
        refine ⟨i, j, l, n, rfl, hz, k _ _ m _ F1 H1 as1 p1 g1 W1 ?_⟩
        refine stays_walk (fun _ => True) (fun i' H x H' => H' = H ∧ x = .int (i + (i' : Nat) * l)) ⟨?_, ?_, ?_⟩ (fun _ _ _ _ _ _ _ => trivial) ?_
        · exact fun i' H hi _ => by rw [rangeC_len] at hi; exact hi
        · exact fun H _ => by rw [rangeC_len]; exact Nat.le_refl _
        · exact fun i' H x H' hi _ y => y
        · rintro i' F2 H2 as2 μ2 x H' g2 W2 h2 ⟨rfl, y⟩ hi
          rw [rangeC_len] at hi
          exact ⟨rfl, _, rangeC_get hi, y ▸ .int _⟩
theorem m_rstrip (hz : x.length ≤ sizeLine) (k : P (.str (PySem.Txt.rstripChars x y)) μ) : Mt S "str.rstrip" (.str x) [.str y] μ P := ⟨_, mt_rstripChars, fun F H as v xs Q W r rs kk => by
  cases r
  obtain ⟨u, rfl, ru⟩ := dvs1 rs
  cases ru
  exact ⟨x, y, rfl, rfl, hz, kk.now W k (.str _)⟩⟩
theorem m_sindex {i : Nat} {rest : List Nat} (ho : Builtin.Str.occurrences x y 0 x.length 1 = i :: rest) (k : P (.int (i : Nat)) μ) : Mt S "str.index" (.str x) [.str y] μ P := ⟨_, mt_sindex, fun F H as v xs Q W r rs kk => by
  cases r
  obtain ⟨u, rfl, ru⟩ := dvs1 rs
  cases ru
  exact ⟨x, y, i, rest, rfl, rfl, ho, kk.now W k (.int _)⟩⟩
theorem e_rstrip (h : E S o env μ fun d μ1 => ∃ x, d = .str x ∧ E S e env μ1 fun d2 μ2 => ∃ y, d2 = .str y ∧ x.length ≤ sizeLine ∧ P (.str (PySem.Txt.rstripChars x y)) μ2)
    (hbase : attributeBase o "rstrip" S.X.env (eval o S.X.env) = eval o S.X.env := by rfl) (hline : (apos.endLine == cpos.line) = true := by rfl) (hs : starEach [e] S.X.env = (false, eval e S.X.env) :: starEach [] S.X.env := by rfl) :
    E S (.Call (.Attribute o "rstrip" apos) [e] [] cpos) env μ P := by
  refine e_bm PySem.F.plainAttrs_str PySem.F.slot_str_rstrip PySem.F.type_str_rstrip (h.imp fun d μ1 ⟨x, e1, h2⟩ => ?_) hbase (by rw [hs]; rfl) hline hs (by rfl)
  subst e1
  exact ⟨ty_str, a_cons (h2.imp fun d2 μ2 ⟨y, e2, hz, p⟩ => a_nil (e2 ▸ m_rstrip hz p)) hs⟩
theorem e_sindex (h : E S o env μ fun d μ1 => ∃ x, d = .str x ∧ E S e env μ1 fun d2 μ2 => ∃ y i rest, d2 = .str y ∧ Builtin.Str.occurrences x y 0 x.length 1 = i :: rest ∧ P (.int (i : Nat)) μ2)
    (hbase : attributeBase o "index" S.X.env (eval o S.X.env) = eval o S.X.env := by rfl) (hline : (apos.endLine == cpos.line) = true := by rfl) (hs : starEach [e] S.X.env = (false, eval e S.X.env) :: starEach [] S.X.env := by rfl) :
    E S (.Call (.Attribute o "index" apos) [e] [] cpos) env μ P := by
  refine e_bm PySem.F.plainAttrs_str PySem.F.slot_str_index PySem.F.type_str_index (h.imp fun d μ1 ⟨x, e1, h2⟩ => ?_) hbase (by rw [hs]; rfl) hline hs (by rfl)
  subst e1
  exact ⟨ty_str, a_cons (h2.imp fun d2 μ2 ⟨y, i, rest, e2, ho, p⟩ => a_nil (e2 ▸ m_sindex ho p)) hs⟩
end
end Me

/-! Me46: y = {..}, a dict comprehension that goes to a plain local. -/
namespace Me
open PySem PySem.Spec PyProof.Rows L2
section
variable {X : Cx}
theorem ps_setDcG {i : Nat} {y : Str} {py : Pos} {o0 : HO} {kx vx tg iter : Expr} {ifs : List Expr} {scope : Scope} {own : List (Str × Nat)} {pos spos : Pos} {wi : TI} {g : TG} {tt : TT} {tk tv : TE}
    (new : ∀ (H : Hp) (h : Heap), sysModules < h.objs.size → ObjOk X.prog X.w H (h.push newD) h.objs.size o0) (hu : X.A.units + 1 < cLine) (hc : X.calm = true) (hN : X.N.Nodup) (hy : X.N[i]? = some y) (hyl : X.env.scope.names.lookup y = some .local)
    (hsw : swapsWith (.DictComp kx vx [⟨tg, iter, ifs, 0⟩] scope pos) (some (.Name y py)) spos.line X.env = pure true) (hi : L2.PI X tg iter wi) (ok : BlkOk X.N X.env.scope scope own) (hg : InB X scope fun B => PG B tg g) (ht : InB X scope fun B => PTs B ifs tt)
    (hk : InB X scope fun B => PE B kx tk) (he : InB X scope fun B => PE B vx tv) (hs : ∀ x, foldedSetIterable iter X.env x = pure x) :
    PS X (.Assign [.Name y py] (.DictComp kx vx [⟨tg, iter, ifs, 0⟩] scope pos) spos) (tAsg (tDcG o0 wi g tt tk tv (own.map (·.2))) (gName i)) := by
  refine ⟨fun pins s σ H D I h => ?_⟩
  rw [exec_Assign_Name_used _ _ _ _ hsw]
  refine wpAny_bind (wpAny_standAt (wpAny_bind ?_))
  show wpAny _ X.A (do let _ ← comprehension (.DictComp kx vx [⟨tg, iter, ifs, 0⟩] scope pos) scope X.env (firstIterPos [⟨tg, iter, ifs, 0⟩] pos) newDict false (eval iter X.env) (some (assign (.Name y py) X.env))) _ _ s
  have h : tDcG o0 wi g tt tk tv (own.map (·.2)) σ H (fun x H1 => gName i x σ H1 D.nx) := h
  refine wpAny_bind (thn (dcG_run (Qf := fun _ s' => SP X pins D .next s') new hu hc hN I hi ok hg ht hk he hs h fun L C s' m H' I' q hn f => ?_) fun _ s' hq => wpAny_pure (wpAny_pure hq))
  show wpAny _ _ (assign (.Name y py) X.env (.ref L)) _ _ _
  refine wpAny_assign_Name (store_ok2 (v := V.ref L) I' hN hy (.inl hyl) rfl (fun s2 I2 ⟨a, sb, ha⟩ => ?_) (.inr hyl))
  obtain ⟨f0, f1, f2, f3, f4, f5⟩ := f
  have haC : C ≠ a := by
    rcases ha with z | z
    · rw [z]; exact f1
    · exact fun e => f4 y a z e.symm
  refine ⟨m, hn.sameBut sb haC, fun h3 sb3 => ?_⟩
  exact ⟨_, H', I2.turned (t' := s2.toks) (fun b o hb e => (sb3.2 b hb).trans e) f0 f1 f3 f4 f5, q⟩
theorem ps_setDc2 {i : Nat} {y : Str} {py : Pos} {o0 : HO} {kx vx tg iter tg1 iter1 : Expr} {ifs ifs1 : List Expr} {scope : Scope} {own : List (Str × Nat)} {vs1 : List Nat} {pos spos : Pos} {wi wi1 : TI} {g g1 : TG} {tt tt1 : TT} {tk tv : TE}
    (new : ∀ (H : Hp) (h : Heap), sysModules < h.objs.size → ObjOk X.prog X.w H (h.push newD) h.objs.size o0) (hu : X.A.units + 1 < cLine) (hc : X.calm = true) (hN : X.N.Nodup) (hy : X.N[i]? = some y) (hyl : X.env.scope.names.lookup y = some .local)
    (hsw : swapsWith (.DictComp kx vx [⟨tg, iter, ifs, 0⟩, ⟨tg1, iter1, ifs1, 0⟩] scope pos) (some (.Name y py)) spos.line X.env = pure true) (hi : L2.PI X tg iter wi) (ok : BlkOk X.N X.env.scope scope own) (hv : ∀ i ∈ vs1, i ∈ own.map (·.2)) (hg : InB X scope fun B => PG B tg g) (ht : InB X scope fun B => PTs B ifs tt)
    (hi1 : InB X scope fun B => L2.PI B tg1 iter1 wi1) (hg1 : InB X scope fun B => PG B tg1 g1) (ht1 : InB X scope fun B => PTs B ifs1 tt1)
    (hk : InB X scope fun B => PE B kx tk) (he : InB X scope fun B => PE B vx tv) (hs : ∀ x, foldedSetIterable iter X.env x = pure x) (hs1 : ∀ env x, foldedSetIterable iter1 env x = pure x) :
    PS X (.Assign [.Name y py] (.DictComp kx vx [⟨tg, iter, ifs, 0⟩, ⟨tg1, iter1, ifs1, 0⟩] scope pos) spos) (tAsg (tDc2 o0 wi g tt wi1 g1 tt1 tk tv (own.map (·.2)) vs1) (gName i)) := by
  refine ⟨fun pins s σ H D I h => ?_⟩
  rw [exec_Assign_Name_used _ _ _ _ hsw]
  refine wpAny_bind (wpAny_standAt (wpAny_bind ?_))
  show wpAny _ X.A (do let _ ← comprehension (.DictComp kx vx [⟨tg, iter, ifs, 0⟩, ⟨tg1, iter1, ifs1, 0⟩] scope pos) scope X.env (firstIterPos [⟨tg, iter, ifs, 0⟩, ⟨tg1, iter1, ifs1, 0⟩] pos) newDict false (eval iter X.env) (some (assign (.Name y py) X.env))) _ _ s
  have h : tDc2 o0 wi g tt wi1 g1 tt1 tk tv (own.map (·.2)) vs1 σ H (fun x H1 => gName i x σ H1 D.nx) := h
  refine wpAny_bind (thn (dc2_run (Qf := fun _ s' => SP X pins D .next s') new hu hc hN I hi ok hv hg ht hi1 hg1 ht1 hk he hs hs1 h fun L C s' m H' I' q hn f => ?_) fun _ s' hq => wpAny_pure (wpAny_pure hq))
  show wpAny _ _ (assign (.Name y py) X.env (.ref L)) _ _ _
  refine wpAny_assign_Name (store_ok2 (v := V.ref L) I' hN hy (.inl hyl) rfl (fun s2 I2 ⟨a, sb, ha⟩ => ?_) (.inr hyl))
  obtain ⟨f0, f1, f2, f3, f4, f5⟩ := f
  have haC : C ≠ a := by
    rcases ha with z | z
    · rw [z]; exact f1
    · exact fun e => f4 y a z e.symm
  refine ⟨m, hn.sameBut sb haC, fun h3 sb3 => ?_⟩
  exact ⟨_, H', I2.turned (t' := s2.toks) (fun b o hb e => (sb3.2 b hb).trans e) f0 f1 f3 f4 f5, q⟩
end
section
variable {S : Sc} {env : En} {μ : Mu} {kx vx tg iter tg1 iter1 : Expr} {ifs ifs1 : List Expr} {pos spos p0 p1 p2 : Pos} {x y z : Str} {scope : Scope} {P : KD} {rest : List Stmt} {R : Out → Prop}
theorem rd_dcG {rel : D → En → En → Prop} (t : Bool) (vs : List Nat) {σ : L2.St} {H : Hp} {Q : VK} {F : Hp} {as : List Ad} (a : At S env μ σ H F as) (k : Kv S F H as P Q) :
    tDcG (emptyO t) (rdI S env μ fun ds Sx μ1 => ∃ I, CompD S scope rel vs kx vx ifs env t I ds Sx μ1 fun acc m => P (.cell m.length) (m ++ [.dct t none acc])) (rdG S rel vs) (rdTT S scope ifs) (rdEE S scope kx) (rdEE S scope vx) vs σ H Q := by
  refine ⟨F, as, a, fun ds Sx μ1 J F1 H1 as1 ⟨I, L⟩ g1 W1 ⟨G, Y, w, hG, hY⟩ D0 nD => ?_⟩
  refine ⟨fun n mm H2 => mm = ds.length - n ∧ n ≤ ds.length ∧ ∃ acc m F2 as2, I n acc m ∧ acc.length ≤ n ∧ Wd S.Γ F2 H2 as2 m ∧ Go F1 H1 as1 F2 H2 as2 ∧ DctO S.Γ F2 H2 as2 D0 t acc ∧ F2 D0 = none ∧ D0 ∉ ads as2, ?_, ?_⟩
  · obtain ⟨f1, f2⟩ := W1.nofree nD
    refine ⟨_, rfl, Nat.zero_le _, [], μ1, F1, as1, L.start, Nat.le_refl _, W1.off f1 f2, (Go.refl _ _ _).off nD, ?_, f1, f2⟩
    cases t with
    | false => exact ⟨[], upd_same, .nil⟩
    | true => exact ⟨[], upd_same, .nil⟩
  rintro n mm H2 ⟨rfl, hn, acc, m, F2, as2, i2, l2, W2, g2, dc, nF, na⟩
  have gg := hG F2 H2 as2 m g2 W2 (L.stay n acc m i2)
  by_cases hlt : n < ds.length
  · refine .inr ⟨w.goes n H2 hlt gg, fun H' => n + 1 ≤ ds.length ∧ ∃ acc m F2 as2, I (n + 1) acc m ∧ acc.length ≤ n + 1 ∧ Wd S.Γ F2 H' as2 m ∧ Go F1 H1 as1 F2 H' as2 ∧ DctO S.Γ F2 H' as2 D0 t acc ∧ F2 D0 = none ∧ D0 ∉ ads as2, fun H' z => ⟨ds.length - (n + 1), by omega, rfl, z.1, z.2⟩, fun v H' y => ?_⟩
    obtain ⟨F3, d, hd1, g3, W3, dvd⟩ := hY n F2 H2 as2 m v H' g2 W2 (L.stay n acc m i2) (w.yields n H2 v H' hlt gg y) hlt
    obtain ⟨dc3, nF3, na3⟩ := dc.apart g3 nF na
    obtain ⟨env2, PB, r2, ht, hh⟩ := L.turn n d acc m hd1 i2
    refine ⟨d, wipeE env vs, env2, F3, as2, r2, dvd, W3.sub, (((a.e.mono g1).mono g2).mono g3).wipe vs, fun σ2 e2 hw => ⟨by rw [hw, wipe_wipe], env2, m, PB, F3, as2, ht, e2, W3, fun q m1 F4 H4 as4 p4 g4 W4 => ?_⟩⟩
    obtain ⟨dc4, nF4, na4⟩ := dc3.apart g4 nF3 na3
    obtain ⟨hT, hF⟩ := hh q m1 p4
    cases q with
    | true =>
      obtain ⟨PK, hk, hkv⟩ := hT rfl
      refine ⟨env2, m1, PK, F4, as4, hk, e2.mono g4, W4, fun dk m2 u F5 H5 as5 p5 g5 W5 r5 => ?_⟩
      obtain ⟨dc5, nF5, na5⟩ := dc4.apart g5 nF4 na4
      obtain ⟨key, ek, hv⟩ := hkv dk m2 p5
      refine ⟨env2, m2, _, F5, as5, hv, (e2.mono g4).mono g5, W5, fun d' m3 u2 F6 H6 as6 i3 g6 W6 r6 => ?_⟩
      obtain ⟨dc6, nF6, na6⟩ := dc5.apart g6 nF5 na5
      obtain ⟨o, dp, dc7⟩ := dc6.put W6.sub (r5.mono g6) ek r6 (by have := L.size; omega)
      refine ⟨_, dp, hlt, putD acc key d', m3, F6, as6, i3, ?_, W6.off nF6 na6, ((((g2.trans g3).trans g4).trans g5).trans g6).off nD, dc7, nF6, na6⟩
      have := putD_len acc key d'
      omega
    | false => exact ⟨hlt, acc, m1, F4, as4, hF rfl, by omega, W4, (g2.trans g3).trans g4, dc4, nF4, na4⟩
  · have e : n = ds.length := by omega
    subst e
    refine .inl ⟨w.stops H2 gg, ?_⟩
    obtain ⟨W5, g5⟩ := dc.cell (W2.era nF na) nF
    exact k _ _ _ _ _ _ (L.done acc m i2) ((g1.trans (g2.era nD)).trans g5) W5 (.cell (ad := ⟨D0, none⟩) ((W2.era nF na).last _))
theorem b_setDcG {rel : D → En → En → Prop} (t : Bool) (j : Nat) (own : List (Str × Nat)) (hc : S.X.calm = true) (ok : BlkOk S.X.N S.X.env.scope scope own) (hg : AllB S scope fun S' => Tg S' tg rel (own.map fun x : Str × Nat => x.2))
    (hsw : swapsWith (.DictComp kx vx [⟨tg, iter, ifs, 0⟩] scope pos) (some (.Name z p0)) spos.line S.X.env = pure true)
    (h : Iter S tg iter env μ fun ds Sx μ1 => ∃ I, CompD S scope rel (own.map fun x : Str × Nat => x.2) kx vx ifs env t I ds Sx μ1 fun acc m => B S rest (env.set j (some (.cell m.length))) (m ++ [.dct t none acc]) R)
    (hz : S.X.N[j]? = some z := by rfl) (hzl : S.X.env.scope.names.lookup z = some .local := by rfl) (hf : ∀ x, foldedSetIterable iter S.X.env x = pure x := by intro _; rfl) :
    B S (.Assign [.Name z p0] (.DictComp kx vx [⟨tg, iter, ifs, 0⟩] scope pos) spos :: rest) env μ R := by
  refine b_cons (PS.imp (ps_setDcG (i := j) (own := own) (o0 := emptyO t) (g := rdG S rel (own.map fun x : Str × Nat => x.2)) (tt := rdTT S scope ifs) (tk := rdEE S scope kx) (tv := rdEE S scope vx) (empty_ok t) (by have := S.hu; omega) hc S.hN hz hzl hsw h ok hg pts_all pe_all pe_all hf) fun Dx σ H ⟨F, as, a, k⟩ => ?_)
  refine rd_dcG (P := fun d m => B S rest (env.set j (some d)) m R) (Q := fun x H1 => gName j x σ H1 Dx.nx) t _ a fun d m v F2 H2 as2 p2 g2 W2 r2 => ?_
  exact k.nx _ m _ F2 H2 as2 p2 g2 ((a.e.mono g2).set r2 j) W2
theorem b_setDc (t : Bool) (j i : Nat) (hc : S.X.calm = true) (ok : BlkOk S.X.N S.X.env.scope scope [(x, i)])
    (hsw : swapsWith (.DictComp kx vx [⟨.Name x p1, iter, ifs, 0⟩] scope pos) (some (.Name z p0)) spos.line S.X.env = pure true)
    (h : Iter S (.Name x p1) iter env μ fun ds Sx μ1 => ∃ I, CompD S scope (rName i) [i] kx vx ifs env t I ds Sx μ1 fun acc m => B S rest (env.set j (some (.cell m.length))) (m ++ [.dct t none acc]) R)
    (hn : S.X.N[i]? = some x := by rfl) (hx : NameOk S scope x := by exact fun _ _ _ _ _ => ⟨by first | exact .inl rfl | exact .inr rfl, by first | exact .inl rfl | exact .inr rfl⟩)
    (hz : S.X.N[j]? = some z := by rfl) (hzl : S.X.env.scope.names.lookup z = some .local := by rfl) (hf : ∀ x, foldedSetIterable iter S.X.env x = pure x := by intro _; rfl) :
    B S (.Assign [.Name z p0] (.DictComp kx vx [⟨.Name x p1, iter, ifs, 0⟩] scope pos) spos :: rest) env μ R :=
  b_setDcG (rel := rName i) t j [(x, i)] hc ok (fun s H C cl fp => g_name (S := Blk S scope s H C cl fp) i hn (hx s H C cl fp).1 (hx s H C cl fp).2) hsw h hz hzl hf
theorem b_setDc2G {rel rel1 : D → En → En → Prop} (t : Bool) (l : Nat) (own : List (Str × Nat)) (vs1 : List Nat) (hc : S.X.calm = true) (ok : BlkOk S.X.N S.X.env.scope scope own) (hv : ∀ i ∈ vs1, i ∈ own.map (·.2)) (hg : AllB S scope fun S' => Tg S' tg rel (own.map fun x : Str × Nat => x.2)) (hg1 : AllB S scope fun S' => Tg S' tg1 rel1 vs1)
    (hsw : swapsWith (.DictComp kx vx [⟨tg, iter, ifs, 0⟩, ⟨tg1, iter1, ifs1, 0⟩] scope pos) (some (.Name z p0)) spos.line S.X.env = pure true) (hP : P = fun d m => B S rest (env.set l (some d)) m R)
    (h : Iter S tg iter env μ fun ds Sx μ1 => ∃ I, CompO S scope rel rel1 (own.map fun x : Str × Nat => x.2) vs1 kx vx tg1 iter1 ifs ifs1 env t μ1.length I ds Sx (μ1 ++ [.dct t none []]) (P (.cell μ1.length)))
    (hz : S.X.N[l]? = some z := by rfl) (hzl : S.X.env.scope.names.lookup z = some .local := by rfl)
    (hf : ∀ x, foldedSetIterable iter S.X.env x = pure x := by intro _; rfl) (hf1 : ∀ env x, foldedSetIterable iter1 env x = pure x := by intro _ _; rfl) :
    B S (.Assign [.Name z p0] (.DictComp kx vx [⟨tg, iter, ifs, 0⟩, ⟨tg1, iter1, ifs1, 0⟩] scope pos) spos :: rest) env μ R := by
  subst hP
  refine b_cons (PS.imp (ps_setDc2 (i := l) (o0 := emptyO t) (own := own) (vs1 := vs1) (g := rdG S rel (own.map fun x : Str × Nat => x.2)) (g1 := rdG S rel1 vs1) (tt := rdTT S scope ifs) (tt1 := rdTT S scope ifs1) (wi1 := rdII S scope tg1 iter1) (tk := rdEE S scope kx) (tv := rdEE S scope vx) (empty_ok t) (by have := S.hu; omega) hc S.hN hz hzl hsw h ok hv hg pts_all pi_all hg1 pts_all pe_all pe_all hf hf1) fun Dx σ H ⟨F, as, a, k⟩ => ?_)
  refine rd_dc2G (P := fun d m => B S rest (env.set l (some d)) m R) (Q := fun x H1 => gName l x σ H1 Dx.nx) t _ vs1 (fun σ H R z => z) a fun d m v F2 H2 as2 p2 g2 W2 r2 => ?_
  exact k.nx _ m _ F2 H2 as2 p2 g2 ((a.e.mono g2).set r2 l) W2
theorem b_setDc2 (t : Bool) (l i j : Nat) (hc : S.X.calm = true) (ok : BlkOk S.X.N S.X.env.scope scope [(x, i), (y, j)])
    (hsw : swapsWith (.DictComp kx vx [⟨.Name x p1, iter, ifs, 0⟩, ⟨.Name y p2, iter1, ifs1, 0⟩] scope pos) (some (.Name z p0)) spos.line S.X.env = pure true) (hP : P = fun d m => B S rest (env.set l (some d)) m R)
    (h : Iter S (.Name x p1) iter env μ fun ds Sx μ1 => ∃ I, CompO S scope (rName i) (rName j) [i, j] [j] kx vx (.Name y p2) iter1 ifs ifs1 env t μ1.length I ds Sx (μ1 ++ [.dct t none []]) (P (.cell μ1.length)))
    (hn : S.X.N[i]? = some x := by rfl) (hx : NameOk S scope x := by exact fun _ _ _ _ _ => ⟨by first | exact .inl rfl | exact .inr rfl, by first | exact .inl rfl | exact .inr rfl⟩)
    (hm : S.X.N[j]? = some y := by rfl) (hy : NameOk S scope y := by exact fun _ _ _ _ _ => ⟨by first | exact .inl rfl | exact .inr rfl, by first | exact .inl rfl | exact .inr rfl⟩)
    (hz : S.X.N[l]? = some z := by rfl) (hzl : S.X.env.scope.names.lookup z = some .local := by rfl) (hij : i ≠ j := by decide)
    (hf : ∀ x, foldedSetIterable iter S.X.env x = pure x := by intro _; rfl) (hf1 : ∀ env x, foldedSetIterable iter1 env x = pure x := by intro _ _; rfl) :
    B S (.Assign [.Name z p0] (.DictComp kx vx [⟨.Name x p1, iter, ifs, 0⟩, ⟨.Name y p2, iter1, ifs1, 0⟩] scope pos) spos :: rest) env μ R := by
  refine b_setDc2G (rel := rName i) (rel1 := rName j) t l [(x, i), (y, j)] [j] hc ok (by simp) ?_ (fun s H C cl fp => g_name (S := Blk S scope s H C cl fp) j hm (hy s H C cl fp).1 (hy s H C cl fp).2) hsw hP h hz hzl hf hf1
  intro s H C cl fp
  have zg := g_name (S := Blk S scope s H C cl fp) (pos := p1) i hn (hx s H C cl fp).1 (hx s H C cl fp).2
  refine ⟨fun pins s2 σ H2 v u Q I r ⟨d, env1, env', F, as, h1, dv, sm, he, k⟩ => zg.run pins s2 σ H2 v u Q I r ⟨d, env1, env', F, as, h1, dv, sm, he, fun σ' e' hw => k σ' e' ?_⟩⟩
  show (L2.wipe σ' [j]).set i none = (L2.wipe σ [j]).set i none
  have hw : σ'.set i none = σ.set i none := hw
  show (σ'.set j none).set i none = (σ.set j none).set i none
  rw [List.set_comm _ _ (Ne.symm hij), hw, List.set_comm _ _ hij]
theorem b_setDc2P (t : Bool) (l i j : Nat) (gI : D → List D) (g : D → D → Option (DK × D)) (hc : S.X.calm = true) (ok : BlkOk S.X.N S.X.env.scope scope [(x, i), (y, j)])
    (hsw : swapsWith (.DictComp kx vx [⟨.Name x p1, iter, [], 0⟩, ⟨.Name y p2, iter1, ifs1, 0⟩] scope pos) (some (.Name z p0)) spos.line S.X.env = pure true)
    (h : Iter S (.Name x p1) iter env μ fun ds Sx μ1 => μ1 = μ ∧ (∀ ps, Sx (dcW μ t ps)) ∧ (ds.flatMap gI).length ≤ sizeLine ∧
      (∀ (k : Nat) d, ds[k]? = some d → ∀ ps, AllB S scope fun S' => Iter S' (.Name y p2) iter1 (((wipeE env [i, j])).set i (some d)) (dcW μ t ps) fun ds1 Sx1 m2 => ds1 = gI d ∧ m2 = dcW μ t ps ∧ ∀ ps, Sx1 (dcW μ t ps)) ∧
      (∀ (k : Nat) d, ds[k]? = some d → ∀ (l : Nat) d1, (gI d)[l]? = some d1 → ∀ ps, ∃ q, AllB S scope (fun S' => Ts S' ifs1 ((wipeE (((wipeE env [i, j])).set i (some d)) [j]).set j (some d1)) (dcW μ t ps) fun b m => b = q ∧ m = dcW μ t ps) ∧ (q = false → g d d1 = none) ∧
        (q = true → ∃ key v dk, g d d1 = some (key, v) ∧ asDK t dk = some key ∧ AllB S scope (fun S' => E S' kx ((wipeE (((wipeE env [i, j])).set i (some d)) [j]).set j (some d1)) (dcW μ t ps) fun x m => x = dk ∧ m = dcW μ t ps) ∧
          AllB S scope (fun S' => E S' vx ((wipeE (((wipeE env [i, j])).set i (some d)) [j]).set j (some d1)) (dcW μ t ps) fun x m => x = v ∧ m = dcW μ t ps))) ∧
      B S rest (env.set l (some (.cell μ.length))) (dcW μ t (ds.flatMap fun d => (gI d).filterMap (g d))) R)
    (hn : S.X.N[i]? = some x := by rfl) (hx : NameOk S scope x := by exact fun _ _ _ _ _ => ⟨by first | exact .inl rfl | exact .inr rfl, by first | exact .inl rfl | exact .inr rfl⟩)
    (hm : S.X.N[j]? = some y := by rfl) (hy : NameOk S scope y := by exact fun _ _ _ _ _ => ⟨by first | exact .inl rfl | exact .inr rfl, by first | exact .inl rfl | exact .inr rfl⟩)
    (hz : S.X.N[l]? = some z := by rfl) (hzl : S.X.env.scope.names.lookup z = some .local := by rfl) (hij : i ≠ j := by decide)
    (hf : ∀ x, foldedSetIterable iter S.X.env x = pure x := by intro _; rfl) (hf1 : ∀ env x, foldedSetIterable iter1 env x = pure x := by intro _ _; rfl) :
    B S (.Assign [.Name z p0] (.DictComp kx vx [⟨.Name x p1, iter, [], 0⟩, ⟨.Name y p2, iter1, ifs1, 0⟩] scope pos) spos :: rest) env μ R := by
  refine b_setDc2 t l i j hc ok hsw rfl (PI.imp h fun σ H R ⟨F, as, a, k⟩ => ⟨F, as, a, fun ds Sx μ1 J F1 H1 as1 p g1 W iw => k ds Sx μ1 J F1 H1 as1 ?_ g1 W iw⟩) hn hx hm hy hz hzl hij hf hf1
  obtain ⟨rfl, hS, hzz, hI, hE, hP⟩ := p
  have len : ∀ (l : List D), (l.flatMap fun d => (gI d).filterMap (g d)).length ≤ (l.flatMap gI).length := by
    intro l
    induction l with
    | nil => exact Nat.le_refl _
    | cons d l ih =>
      rw [List.flatMap_cons, List.flatMap_cons, List.length_append, List.length_append]
      have := List.length_filterMap_le (g d) (gI d)
      omega
  refine ⟨fun k m => m = dcW μ1 t ((ds.take k).flatMap fun d => (gI d).filterMap (g d)), rfl, fun k m e => e ▸ hS _, fun k d m hd e => ?_, fun m e => ?_⟩
  · subst e
    refine ⟨_, _, rfl, fun s H C cl fp => ts_nil (PB := fun b m' => b = true ∧ m' = dcW μ1 t ((ds.take k).flatMap fun d => (gI d).filterMap (g d))) ⟨rfl, rfl⟩, fun q m1 ⟨e1, e2⟩ => ⟨fun _ => ?_, fun z => ?_⟩⟩
    · subst e2
      refine ⟨_, hI k d hd _, fun ds1 Sx1 m2 ⟨e3, e4, hS1⟩ => ?_⟩
      subst e3 e4
      refine ⟨fun l m => m = dcW μ1 t ((ds.take k).flatMap (fun d => (gI d).filterMap (g d)) ++ ((gI d).take l).filterMap (g d)), by rw [List.take_zero, List.filterMap_nil, List.append_nil], fun l m e => e ▸ hS1 _, fun l d1 m hd1 e => ?_, fun m e => ?_⟩
      · subst e
        obtain ⟨q1, ht, hF, hT⟩ := hE k d hd l d1 hd1 ((ds.take k).flatMap (fun d => (gI d).filterMap (g d)) ++ ((gI d).take l).filterMap (g d))
        refine ⟨_, _, rfl, ht, fun b m3 ⟨e5, e6⟩ => ?_⟩
        subst e5 e6
        refine ⟨fun z => ?_, fun z => ?_⟩
        · obtain ⟨key, v, dk, eg, ek, h1, h2⟩ := hT z
          refine ⟨_, h1, fun dk2 m4 ⟨e7, e8⟩ => ?_⟩
          subst e7 e8
          refine ⟨key, ek, fun s H C cl fp => (h2 s H C cl fp).imp fun x m ⟨e9, e10⟩ => ?_⟩
          subst e9 e10
          refine ⟨_, by rw [List.getElem?_append_right (Nat.le_refl _), Nat.sub_self]; rfl, ?_, ?_⟩
          · refine Nat.lt_of_le_of_lt (foldD_len _) (Nat.lt_of_lt_of_le ?_ hzz)
            have hl := (List.getElem?_eq_some_iff.mp hd1).1
            have hk := (List.getElem?_eq_some_iff.mp hd).1
            have e11 : ds = ds.take k ++ d :: ds.drop (k + 1) := by
              have z := (List.take_append_drop k ds).symm
              rw [List.drop_eq_getElem_cons hk] at z
              rw [(List.getElem?_eq_some_iff.mp hd).2] at z
              exact z
            rw [List.length_append]
            have h3 := len (ds.take k)
            have h4 := List.length_filterMap_le (g d) ((gI d).take l)
            rw [List.length_take] at h4
            have h5 : (ds.flatMap gI).length = ((ds.take k).flatMap gI).length + ((gI d).length + ((ds.drop (k + 1)).flatMap gI).length) := by
              conv => lhs; rw [e11]
              rw [List.flatMap_append, List.flatMap_cons, List.length_append, List.length_append]
            omega
          · show (μ1 ++ [Cell.dct t none _]).set μ1.length _ = μ1 ++ [_]
            rw [List.set_append_right _ _ (Nat.le_refl _), Nat.sub_self]
            show μ1 ++ [Cell.dct t none _] = μ1 ++ [Cell.dct t none _]
            rw [take_snoc hd1, List.filterMap_append, ← List.append_assoc]
            have e12 : [d1].filterMap (g d) = [(key, x)] := by simp [eg]
            rw [e12, foldD_snoc]
        · rw [take_snoc hd1, List.filterMap_append, ← List.append_assoc]
          have e12 : [d1].filterMap (g d) = [] := by simp [hF z]
          rw [e12, List.append_nil]
      · subst e
        rw [List.take_length, take_snoc hd, List.flatMap_append]
        simp
    · rw [e1] at z; exact nomatch z
  · subst e
    rw [List.take_length]
    exact hP
end
end Me

/-! Me47: a local list becomes stable. -/
namespace Me
open PySem PySem.Spec PyProof.Rows L2
theorem EnvOk.see {Γ : Gam} {F : Hp} {as : List Ad} {env : En} {σ : L2.St} {i : Nat} {d d' : D} (h : EnvOk Γ F as env σ) (hi : env[i]? = some (some d)) (hd : ∀ v, DV Γ F as v d → DV Γ F as v d') : EnvOk Γ F as (env.set i (some d')) σ := by
  refine ⟨by rw [List.length_set]; exact h.1, fun k e hk => ?_⟩
  rw [List.getElem?_set] at hk
  split at hk
  · rename_i e1
    subst e1
    split at hk
    · obtain rfl := Option.some.inj (Option.some.inj hk)
      obtain ⟨v, h1, h2⟩ := h.2 _ _ hi
      exact ⟨v, h1, hd v h2⟩
    · exact nomatch hk
  · exact h.2 k e hk
theorem Wd.frzGo {Γ : Gam} {F H : Hp} {as : List Ad} {μ : Mu} {j : Nat} {ad : Ad} {o : HO} (W : Wd Γ F H as μ) (ha : as[j]? = some ad) (hv : H ad.a = some o) (nF : F ad.a = none) : Wd Γ (upd F ad.a o) H as (μ.set j .dead) ∧ Go F H as (upd F ad.a o) H as := by
  obtain ⟨W', sF⟩ := W.freeze ha hv nF
  refine ⟨W', fun _ _ h _ => h, fun _ h => h, sF, fun a h h' => ?_, [], (List.append_nil as).symm, fun _ h => nomatch h⟩
  by_cases e : a = ad.a
  · exact .inr (.inl (e ▸ List.mem_map.mpr ⟨ad, List.mem_of_getElem? ha, rfl⟩))
  · rw [upd_ne e] at h'
    exact absurd h h'
section
variable {S : Sc} {env : En} {μ : Mu} {rest : List Stmt} {R : Out → Prop}
theorem b_frz (i j : Nat) {ds : List D} (hi : env[i]? = some (some (.cell j))) (hj : μ[j]? = some (.lst ds)) (h : B S rest (env.set i (some (.lst ds))) (μ.set j .dead) R) : B S rest env μ R := by
  refine PSs.imp h fun Dx σ H ⟨F, as, a, k⟩ => ?_
  obtain ⟨v, h1, h2⟩ := a.e.2 i _ hi
  cases h2 with
  | @cell _ ad ha =>
    obtain ⟨_, nF, vs, hv, dv⟩ := a.w.ok j ad _ ha hj
    obtain ⟨W', g⟩ := a.w.frzGo ha hv nF
    refine ⟨_, as, ⟨(a.e.mono g).see hi fun u r => ?_, W', a.k.go g⟩, k.go g⟩
    cases r with
    | cell hb =>
      rw [ha] at hb
      obtain rfl := Option.some.inj hb
      exact .lst upd_same (dv.mono g)
theorem b_frzI (i j : Nat) {c : String} {fs : List (Str × D)} (hi : env[i]? = some (some (.cell j))) (hj : μ[j]? = some (.ins c fs)) (h : B S rest (env.set i (some (.ins c fs))) (μ.set j .dead) R) : B S rest env μ R := by
  refine PSs.imp h fun Dx σ H ⟨F, as, a, k⟩ => ?_
  obtain ⟨v, h1, h2⟩ := a.e.2 i _ hi
  cases h2 with
  | @cell _ ad ha =>
    obtain ⟨_, nF, C, dx, vs, hc, hv, dv⟩ := a.w.ok j ad _ ha hj
    obtain ⟨W', g⟩ := a.w.frzGo ha hv nF
    refine ⟨_, as, ⟨(a.e.mono g).see hi fun u r => ?_, W', a.k.go g⟩, k.go g⟩
    cases r with
    | cell hb =>
      rw [ha] at hb
      obtain rfl := Option.some.inj hb
      exact .ins upd_same hc (dv.mono g)
end
end Me

/-! LM1: the laws' bag and the laws' data. -/
namespace Lm
open PySem PySem.Spec PyProof.Rows L2 Me

/-- the laws' bag -/
structure Bag where
  a : Int
  seed : Int
  i : Int
  cells : List Int
def bagD (s : Bag) : List D := [.int s.a, .int s.seed, .int s.i, .lst (s.cells.map D.int)]
def bagC (s : Bag) : Cell := .lst (bagD s)
structure Good (s : Bag) : Prop where
  a0 : 0 ≤ s.a
  s0 : 0 ≤ s.seed
  s1 : s.seed < 2147483647
  i0 : 0 ≤ s.i
def cellOf (s : Bag) : Int := if s.i < s.cells.length then s.cells.getD s.i.toNat 0 else 0
def fill (s : Bag) : Bag := if s.a = 0 then
    ⟨if 1000000000000000000 ≤ cellOf s then cellOf s else 0, (s.seed * 48271 + (cellOf s % 2147483647 + 7919 * (s.i + 1))) % 2147483647, s.i + 1, s.cells⟩
  else s
def takeV (s : Bag) (n : Int) : Int := if 0 < (fill s).a then (fill s).a % n else ((fill s).seed * 48271 + 11) % 2147483647 / 64 % n
def takeS (s : Bag) (n : Int) : Bag := if 0 < (fill s).a then { fill s with a := (fill s).a / n } else { fill s with seed := ((fill s).seed * 48271 + 11) % 2147483647 }
theorem fill_good {s : Bag} (h : Good s) : Good (fill s) := by
  unfold fill
  split
  · refine ⟨?_, Int.emod_nonneg _ (by decide), Int.emod_lt_of_pos _ (by decide), ?_⟩
    · show 0 ≤ if 1000000000000000000 ≤ cellOf s then cellOf s else 0
      split <;> omega
    · show 0 ≤ s.i + 1
      have := h.i0
      omega
  · exact h
theorem takeS_good {s : Bag} {n : Int} (h : Good s) (hn : 0 < n) : Good (takeS s n) := by
  have f := fill_good h
  unfold takeS
  split
  · exact ⟨Int.ediv_nonneg f.a0 (Int.le_of_lt hn), f.s0, f.s1, f.i0⟩
  · exact ⟨f.a0, Int.emod_nonneg _ (by decide), Int.emod_lt_of_pos _ (by decide), f.i0⟩
theorem takeV_nonneg {s : Bag} {n : Int} (hn : 0 < n) : 0 ≤ takeV s n := by
  unfold takeV
  split <;> exact Int.emod_nonneg _ (by omega)
theorem takeV_lt {s : Bag} {n : Int} (hn : 0 < n) : takeV s n < n := by
  unfold takeV
  split <;> exact Int.emod_lt_of_pos _ hn
/-- data that == and repr take: how deep at most, how long its text at most -/
structure Ok (d : PyData) (h n : Nat) : Prop where
  lay : d.canLay0 = true
  shw : d.showable = true
  dep : d.depth ≤ h
  txt : d.shown.length ≤ n
theorem Ok.mono {d : PyData} {h n h' n' : Nat} (o : Ok d h n) (a : h ≤ h') (b : n ≤ n') : Ok d h' n' := ⟨o.lay, o.shw, Nat.le_trans o.dep a, Nat.le_trans o.txt b⟩
theorem str_len_append (a b : Str) : (a ++ b).length = a.length + b.length := by
  show (a.cps ++ b.cps).size = a.cps.size + b.cps.size
  exact Array.size_append
theorem Ok.none : Ok .none 0 4 := ⟨rfl, rfl, Nat.le_refl _, by decide⟩
theorem Ok.bool (b : Bool) : Ok (.bool b) 0 5 := by cases b <;> exact ⟨rfl, rfl, Nat.le_refl _, by decide⟩
theorem Ok.str {x : Str} (h : PyData.strOk x = true) {n : Nat} (hn : x.length ≤ n) : Ok (.str x) 0 (10 * n + 2) := by
  refine ⟨by simpa [PyData.canLay0] using h, rfl, Nat.le_refl _, ?_⟩
  have k := StrLaws.reprText_len x fun c hc => by
    have := h
    unfold PyData.strOk at this
    rw [Array.all_eq_true'] at this
    have z := of_decide_eq_true (this c (Array.mem_toList_iff.mp hc))
    omega
  show (reprText x).length ≤ _
  omega
theorem textFrom_le : ∀ (ts : List Str) (k : Nat) (acc : Str), (textFrom k acc ts).length ≤ acc.length + piled ts
  | [], k, acc => Nat.le_refl _
  | t :: r, k, acc => by
    have ih := textFrom_le r (k + 1) (acc ++ (if k > 0 then ", " else "" : String) ++ t)
    rw [str_len_append, str_len_append] at ih
    rw [piled_cons]
    have : (Str.ofString (if k > 0 then ", " else "" : String)).length ≤ 2 := by split <;> decide
    show (textFrom (k + 1) (acc ++ (if k > 0 then ", " else "" : String) ++ t) r).length ≤ _
    omega
theorem piled_le {n : Nat} : ∀ {ts : List Str}, (∀ t ∈ ts, t.length ≤ n) → piled ts ≤ ts.length * (n + 2)
  | [], _ => Nat.zero_le _
  | t :: r, h => by
    have ih := piled_le (ts := r) fun t ht => h t (List.mem_cons_of_mem _ ht)
    have := h t List.mem_cons_self
    rw [piled_cons, List.length_cons, Nat.succ_mul]
    omega
theorem shownAll_len : ∀ ds : List PyData, (PyData.shownAll ds).length = ds.length
  | [] => rfl
  | d :: ds => by simp [PyData.shownAll, shownAll_len ds]
theorem shownAll_le {n : Nat} : ∀ {ds : List PyData}, (∀ d ∈ ds, d.shown.length ≤ n) → ∀ t ∈ PyData.shownAll ds, t.length ≤ n
  | [], _, t, ht => by simp [PyData.shownAll] at ht
  | d :: ds, h, t, ht => by
    simp only [PyData.shownAll, List.mem_cons] at ht
    rcases ht with rfl | ht
    · exact h d List.mem_cons_self
    · exact shownAll_le (ds := ds) (fun d hd => h d (List.mem_cons_of_mem _ hd)) t ht
theorem all_lay {h n : Nat} : ∀ {ds : List PyData}, (∀ d ∈ ds, Ok d h n) → PyData.canLayAll0 ds = true ∧ PyData.showableAll ds = true ∧ PyData.depthAll ds ≤ h
  | [], _ => ⟨rfl, rfl, Nat.zero_le _⟩
  | d :: ds, k => by
    obtain ⟨h1, h2, h3⟩ := all_lay (ds := ds) fun d hd => k d (List.mem_cons_of_mem _ hd)
    have o := k d List.mem_cons_self
    refine ⟨by simp only [PyData.canLayAll0, o.lay, h1, Bool.and_self], by simp only [PyData.showableAll, o.shw, h2, Bool.and_self], ?_⟩
    show max d.depth (PyData.depthAll ds) ≤ h
    have := o.dep
    omega
theorem Ok.list {ds : List PyData} {h n : Nat} (k : ∀ d ∈ ds, Ok d h n) {m : Nat} (hm : ds.length ≤ m) : Ok (.list ds) (h + 1) (m * (n + 2) + 2) := by
  obtain ⟨h1, h2, h3⟩ := all_lay k
  refine ⟨h1, h2, Nat.succ_le_succ h3, ?_⟩
  show (textFrom 0 "[" (PyData.shownAll ds) ++ Str.ofString "]").length ≤ _
  rw [str_len_append]
  have a := textFrom_le (PyData.shownAll ds) 0 "["
  have b := piled_le (shownAll_le fun d hd => (k d hd).txt)
  rw [shownAll_len] at b
  have c : (Str.ofString "[").length = 1 := by decide
  have d : (Str.ofString "]").length = 1 := by decide
  have e : ds.length * (n + 2) ≤ m * (n + 2) := Nat.mul_le_mul_right _ hm
  omega
theorem Ok.tuple {ds : List PyData} {h n : Nat} (k : ∀ d ∈ ds, Ok d h n) {m : Nat} (hm : ds.length ≤ m) : Ok (.tuple ds) (h + 1) (m * (n + 2) + 3) := by
  obtain ⟨h1, h2, h3⟩ := all_lay k
  refine ⟨h1, h2, Nat.succ_le_succ h3, ?_⟩
  show (Str.ofString "(" ++ Str.join ", " (PyData.shownAll ds) ++ (Str.ofString (if (PyData.shownAll ds).length == 1 then ",)" else ")" : String))).length ≤ _
  rw [str_len_append, str_len_append]
  have b := piled_le (shownAll_le fun d hd => (k d hd).txt)
  rw [shownAll_len] at b
  have c : (Str.ofString "(").length = 1 := by decide
  have d : (Str.ofString (if (PyData.shownAll ds).length == 1 then ",)" else ")" : String)).length ≤ 2 := by split <;> decide
  have e : ds.length * (n + 2) ≤ m * (n + 2) := Nat.mul_le_mul_right _ hm
  by_cases hz : PyData.shownAll ds = []
  · rw [hz]
    have f : (Str.join (Str.ofString ", ") []).length = 0 := by decide
    rw [hz] at d
    omega
  · have := join_length_add (PyData.shownAll ds) hz
    omega
theorem Ok.mem {ds : List PyData} {h n : Nat} (o : Ok (.list ds) h n) : True := trivial
mutual
theorem noDict : ∀ {d : PyData}, d.canLay0 = true → d.hasDict = false
  | .none, _ => rfl
  | .bool _, _ => rfl
  | .int _, _ => rfl
  | .str _, _ => rfl
  | .list ds, h => noDicts (ds := ds) h
  | .tuple ds, h => noDicts (ds := ds) h
  | .dict _, h => nomatch h
theorem noDicts : ∀ {ds : List PyData}, PyData.canLayAll0 ds = true → PyData.hasDictAll ds = false
  | [], _ => rfl
  | d :: ds, h => by
    simp only [PyData.canLayAll0, Bool.and_eq_true] at h
    simp only [PyData.hasDictAll, noDict h.1, noDicts h.2, Bool.or_self]
end
theorem Ok.shaped {d : PyData} {h n : Nat} (o : Ok d h n) (hh : h ≤ 64 := by decide) : SeqAt.shaped d = true := by
  unfold SeqAt.shaped
  rw [o.lay, decide_eq_true (Nat.le_trans o.dep hh)]
  rfl
/-! ### names -/
abbrev namePy (n : List Str) : PyData := .tuple (n.map PyData.str)
theorem eqvAll_strs : ∀ a b : List Str, PyData.eqvAll (a.map PyData.str) (b.map PyData.str) = decide (a = b)
  | [], [] => rfl
  | [], _ :: _ => rfl
  | _ :: _, [] => rfl
  | x :: a, y :: b => by
    show (PyData.eqv (.str x) (.str y) && PyData.eqvAll (a.map PyData.str) (b.map PyData.str)) = _
    rw [eqvAll_strs a b]
    show ((x == y) && decide (a = b)) = _
    by_cases h1 : x = y
    · by_cases h2 : a = b
      · simp [h1, h2]
      · simp [h1, h2]
    · simp [h1]
theorem eqv_name (a b : List Str) : PyData.eqv (namePy a) (namePy b) = decide (a = b) := eqvAll_strs a b
theorem strs_inj {a b : List Str} (h : a.map PyData.str = b.map PyData.str) : a = b := by
  have e1 := eqvAll_strs a b
  have e2 := eqvAll_strs b b
  rw [h, e2, decide_eq_true rfl] at e1
  exact of_decide_eq_true e1.symm
/-- a label as the laws have them -/
structure Lab (x : Str) : Prop where
  let_ : ∀ c ∈ x.cps.toList, 97 ≤ c ∧ c ≤ 122
  pos : 1 ≤ x.length
  len : x.length ≤ 16
theorem Lab.ok {x : Str} (h : Lab x) : PyData.strOk x = true := by
  unfold PyData.strOk
  rw [Array.all_eq_true']
  intro c hc
  have := h.let_ c (Array.mem_toList_iff.mpr hc)
  exact decide_eq_true (by omega)
theorem Lab.append {x y : Str} (h : Lab x) (h' : Lab y) (hl : x.length + y.length ≤ 16) : Lab (x ++ y) := by
  refine ⟨fun c hc => ?_, by rw [str_len_append]; have := h.pos; omega, by rw [str_len_append]; exact hl⟩
  have : c ∈ (x.cps ++ y.cps).toList := hc
  rw [Array.toList_append] at this
  rcases List.mem_append.mp this with z | z
  · exact h.let_ c z
  · exact h'.let_ c z
structure Nm (n : List Str) (k : Nat) : Prop where
  lab : ∀ x ∈ n, Lab x
  len : n.length ≤ k
theorem Nm.okD {n : List Str} {k : Nat} (h : Nm n k) : Ok (namePy n) 1 (k * 164 + 3) :=
  Ok.tuple (h := 0) (n := 162) (fun d hd => by
    obtain ⟨x, hx, rfl⟩ := List.mem_map.mp hd
    exact (Ok.str (h.lab x hx).ok (h.lab x hx).len)) (by rw [List.length_map]; exact h.len)
theorem Nm.drop {n : List Str} {k : Nat} (h : Nm n k) (i : Nat) : Nm (n.drop i) k := ⟨fun x hx => h.lab x (List.mem_of_mem_drop hx), by rw [List.length_drop]; have := h.len; omega⟩
theorem Nm.take {n : List Str} {k : Nat} (h : Nm n k) (i : Nat) : Nm (n.take i) k := ⟨fun x hx => h.lab x (List.mem_of_mem_take hx), by rw [List.length_take]; have := h.len; omega⟩
theorem Nm.append {n m : List Str} {k j : Nat} (h : Nm n k) (h' : Nm m j) : Nm (n ++ m) (k + j) := ⟨fun x hx => (List.mem_append.mp hx).elim (h.lab x) (h'.lab x), by rw [List.length_append]; have := h.len; have := h'.len; omega⟩
theorem Nm.mono {n : List Str} {k j : Nat} (h : Nm n k) (e : k ≤ j) : Nm n j := ⟨h.lab, Nat.le_trans h.len e⟩
theorem Nm.nil {k : Nat} : Nm [] k := ⟨fun x hx => (nomatch hx), Nat.zero_le _⟩

/-! ### the same as values -/
abbrev nameD (n : List Str) : D := .tup (n.map D.str)
theorem pys_strs : ∀ n : List Str, D.pys (n.map D.str) = n.map PyData.str
  | [] => rfl
  | x :: n => by rw [List.map_cons, D.pys, pys_strs n]; rfl
theorem py_name (n : List Str) : (nameD n).py = namePy n := by
  show PyData.tuple (D.pys (n.map D.str)) = _
  rw [pys_strs]
theorem isPy_strs : ∀ n : List Str, D.isPys (n.map D.str) = true
  | [] => rfl
  | x :: n => by rw [List.map_cons, D.isPys, isPy_strs n]; rfl
theorem fl_strs : ∀ n : List Str, D.fls (n.map D.str) = true
  | [] => rfl
  | x :: n => by rw [List.map_cons, D.fls, fl_strs n]; rfl
theorem fl_name (n : List Str) : (nameD n).fl = true := by
  show D.fls (n.map D.str) = true
  exact fl_strs n
theorem eqv_nameD (a b : List Str) : eqv (nameD a) (nameD b) = decide (a = b) := by
  unfold eqv
  rw [py_name, py_name, eqv_name]
end Lm

/-! LM2: what the laws' helpers promise. -/
namespace Lm
open PySem PySem.Spec PyProof.Rows L2 Me
/-- take(bag, n); the bag is the first cell -/
def CTake : Ct := fun args μ P _ => ∃ s n m, args = [.cell 0, .int n] ∧ μ = bagC s :: m ∧ Good s ∧ 0 < n ∧ n < 1073741824 ∧ P (.int (takeV s n)) (bagC (takeS s n) :: m)
/-- what draws from the bag and returns a value -/
def CBag (A : List D → Prop) (R : List D → D → Prop) : Ct := fun args μ P _ => ∃ s m r, args = .cell 0 :: r ∧ μ = bagC s :: m ∧ Good s ∧ A r ∧ ∀ d s', R r d → Good s' → P d (bagC s' :: m)
/-- a def that changes nothing -/
def CPure (rel : List D → D → Prop) : Ct := fun args μ P _ => ∃ d, rel args d ∧ P d μ
/-- alike(found, right), equal ones -/
def CAlike : Ct := fun args μ P _ => ∃ d1 d2 e h n, args = [d1, d2] ∧ Dv μ d1 e ∧ Dv μ d2 e ∧ Ok e.py h n ∧ h ≤ 64 ∧ n ≤ sizeLine ∧ P (.bl true) μ
def APick : List D → Prop := fun r => ∃ ds, r = [.lst ds] ∧ ds ≠ [] ∧ ds.length < 1073741824 ∧ D.refsL ds = []
def RPick : List D → D → Prop := fun r d => ∃ ds, r = [.lst ds] ∧ d ∈ ds
def ALabels : List D → Prop := fun r => ∃ n : Nat, r = [.int (n : Int)] ∧ n ≤ 100
def RLabels : List D → D → Prop := fun r d => ∃ (n : Nat) (ls : List Str), r = [.int (n : Int)] ∧ d = .lst (ls.map D.str) ∧ ls.length = n ∧ ∀ x ∈ ls, Lab x ∧ x.length ≤ 8
def AWord : List D → Prop := fun r => ∃ (ls : List Str) (a b : Int), r = [.lst (ls.map D.str), .int a, .int b] ∧ ls ≠ [] ∧ ls.length ≤ 1000 ∧ 0 ≤ a ∧ a ≤ b ∧ b ≤ 100
def RWord : List D → D → Prop := fun r d => ∃ (ls : List Str) (a b : Int) (n : List Str), r = [.lst (ls.map D.str), .int a, .int b] ∧ d = nameD n ∧ a ≤ n.length ∧ n.length ≤ b ∧ ∀ x ∈ n, x ∈ ls
def isUnder (n t : List Str) : Bool := decide (t.length ≤ n.length) && decide (n.drop (n.length - t.length) = t)
def isBeneath (n t : List Str) : Bool := decide (t.length < n.length) && isUnder n t
def relUnder (g : List Str → List Str → Bool) : List D → D → Prop := fun ds d => ∃ n t k, ds = [nameD n, nameD t] ∧ Nm n k ∧ Nm t k ∧ d = .bl (g n t)
theorem refs_strs : ∀ n : List Str, D.refsL (n.map D.str) = []
  | [] => rfl
  | x :: n => by rw [List.map_cons, D.refsL, refs_strs n]; rfl
theorem refs_ints : ∀ n : List Int, D.refsL (n.map D.int) = []
  | [] => rfl
  | x :: n => by rw [List.map_cons, D.refsL, refs_ints n]; rfl
theorem refs_name (n : List Str) : (nameD n).refs = [] := by rw [D.refs, refs_strs]
theorem bag_refs (s : Bag) : (bagC s).refs = [] := by
  show D.refsL (bagD s) = []
  simp only [bagD, D.refsL, D.refs, refs_ints, List.append_nil]
theorem low_bag {s s' : Bag} {m : Mu} (h : Low (bagC s :: m)) : Low (bagC s' :: m) := fun j c hc i hi => by
  cases j with
  | zero =>
    obtain rfl := Option.some.inj hc
    rw [bag_refs] at hi
    exact nomatch hi
  | succ j => exact h (j + 1) c hc i hi
/-! ### cuts -/
theorem cutD_from {ds : List D} {i : Int} (h : 0 ≤ i) : cutD ds (some i) none = ds.drop i.toNat := by
  unfold Me.cutD
  obtain ⟨n, rfl⟩ := Int.eq_ofNat_of_zero_le h
  rw [show HT.sIx ds.length 0 (some (n : Int)) = min n ds.length from HT.sIx_nat _ _ _, HT.sIx_none]
  show (ds.drop (min n ds.length)).take (ds.length - min n ds.length) = ds.drop n
  by_cases hn : n ≤ ds.length
  · rw [Nat.min_eq_left hn, List.take_of_length_le (by rw [List.length_drop]; exact Nat.le_refl _)]
  · rw [Nat.min_eq_right (by omega), List.drop_eq_nil_of_le (Nat.le_refl _), List.drop_eq_nil_of_le (by omega)]
    simp
theorem cutD_to {ds : List D} {i : Int} (h : 0 ≤ i) : cutD ds none (some i) = ds.take i.toNat := by
  unfold Me.cutD
  obtain ⟨n, rfl⟩ := Int.eq_ofNat_of_zero_le h
  rw [show HT.sIx ds.length ds.length (some (n : Int)) = min n ds.length from HT.sIx_nat _ _ _, HT.sIx_none, List.drop_zero, Nat.sub_zero]
  show ds.take (min n ds.length) = ds.take n
  by_cases hn : n ≤ ds.length
  · rw [Nat.min_eq_left hn]
  · rw [Nat.min_eq_right (by omega), List.take_length, List.take_of_length_le (by omega)]
theorem at_i {α : Type} {ds : List α} {i : Int} {d : α} (h0 : 0 ≤ i) (h : ds[i.toNat]? = some d) : L2.atI ds i = some d := by
  have h2 := (List.getElem?_eq_some_iff.mp h).1
  unfold atI ixN
  rw [if_pos h0, if_pos (by omega)]
  exact h
theorem at_ints {ns : List Int} {i : Int} (h0 : 0 ≤ i) (h1 : i < ns.length) : L2.atI (ns.map D.int) i = some (.int (ns.getD i.toNat 0)) := by
  refine at_i h0 ?_
  have h2 : i.toNat < ns.length := by omega
  rw [List.getElem?_map, List.getElem?_eq_getElem h2, List.getD_eq_getElem?_getD, List.getElem?_eq_getElem h2]
  rfl
theorem at_draw {ds : List D} {b : Bag} (h : ds ≠ []) : ∃ d, d ∈ ds ∧ ds[(takeV b (ds.length : Int)).toNat]? = some d := by
  have hl : 0 < ds.length := List.length_pos_iff.mpr h
  have h1 := takeV_nonneg (s := b) (n := (ds.length : Int)) (by omega)
  have h2 := takeV_lt (s := b) (n := (ds.length : Int)) (by omega)
  have h3 : (takeV b (ds.length : Int)).toNat < ds.length := by omega
  exact ⟨_, List.getElem_mem h3, List.getElem?_eq_getElem h3⟩
/-- a stem: letters, at most seven -/
structure Stem (x : Str) : Prop where
  let_ : ∀ c ∈ x.cps.toList, 97 ≤ c ∧ c ≤ 122
  len : x.length ≤ 7
theorem mul_bit {x : Str} (h : Stem x) {n : Int} (h0 : 0 ≤ n) (h1 : n < 2) : MulOk x n ∧ Stem (Txt.mul x n) := by
  have hn : n = 0 ∨ n = 1 := by omega
  rcases hn with rfl | rfl
  · exact ⟨⟨by decide, fun z => absurd (by decide) z, fun z => absurd (by decide) z⟩, by rw [show Txt.mul x 0 = Str.empty from rfl]; exact ⟨by decide, by decide⟩⟩
  · refine ⟨⟨by decide, fun _ z => ?_, fun _ z => ?_⟩, ?_⟩
    · exact absurd z (by simp)
    · exact absurd z (by simp)
    · rw [show Txt.mul x 1 = x from rfl]
      exact h
theorem lab_of {x : Str} (h : Stem x) {c : Nat} (hc : 97 ≤ c ∧ c ≤ 122) : Lab (x ++ ⟨#[c]⟩) ∧ (x ++ (⟨#[c]⟩ : Str)).length ≤ 8 := by
  have hl := h.len
  have e : (x ++ (⟨#[c]⟩ : Str)).length = x.length + 1 := str_len_append x ⟨#[c]⟩
  refine ⟨⟨fun z hz => ?_, by omega, by omega⟩, by omega⟩
  have : z ∈ (x.cps ++ #[c]).toList := hz
  rw [Array.toList_append] at this
  rcases List.mem_append.mp this with q | q
  · exact h.let_ z q
  · obtain rfl : z = c := by simpa using q
    exact hc
theorem letter_at {i : Int} (h0 : 0 ≤ i) (h1 : i < 26) : ∃ c, (Str.ofString "abcdefghijklmnopqrstuvwxyz").cps.toList[i.toNat]? = some c ∧ 97 ≤ c ∧ c ≤ 122 := by
  have h2 : i.toNat < 26 := by omega
  have : ∀ n : Nat, n < 26 → ∃ c, (Str.ofString "abcdefghijklmnopqrstuvwxyz").cps.toList[n]? = some c ∧ 97 ≤ c ∧ c ≤ 122 := by decide
  exact this _ h2
/-! ### calls -/
section
variable {S : Sc} {env : En} {μ : Mu} {e : Expr} {es : List Expr} {pos p0 : Pos} {x : Str} {k : Nat} {P : KD}
theorem ctake {s : Bag} {n : Int} {m : Mu} {Z : KX} (gs : Good s) (hn : 0 < n ∧ n < 1073741824) (k : P (.int (takeV s n)) (bagC (takeS s n) :: m)) : CTake [.cell 0, .int n] (bagC s :: m) P Z := ⟨s, n, m, rfl, rfl, gs, hn.1, hn.2, k⟩
theorem cbag {s : Bag} {m : Mu} {r : List D} {A : List D → Prop} {R : List D → D → Prop} {Z : KX} (gs : Good s) (hA : A r) (k : ∀ d s', R r d → Good s' → P d (bagC s' :: m)) : CBag A R (.cell 0 :: r) (bagC s :: m) P Z := ⟨s, m, r, rfl, rfl, gs, hA, k⟩
theorem s_nameFrom {n : List Str} {i : Int} (h : 0 ≤ i) (k : P (nameD (n.drop i.toNat)) μ) : Sl3 S (nameD n) (some i) none μ P :=
  s_tup (by rw [cutD_from h, ← List.map_drop]; exact k)
theorem s_nameTo {n : List Str} {i : Int} (h : 0 ≤ i) (k : P (nameD (n.take i.toNat)) μ) : Sl3 S (nameD n) none (some i) μ P :=
  s_tup (by rw [cutD_to h, ← List.map_take]; exact k)
theorem c_lenN {n : List Str} (k : P (.int n.length) μ) : Cl S (.builtin "len") [nameD n] env μ P := c_lenT (by rw [List.length_map]; exact k)
theorem nm_eqOk {a b : List Str} {i j : Nat} (ha : Nm a i) (hb : Nm b j) : EqOk (nameD a) (nameD b) :=
  ⟨isPy_strs a, isPy_strs b, by rw [py_name]; exact ha.okD.shaped, by rw [py_name]; exact hb.okD.shaped⟩
theorem o_eqN {a b : List Str} {i j : Nat} (ha : Nm a i) (hb : Nm b j) (k : P (.bl (decide (a = b))) μ) : Op2 S (compareOp .Eq) (nameD a) (nameD b) env μ P :=
  o_eq (e1 := nameD a) (e2 := nameD b) rfl rfl (nm_eqOk ha hb) (by rw [eqv_nameD]; exact k)
theorem o_neN {a b : List Str} {i j : Nat} (ha : Nm a i) (hb : Nm b j) (k : P (.bl (!decide (a = b))) μ) : Op2 S (compareOp .NotEq) (nameD a) (nameD b) env μ P :=
  o_ne (e1 := nameD a) (e2 := nameD b) rfl rfl (nm_eqOk ha hb) (by rw [eqv_nameD]; exact k)
end
end Lm

/-! LM3: lists of names, zones. -/
namespace Lm
open PySem PySem.Spec PyProof.Rows L2 Me
open PySem.W (alike alikeAll)
/-- a label that the program takes -/
def L8 (x : Str) : Prop := Lab x ∧ x.length ≤ 8
/-- a name of at most so many labels -/
structure N8 (n : List Str) (k : Nat) : Prop where
  lab : ∀ x ∈ n, L8 x
  len : n.length ≤ k
theorem N8.nm {n : List Str} {k : Nat} (h : N8 n k) : Nm n k := ⟨fun x hx => (h.lab x hx).1, h.len⟩
theorem N8.mono {n : List Str} {k j : Nat} (h : N8 n k) (e : k ≤ j) : N8 n j := ⟨h.lab, Nat.le_trans h.len e⟩
/-! ### lists of names -/
def nmsD (ns : List (List Str)) : List D := ns.map nameD
/-- some names, none empty -/
structure Ns (ns : List (List Str)) (k m : Nat) : Prop where
  ok : ∀ n ∈ ns, N8 n k ∧ n ≠ []
  len : ns.length ≤ m
theorem alike_strs : ∀ a b : List Str, alikeAll (a.map PyData.str) (b.map PyData.str) = true
  | [], b => by cases b <;> simp [alikeAll]
  | x :: a, [] => by simp [alikeAll]
  | x :: a, y :: b => by
    show alikeAll (.str x :: a.map .str) (.str y :: b.map .str) = true
    rw [alikeAll, alike_strs a b]
    simp [alike]
theorem depth_strs : ∀ a : List Str, PyData.depthAll (a.map PyData.str) = 0
  | [] => by simp [PyData.depthAll]
  | x :: a => by
    show PyData.depthAll (.str x :: a.map .str) = 0
    rw [PyData.depthAll, depth_strs a]
    simp [PyData.depth]
theorem isPys_nms : ∀ ns : List (List Str), D.isPys (nmsD ns) = true
  | [] => rfl
  | n :: ns => by
    show ((nameD n).isPy && D.isPys (nmsD ns)) = true
    rw [isPys_nms ns, Bool.and_true]
    exact isPy_strs n
theorem hasDict_strs : ∀ a : List Str, PyData.hasDictAll (a.map PyData.str) = false
  | [] => rfl
  | x :: a => by
    show (PyData.hasDict (.str x) || PyData.hasDictAll (a.map .str)) = false
    rw [hasDict_strs a]
    rfl
theorem hasDict_nms : ∀ ns : List (List Str), PyData.hasDictAll (D.pys (nmsD ns)) = false
  | [] => rfl
  | n :: ns => by
    show (PyData.hasDict (nameD n).py || PyData.hasDictAll (D.pys (nmsD ns))) = false
    rw [hasDict_nms ns, py_name, Bool.or_false]
    exact hasDict_strs n
theorem Ns.srtOk {ns : List (List Str)} {k m : Nat} (h : Ns ns k m) (hm : m ≤ 1000) : SrtOk (nmsD ns) := by
  refine ⟨isPys_nms ns, hasDict_nms ns, ?_, .inl ?_, ?_, ?_⟩
  · intro d hd d' hd'
    unfold nmsD at hd hd'
    rw [List.map_map] at hd hd'
    obtain ⟨n, _, rfl⟩ := List.mem_map.mp hd
    obtain ⟨n', _, rfl⟩ := List.mem_map.mp hd'
    show alike (nameD n).py (nameD n').py = true
    rw [py_name, py_name]
    show alikeAll (n.map PyData.str) (n'.map PyData.str) = true
    exact alike_strs n n'
  · intro d hd
    unfold nmsD at hd
    rw [List.map_map] at hd
    obtain ⟨n, hn, rfl⟩ := List.mem_map.mp hd
    show ∃ x r, (nameD n).py = _
    rw [py_name]
    cases n with
    | nil => exact absurd rfl (h.ok _ hn).2
    | cons x r => exact ⟨.str x, r.map .str, rfl⟩
  · unfold nmsD
    rw [List.length_map, sizeLine_eq]
    have := h.len
    omega
  · intro d hd
    obtain ⟨n, hn, rfl⟩ := List.mem_map.mp hd
    rw [py_name]
    show PyData.depthAll (n.map .str) + 1 ≤ 60
    rw [depth_strs]
    decide
/-- the names, ascending -/
def asc (ns : List (List Str)) : List (List Str) := ns.mergeSort fun a b => PySem.W.dataLe false D.py (nameD a) (nameD b)
theorem srt_nms (ns : List (List Str)) : srt (nmsD ns) = nmsD (asc ns) :=
  (List.map_mergeSort (f := fun n : List Str => nameD n) (r := fun a b => PySem.W.dataLe false D.py (nameD a) (nameD b)) (s := PySem.W.dataLe false D.py) fun _ _ _ _ => rfl).symm
theorem mem_asc {ns : List (List Str)} {n : List Str} : n ∈ asc ns ↔ n ∈ ns := List.mem_mergeSort
theorem len_asc (ns : List (List Str)) : (asc ns).length = ns.length := List.length_mergeSort _
theorem Ns.asc {ns : List (List Str)} {k m : Nat} (h : Ns ns k m) : Ns (Lm.asc ns) k m := ⟨fun n hn => h.ok n (mem_asc.mp hn), by rw [len_asc]; exact h.len⟩
theorem refs_nms : ∀ ns : List (List Str), D.refsL (nmsD ns) = []
  | [] => rfl
  | n :: ns => by
    show (nameD n).refs ++ D.refsL (nmsD ns) = []
    rw [refs_nms ns, refs_name]
    rfl
theorem fls_nms : ∀ ns : List (List Str), D.fls (nmsD ns) = true
  | [] => rfl
  | n :: ns => by
    show ((nameD n).fl && D.fls (nmsD ns)) = true
    rw [fls_nms ns, fl_name]
    rfl
theorem pys_nms (ns : List (List Str)) : D.pys (nmsD ns) = ns.map namePy := by
  rw [pys_map]
  unfold nmsD
  rw [List.map_map]
  exact List.map_congr_left fun n _ => py_name n
theorem Ns.okD {ns : List (List Str)} {k m : Nat} (h : Ns ns k m) : Ok (D.lst (nmsD ns)).py 2 (m * (k * 164 + 3 + 2) + 2) := by
  show Ok (.list (D.pys (nmsD ns))) _ _
  rw [pys_nms]
  exact Ok.list (h := 1) (n := k * 164 + 3) (fun d hd => by
    obtain ⟨n, hn, rfl⟩ := List.mem_map.mp hd
    exact (h.ok n hn).1.nm.okD) (by rw [List.length_map]; exact h.len)
theorem eqv_nms : ∀ a b : List (List Str), PyData.eqvAll (a.map namePy) (b.map namePy) = decide (a = b)
  | [], [] => rfl
  | [], _ :: _ => rfl
  | _ :: _, [] => rfl
  | x :: a, y :: b => by
    show (PyData.eqv (namePy x) (namePy y) && PyData.eqvAll (a.map namePy) (b.map namePy)) = _
    rw [eqv_nms a b, eqv_name]
    by_cases h1 : x = y
    · by_cases h2 : a = b
      · simp [h1, h2]
      · simp [h1, h2]
    · simp [h1]
theorem eqv_nmsL (a b : List (List Str)) : eqv (.lst (nmsD a)) (.lst (nmsD b)) = decide (a = b) := by
  show PyData.eqvAll (D.pys (nmsD a)) (D.pys (nmsD b)) = _
  rw [pys_nms, pys_nms, eqv_nms]
theorem any_nms {n : List Str} : ∀ ns : List (List Str), ((nmsD ns).any fun z => eqv z (nameD n)) = decide (n ∈ ns)
  | [] => rfl
  | m :: ns => by
    show (eqv (nameD m) (nameD n) || (nmsD ns).any fun z => eqv z (nameD n)) = _
    rw [any_nms ns, eqv_nameD]
    by_cases h1 : m = n
    · simp [h1]
    · have h2 : ¬ n = m := fun z => h1 z.symm
      simp [h1, h2]
end Lm

/-! LM4: dicts from names to ints. -/
namespace Lm
open PySem PySem.Spec PyProof.Rows L2 Me
abbrev Zp := List (List Str × Int)
def zk (ps : Zp) : List (DK × D) := ps.map fun p => (nmK p.1, .int p.2)
def keysZ (ps : Zp) : List (List Str) := ps.map (·.1)
def getZ (ps : Zp) (n : List Str) : Option Int := (ps.find? fun p => decide (p.1 = n)).map (·.2)
def putZ (ps : Zp) (n : List Str) (v : Int) : Zp := if n ∈ keysZ ps then ps.map (fun p => if p.1 = n then (p.1, v) else p) else ps ++ [(n, v)]
theorem nmK_inj {a b : List Str} : nmK a = nmK b ↔ a = b := by
  constructor
  · intro h
    injection h with h
    exact List.map_inj_right (fun _ _ z => Sum.inr.inj z) |>.mp h
  · exact fun h => h ▸ rfl
theorem dk_nm (n : List Str) : dkD (nmK n) = nameD n := by
  show D.tup ((n.map Sum.inr).map keyD) = _
  rw [List.map_map]
  rfl
theorem zk_keys (ps : Zp) : (zk ps).map (fun p => dkD p.1) = nmsD (keysZ ps) := by
  unfold zk keysZ nmsD
  rw [List.map_map, List.map_map]
  exact List.map_congr_left fun p _ => dk_nm p.1
theorem valZ (n : List Str) : ∀ ps : Zp, valD (zk ps) (nmK n) = (getZ ps n).map D.int
  | [] => rfl
  | p :: ps => by
    show valD ((nmK p.1, D.int p.2) :: zk ps) (nmK n) = _
    rw [valD_cons, valZ n ps]
    unfold getZ
    by_cases h : p.1 = n
    · rw [if_pos (by rw [h]), List.find?_cons_of_pos (by simpa using h)]
      rfl
    · rw [if_neg (fun z => h (nmK_inj.mp z)), List.find?_cons_of_neg (by simpa using h)]
theorem getZ_some {n : List Str} : ∀ {ps : Zp}, (getZ ps n).isSome = decide (n ∈ keysZ ps)
  | [] => rfl
  | p :: ps => by
    have ih := getZ_some (n := n) (ps := ps)
    unfold getZ keysZ at *
    by_cases h : p.1 = n
    · rw [List.find?_cons_of_pos (by simpa using h)]
      simp [h]
    · rw [List.find?_cons_of_neg (by simpa using h), ih]
      have h2 : ¬ n = p.1 := fun z => h z.symm
      simp [h2]
theorem allInt_zk (ps : Zp) : AllInt (zk ps) := fun p hp => by
  obtain ⟨q, _, rfl⟩ := List.mem_map.mp hp
  exact ⟨q.2, rfl⟩
theorem putD_zk (ps : Zp) (n : List Str) (v : Int) : putD (zk ps) (nmK n) (.int v) = zk (putZ ps n v) := by
  have e : ((zk ps).any fun kv => decide (kv.1 = nmK n)) = decide (n ∈ keysZ ps) := by
    rw [valD_any, valZ, Option.isSome_map, getZ_some]
  unfold putD putZ
  rw [e]
  by_cases h : n ∈ keysZ ps
  · rw [if_pos (decide_eq_true h), if_pos h]
    unfold zk
    rw [List.map_map, List.map_map]
    refine List.map_congr_left fun p _ => ?_
    show (if nmK p.1 = nmK n then (nmK p.1, D.int v) else (nmK p.1, D.int p.2)) = _
    by_cases hp : p.1 = n
    · rw [if_pos (by rw [hp])]
      simp [hp]
    · rw [if_neg (fun z => hp (nmK_inj.mp z))]
      simp [hp]
  · rw [if_neg (by simpa using h), if_neg h]
    unfold zk
    rw [List.map_append]
    rfl
def putsZ (acc ps : Zp) : Zp := ps.foldl (fun a p => putZ a p.1 p.2) acc
theorem putsD_zk : ∀ (ps acc : Zp), putsD (zk acc) (zk ps) = zk (putsZ acc ps)
  | [], acc => rfl
  | p :: ps, acc => by
    show putsD (putD (zk acc) (nmK p.1) (.int p.2)) (zk ps) = _
    rw [putD_zk, putsD_zk ps]
    rfl
theorem putsZ_nodup : ∀ (ps acc : Zp), (keysZ (acc ++ ps)).Nodup → putsZ acc ps = acc ++ ps
  | [], acc, _ => (List.append_nil acc).symm
  | p :: ps, acc, h => by
    show putsZ (putZ acc p.1 p.2) ps = _
    have hn : p.1 ∉ keysZ acc := by
      unfold keysZ at h ⊢
      rw [List.map_append, List.map_cons] at h
      have := (List.nodup_append.mp h).2.2
      exact fun z => this p.1 z p.1 List.mem_cons_self rfl
    rw [show putZ acc p.1 p.2 = acc ++ [p] by unfold putZ; rw [if_neg hn]]
    rw [putsZ_nodup ps (acc ++ [p]) (by rw [List.append_assoc]; exact h), List.append_assoc]
    rfl
theorem getZ_mem {p : List Str × Int} : ∀ {ps : Zp}, (keysZ ps).Nodup → p ∈ ps → getZ ps p.1 = some p.2
  | q :: ps, h, hp => by
    unfold keysZ at h
    rw [List.map_cons] at h
    obtain ⟨h1, h2⟩ := List.nodup_cons.mp h
    rcases List.mem_cons.mp hp with e | e
    · subst e
      unfold getZ
      rw [List.find?_cons_of_pos (by simp)]
      rfl
    · have ne : ¬ q.1 = p.1 := fun z => h1 (List.mem_map.mpr ⟨p, e, z.symm⟩)
      have ih := getZ_mem (p := p) (ps := ps) h2 e
      unfold getZ at ih ⊢
      rw [List.find?_cons_of_neg (by simpa using ne)]
      exact ih
theorem vw_dct {μ : Mu} {j : Nat} {t : Bool} {lk : Option HO} {kvs : List (DK × D)} (h : μ[j]? = some (.dct t lk kvs)) : vw μ (.cell j) = .dct t kvs := by simp only [vw, h]
theorem vw_lst {μ : Mu} {j : Nat} {ds : List D} (h : μ[j]? = some (.lst ds)) : vw μ (.cell j) = .lst ds := by simp only [vw, h]
theorem vw_ins {μ : Mu} {j : Nat} {c : String} {fs : List (Str × D)} (h : μ[j]? = some (.ins c fs)) : vw μ (.cell j) = .ins c fs := by simp only [vw, h]
theorem at_lt {μ : Mu} {j : Nat} {c : Cell} (h : μ[j]? = some c) : j < μ.length := (List.getElem?_eq_some_iff.mp h).1
theorem at_app {μ ext : Mu} {j : Nat} {c : Cell} (h : μ[j]? = some c) : (μ ++ ext)[j]? = some c := by rw [List.getElem?_append_left (at_lt h)]; exact h
theorem at_set {μ : Mu} {j : Nat} {c d : Cell} (h : μ[j]? = some c) : (μ.set j d)[j]? = some d := by rw [List.getElem?_set, if_pos rfl, if_pos (at_lt h)]
theorem at_set_ne {μ : Mu} {i j : Nat} {d : Cell} (h : i ≠ j) : (μ.set i d)[j]? = μ[j]? := by rw [List.getElem?_set, if_neg h]
theorem set_back {μ : Mu} {j : Nat} {a b : Cell} (h : μ[j]? = some b) : (μ.set j a).set j b = μ := by
  rw [List.set_set]
  refine List.ext_getElem? fun i => ?_
  rw [List.getElem?_set]
  split
  · rename_i e
    subst e
    split
    · exact h.symm
    · rename_i q
      exact absurd (List.getElem?_eq_some_iff.mp h).1 q
  · rfl
theorem set_app {μ ext : Mu} {j : Nat} {c d : Cell} (h : μ[j]? = some c) : (μ ++ ext).set j d = μ.set j d ++ ext := List.set_append_left _ _ (at_lt h)
/-- the pair of a key -/
def pairAt (ps : Zp) (d : D) : Option (DK × D) := (asDK true d).bind fun k => (valD (zk ps) k).map fun v => (k, v)
theorem pairAt_of {ps : Zp} (h : (keysZ ps).Nodup) {p : List Str × Int} (hp : p ∈ ps) : pairAt ps (nameD p.1) = some (nmK p.1, D.int p.2) := by
  unfold pairAt
  rw [asDK_name, Option.bind_some, valZ, getZ_mem h hp]
  rfl
theorem filt_zk {ps : Zp} (h : (keysZ ps).Nodup) : (nmsD (keysZ ps)).filterMap (pairAt ps) = zk ps := by
  have : ∀ qs : Zp, (∀ p ∈ qs, p ∈ ps) → (nmsD (keysZ qs)).filterMap (pairAt ps) = zk qs := by
    intro qs
    induction qs with
    | nil => intro _; rfl
    | cons p qs ih =>
      intro hq
      show (nameD p.1 :: nmsD (keysZ qs)).filterMap _ = (nmK p.1, D.int p.2) :: zk qs
      rw [List.filterMap_cons_some (pairAt_of h (hq p List.mem_cons_self)), ih fun p hp => hq p (List.mem_cons_of_mem _ hp)]
  exact this ps fun _ h => h
/-- the pairs that a zone may have -/
structure Zn (ps : Zp) (k m : Nat) : Prop where
  ok : ∀ p ∈ ps, N8 p.1 k ∧ p.1 ≠ [] ∧ 0 ≤ p.2 ∧ p.2 < 1000
  nd : (keysZ ps).Nodup
  len : ps.length ≤ m
theorem Zn.ns {ps : Zp} {k m : Nat} (h : Zn ps k m) : Ns (keysZ ps) k m := ⟨fun n hn => by
  obtain ⟨p, hp, rfl⟩ := List.mem_map.mp hn
  exact ⟨(h.ok p hp).1, (h.ok p hp).2.1⟩, by unfold keysZ; rw [List.length_map]; exact h.len⟩
theorem Zn.puts {ps : Zp} {k m : Nat} (h : Zn ps k m) : putsD [] (zk ps) = zk ps := by
  have := putsD_zk ps []
  rw [putsZ_nodup ps [] h.nd] at this
  exact this
theorem keys_put (ps : Zp) (n : List Str) (v : Int) : keysZ (putZ ps n v) = if n ∈ keysZ ps then keysZ ps else keysZ ps ++ [n] := by
  unfold putZ
  by_cases h : n ∈ keysZ ps
  · rw [if_pos h, if_pos h]
    unfold keysZ
    rw [List.map_map]
    refine List.map_congr_left fun p _ => ?_
    show (if p.1 = n then (p.1, v) else p).1 = p.1
    split <;> rfl
  · rw [if_neg h, if_neg h]
    unfold keysZ
    rw [List.map_append]
    rfl
theorem Zn.put {ps : Zp} {k m : Nat} {n : List Str} {v : Int} (h : Zn ps k m) (hn : N8 n k) (h0 : n ≠ []) (hv : 0 ≤ v ∧ v < 1000) : Zn (putZ ps n v) k (m + 1) := by
  refine ⟨fun p hp => ?_, ?_, ?_⟩
  · unfold putZ at hp
    split at hp
    · obtain ⟨q, hq, rfl⟩ := List.mem_map.mp hp
      have := h.ok q hq
      by_cases e : q.1 = n
      · rw [if_pos e]; exact ⟨this.1, this.2.1, hv⟩
      · rw [if_neg e]; exact this
    · rcases List.mem_append.mp hp with z | z
      · exact h.ok p z
      · rw [List.mem_singleton.mp z]; exact ⟨hn, h0, hv⟩
  · rw [keys_put]
    split
    · exact h.nd
    · rename_i q
      refine List.nodup_append.mpr ⟨h.nd, by simp, fun a ha b hb => ?_⟩
      rw [List.mem_singleton.mp hb]
      exact fun z => q (z ▸ ha)
  · have := h.len
    have e : (putZ ps n v).length = (keysZ (putZ ps n v)).length := by unfold keysZ; rw [List.length_map]
    have e2 : (keysZ ps).length = ps.length := by unfold keysZ; rw [List.length_map]
    rw [e, keys_put]
    split
    · omega
    · rw [List.length_append, e2]
      show ps.length + 1 ≤ m + 1
      omega
def sameZ (ps qs : Zp) : Bool := ps.length == qs.length && ps.all fun p => decide (getZ qs p.1 = some p.2)
theorem inD_zk (qs : Zp) : ∀ ps : Zp, inD (zk qs) (zk ps) = ps.all fun p => decide (getZ qs p.1 = some p.2)
  | [] => rfl
  | p :: ps => by
    show ((match D.int p.2, valD (zk qs) (nmK p.1) with | .int i, some (.int j) => i == j | _, _ => false) && inD (zk qs) (zk ps)) = _
    rw [inD_zk qs ps, valZ, List.all_cons]
    congr 1
    cases hg : getZ qs p.1 with
    | none => simp
    | some v =>
      show (p.2 == v) = _
      by_cases e : p.2 = v
      · simp [e]
      · have : ¬ v = p.2 := fun z => e z.symm
        simp [e, this]
theorem sameD_zk (ps qs : Zp) : sameD (zk ps) (zk qs) = sameZ ps qs := by
  unfold sameD sameZ
  rw [inD_zk]
  unfold zk
  rw [List.length_map, List.length_map]
end Lm

/-! LM5: lists or tuples. -/
namespace Lm
open PySem PySem.Spec PyProof.Rows L2 Me
/-- a list or a tuple -/
def Sq (μ : Mu) (d : D) (ds : List D) : Prop := vw μ d = .lst ds ∨ d = .tup ds
section
variable {S : Sc} {env : En} {μ : Mu} {e tg iter : Expr} {P : KD} {PI : KI} {d : D} {ds : List D}
theorem i_seq (d : D) (h : ∀ {P : KD}, P d μ → E S iter env μ P) (hs : Sq μ d ds) (k : ∀ Sx : Mu → Prop, (∀ m', Sq m' d ds → Sx m') → PI ds Sx μ) : Iter S tg iter env μ PI := by
  rcases hs with hs | hs
  · exact i_lst (h ⟨ds, hs, k _ fun m' z => by
      rcases z with z | z
      · exact z
      · subst z
        simp only [vw] at hs
        exact nomatch hs⟩)
  · exact i_tup (h ⟨ds, hs, k _ fun _ _ => trivial⟩)
theorem c_lenQ (hs : Sq μ d ds) (k : P (.int ds.length) μ) : Cl S (.builtin "len") [d] env μ P := by
  rcases hs with hs | hs
  · exact c_lenL hs k
  · subst hs
    exact c_lenT k
theorem c_sortedQ (hs : Sq μ d ds) (ok : SrtOk ds) (k : Nl P (srt ds) μ) : Cl S (.builtin "sorted") [d] env μ P := by
  rcases hs with hs | hs
  · exact c_sortedL hs ok k
  · subst hs
    exact c_sortedT ok k
theorem c_isQ (hs : Sq μ d ds) (k : P (.bl true) μ) : Cl S (.builtin "isinstance") [d, .tup [.ty "list", .ty "tuple"]] env μ P := by
  rcases hs with hs | hs
  · exact c_isiT (ty_dat (Tn := "list") (by rw [hs]; rfl)) (us := [.type "list", .type "tuple"]) rfl (q := true) (by rfl) k
  · subst hs
    exact c_isiT (ty_dat (Tn := "tuple") rfl) (us := [.type "list", .type "tuple"]) rfl (q := true) (by rfl) k
end
theorem putsD_nd : ∀ (ps acc : List (DK × D)), ((acc ++ ps).map (·.1)).Nodup → putsD acc ps = acc ++ ps
  | [], acc, _ => (List.append_nil acc).symm
  | p :: ps, acc, h => by
    show putsD (putD acc p.1 p.2) ps = _
    have hn : (acc.any fun kv => decide (kv.1 = p.1)) = false := by
      rw [List.map_append, List.map_cons] at h
      have q := (List.nodup_append.mp h).2.2
      refine List.any_eq_false.mpr fun x hx => ?_
      simp only [decide_eq_true_eq]
      exact fun z => q x.1 (List.mem_map.mpr ⟨x, hx, rfl⟩) p.1 List.mem_cons_self z
    rw [show putD acc p.1 p.2 = acc ++ [p] by unfold putD; rw [hn]; rfl]
    rw [putsD_nd ps (acc ++ [p]) (by rw [List.append_assoc]; exact h), List.append_assoc]
    rfl
/-- {name: v for name in ..} -/
def nmP (v : D) (d : D) : Option (DK × D) := (asDK true d).map fun k => (k, v)
theorem nmP_name (v : D) (n : List Str) : nmP v (nameD n) = some (nmK n, v) := by unfold nmP; rw [asDK_name]; rfl
theorem filt_nms (v : D) : ∀ ns : List (List Str), (nmsD ns).filterMap (nmP v) = ns.map fun n => (nmK n, v)
  | [] => rfl
  | n :: ns => by
    show (nameD n :: nmsD ns).filterMap _ = (nmK n, v) :: ns.map _
    rw [List.filterMap_cons_some (nmP_name v n), filt_nms v ns]
theorem puts_nms (v : D) {ns : List (List Str)} (h : ns.Nodup) : putsD [] (ns.map fun n => (nmK n, v)) = ns.map fun n => (nmK n, v) := by
  refine putsD_nd _ [] ?_
  rw [List.nil_append, List.map_map]
  exact List.Pairwise.map _ (fun a b z q => z (nmK_inj.mp q)) h
end Lm

/-! LM6: the law's body: first the bag, then the rest. -/
namespace Lm
open PySem PySem.Spec PyProof.Rows L2 Me
def spBag (K : PySem.W.Frag) : Sp := fun vs H Q _ => ∃ (a : Addr) (ns : List Int), vs = [.ref a] ∧ SqL K H a (ns.map V.int) ∧ ns.length ≤ 1000 ∧
  ∀ (b c : Addr) (cs : List Int) (H' : Hp), b ≠ c → H' b = some (.lst [.int 0, .int 1234567891, .int 0, .ref c]) → H' c = some (.lst (cs.map V.int)) → Q (.ref b) H'
def spLaw (K : PySem.W.Frag) : Sp := fun vs H Q _ => ∃ (a : Addr) (ns : List Int), vs = [.ref a] ∧ SqL K H a (ns.map V.int) ∧ ns.length ≤ 63 ∧ ∀ H', Q (.bl true) H'
def RTrue : Out → Prop := fun o => ∃ m, o = .ret (.bl true) m
section
variable {S : Sc} {rest : List Stmt} {H : Hp} {Q : VK} {E : XK} {vs : List V} {fB : Addr} {fdB : FuncData} {k : Nat} {p0 p1 p2 p3 p4 : Pos}
theorem law_first (n : Nat) (h : spLaw S.X.K vs H Q E) (hZ : ∀ x env m, S.Z x env m → False) (GB : FnOk S.X.prog S.X.w S.X.K S.X.mg S.X.base CX0 k fB fdB ["_law_script"] (spBag S.X.K)) (hr : Room k S.X.A) (hm : S.X.mg "_law_bag" = some (.ref fB)) (hk : PySem.W.keepIn S.X.K (.ref fB) = true) (hb : Binds S.X.K fdB ["_law_script"] [])
    (hrest : ∀ s, Good s → B S rest (none :: some (.cell 0) :: List.replicate n none) [bagC s] RTrue)
    (hl : S.X.N.length = n + 2 := by rfl) (h0 : S.X.N[0]? = some (Str.ofString "_law_script") := by rfl) (h1 : S.X.N[1]? = some (Str.ofString "_law_bag_here") := by rfl) (hv : Vis S.X.env.scope "_law_script" := by first | exact Or.inl rfl | exact Or.inr (Or.inl rfl) | exact Or.inr (Or.inr rfl))
    (hx : Loc S.X.env.scope "_law_bag_here" := by first | exact .inl rfl | exact .inr rfl) (hg : Gl S.X "_law_bag" := by rfl) (hf : S.X.fn "_law_bag_here" = true ∨ S.X.env.scope.names.lookup (Str.ofString "_law_bag_here") = some .local := by first | exact .inl rfl | exact .inr rfl)
    (hs : swapsWith (.Call (.Name "_law_bag" p1) [.Name "_law_script" p2] [] p3) (some (.Name "_law_bag_here" p0)) p4.line S.X.env = pure false := by rfl)
    (he : starEach [.Name "_law_script" p2] S.X.env = (false, eval (.Name "_law_script" p2) S.X.env) :: starEach [] S.X.env := by rfl) :
    ∃ t, PSs S.X (.Assign [.Name "_law_bag_here" p0] (.Call (.Name "_law_bag" p1) [.Name "_law_script" p2] [] p3) p4 :: rest) t ∧ t { nx := fun _ H' => Q .non H', rt := Q } (L2.start S.X.N vs) H := by
  obtain ⟨a, ns, rfl, hS, hn, q⟩ := h
  have h2 : PSs S.X rest (fun Dx σ H => ∃ s, Good s ∧ rdS S (none :: some (.cell 0) :: List.replicate n none) [bagC s] RTrue Dx σ H) := ⟨fun pins s σ H Dx I ⟨b, gb, z⟩ => (hrest b gb).run pins s σ H Dx I z⟩
  refine ⟨_, pss_cons (ps_set S.hN h1 hx (pe_call GB hr hg hm hk hb .nil pass0 (pa_cons (pe_var h0 hv (by decide) (by decide)) pa_nil he) (by decide) he rfl) hs hf) h2, ?_⟩
  have e0 : L2.start S.X.N [V.ref a] = some (.ref a) :: List.replicate (n + 1) none := by
    unfold L2.start
    rw [hl]
    rfl
  rw [e0]
  refine ⟨.ref a, rfl, a, ns, rfl, hS, by omega, fun b c cs H' nbc hb' hc' => ?_⟩
  refine ⟨⟨0, 1234567891, 0, cs⟩, ⟨Int.le_refl 0, (by decide : (0 : Int) ≤ 1234567891), (by decide : (1234567891 : Int) < 2147483647), Int.le_refl 0⟩, fun x => if x = c then some (.lst (cs.map V.int)) else none, [⟨b, none⟩], ⟨⟨?_, ?_⟩, ⟨?_, by simp, rfl, ?_, ?_⟩, fun x env m σ cls dx F2 H2 as2 z => (hZ x env m z).elim⟩, ?_, ?_, ?_, ?_⟩
  · show (none :: some (D.cell 0) :: List.replicate n none).length = (some (V.ref a) :: List.replicate (n + 1) none).length
    simp
  · intro i sv e
    match i, e with
    | 0, e => exact nomatch e
    | 1, e =>
      obtain rfl : D.cell 0 = sv := Option.some.inj (Option.some.inj e)
      exact ⟨.ref b, rfl, .cell (ad := ⟨b, none⟩) rfl⟩
    | i + 2, e =>
      have e' : (List.replicate n (none : Option D))[i]? = some (some sv) := e
      rw [List.getElem?_replicate] at e'
      split at e' <;> exact nomatch e'
  · intro x o e
    have e : (if x = c then some (HO.lst (cs.map V.int)) else none) = some o := e
    by_cases hx : x = c
    · rw [if_pos hx] at e
      rw [hx, hc']
      exact e
    · rw [if_neg hx] at e
      exact nomatch e
  · intro i x cl hx hcl
    match i, hx, hcl with
    | 0, hx, hcl =>
      obtain rfl : (⟨b, none⟩ : Ad) = x := Option.some.inj hx
      obtain rfl := Option.some.inj hcl
      refine ⟨rfl, if_neg nbc, _, hb', .cons (.int 0) (.cons (.int _) (.cons (.int 0) (.cons (.lst (if_pos rfl) (DVs.ofInts cs)) .nil)))⟩
  · intro x hx
    rw [List.mem_singleton.mp hx]
    show H' b ≠ none
    rw [hb']
    exact fun z => nomatch z
  · rintro _ _ _ _ _ _ ⟨m, e⟩
    exact nomatch e
  · rintro sv m v F2 H2 as2 ⟨m', e⟩ _ _ r
    cases e
    cases r
    exact q H2
  · rintro _ _ _ _ _ _ ⟨m, e⟩
    exact nomatch e
  · rintro _ _ _ _ _ _ ⟨m, e⟩
    exact nomatch e
end
end Lm

/-! LM7: the first labels. -/
namespace Lm
open PySem PySem.Spec PyProof.Rows L2 Me
abbrev letT : Str := "abcdefghijklmnopqrstuvwxyz"
def sg (c : Nat) : Str := ⟨#[c]⟩
def lettersL : List Nat := letT.cps.toList
def firsA : List Str := (List.range 8).map fun (k : Nat) => Txt.mul "a" ((k : Int) + 1)
def firsB : List Str := (lettersL.drop 1).map fun c => Txt.mul "a" 7 ++ sg c
def firsC : List Str := (lettersL.drop 1).flatMap fun c => (Txt.mul "a" 6 ++ sg c) :: lettersL.map fun l => Txt.mul "a" 6 ++ sg c ++ sg l
def firsts : List Str := (firsA ++ firsB ++ firsC).take 200
theorem firsts_len : firsts.length = 200 := by decide +kernel
theorem firsts_lab : ∀ x ∈ firsts, (1 ≤ x.length ∧ x.length ≤ 8) ∧ ∀ c ∈ x.cps.toList, 97 ≤ c ∧ c ≤ 122 := by decide +kernel
theorem firsts_nd : firsts.Nodup := by decide +kernel
/-- y comes behind x -/
def StepTo (x y : Str) : Prop := (x.length < 8 ∧ y = x ++ "a") ∨ (x.length = 8 ∧ ∃ (c i c' : Nat) (rest : List Nat), L2.atI (Txt.rstripChars x "z").cps.toList (-1) = some c ∧ (Txt.rstripChars x "z").length ≤ 8 ∧
  Builtin.Str.occurrences letT (sg c) 0 letT.length 1 = i :: rest ∧ L2.atI letT.cps.toList ((i : Int) + 1) = some c' ∧ y = cutS (Txt.rstripChars x "z") none (some (-1)) ++ sg c' ∧ (cutS (Txt.rstripChars x "z") none (some (-1))).length ≤ 8)
def stepB (x y : Str) : Bool := (decide (x.length < 8) && decide (y = x ++ "a")) || (decide (x.length = 8) && match L2.atI (Txt.rstripChars x "z").cps.toList (-1) with
  | some c => decide ((Txt.rstripChars x "z").length ≤ 8) && (match Builtin.Str.occurrences letT (sg c) 0 letT.length 1 with
    | i :: _ => (match L2.atI letT.cps.toList ((i : Int) + 1) with
      | some c' => decide (y = cutS (Txt.rstripChars x "z") none (some (-1)) ++ sg c') && decide ((cutS (Txt.rstripChars x "z") none (some (-1))).length ≤ 8)
      | none => false)
    | [] => false)
  | none => false)
theorem stepB_ok {x y : Str} (h : stepB x y = true) : StepTo x y := by
  unfold stepB at h
  rcases Bool.or_eq_true_iff.mp h with h | h
  · obtain ⟨h1, h2⟩ := Bool.and_eq_true_iff.mp h
    exact .inl ⟨of_decide_eq_true h1, of_decide_eq_true h2⟩
  · obtain ⟨h1, h2⟩ := Bool.and_eq_true_iff.mp h
    refine .inr ⟨of_decide_eq_true h1, ?_⟩
    split at h2
    · rename_i c hc
      obtain ⟨h3, h4⟩ := Bool.and_eq_true_iff.mp h2
      split at h4
      · rename_i i rest hi
        split at h4
        · rename_i c' hc'
          obtain ⟨h5, h6⟩ := Bool.and_eq_true_iff.mp h4
          exact ⟨c, i, c', rest, hc, of_decide_eq_true h3, hi, hc', of_decide_eq_true h5, of_decide_eq_true h6⟩
        · exact nomatch h4
      · exact nomatch h4
    · exact nomatch h2
theorem firsts_stepB : (List.range 199).all (fun i => stepB (firsts.getD i "") (firsts.getD (i + 1) "")) = true := by decide +kernel
theorem firsts_step {i : Nat} {x y : Str} (h1 : firsts[i]? = some x) (h2 : firsts[i + 1]? = some y) : StepTo x y := by
  have hi : i + 1 < 200 := by rw [← firsts_len]; exact (List.getElem?_eq_some_iff.mp h2).1
  have z := List.all_eq_true.mp firsts_stepB i (List.mem_range.mpr (by omega))
  rw [List.getD_eq_getElem?_getD, List.getD_eq_getElem?_getD, h1, h2] at z
  exact stepB_ok z
end Lm

/-! LM8: the least label that is not known; dicts by texts. -/
namespace Lm
open PySem PySem.Spec PyProof.Rows L2 Me
theorem sub_len {α : Type} [DecidableEq α] : ∀ {l k : List α}, l.Nodup → (∀ x ∈ l, x ∈ k) → l.length ≤ k.length
  | [], k, _, _ => Nat.zero_le _
  | a :: l, k, h, s => by
    obtain ⟨h1, h2⟩ := List.nodup_cons.mp h
    have ha := s a List.mem_cons_self
    have ih := sub_len (l := l) (k := k.erase a) h2 fun x hx => (List.mem_erase_of_ne (fun z => h1 (by rw [← z]; exact hx))).mpr (s x (List.mem_cons_of_mem _ hx))
    have e := List.length_erase_of_mem ha
    have := List.length_pos_of_mem ha
    rw [List.length_cons]
    omega
/-- the least label that is in none -/
def leastS (ks : List Str) : Str := (firsts.find? fun x => decide (x ∉ ks)).getD "a"
theorem least_at {ks : List Str} {i : Nat} {x : Str} (h : firsts[i]? = some x) (hn : x ∉ ks) (hb : ∀ j < i, ∀ y, firsts[j]? = some y → y ∈ ks) : leastS ks = x := by
  have e : firsts.find? (fun x => decide (x ∉ ks)) = some x := by
    rw [List.find?_eq_some_iff_getElem]
    refine ⟨by simpa using hn, i, (List.getElem?_eq_some_iff.mp h).1, (List.getElem?_eq_some_iff.mp h).2, fun j hj => ?_⟩
    have := hb j hj _ (List.getElem?_eq_getElem (Nat.lt_trans hj (List.getElem?_eq_some_iff.mp h).1))
    simpa using this
  unfold leastS
  rw [e]
  rfl
theorem least_ex {ks : List Str} (h : ks.length ≤ 199) : ∃ x, firsts.find? (fun x => decide (x ∉ ks)) = some x ∧ leastS ks = x := by
  cases e : firsts.find? (fun x => decide (x ∉ ks)) with
  | some x => exact ⟨x, rfl, by unfold leastS; rw [e]; rfl⟩
  | none =>
    have h2 := List.find?_eq_none.mp e
    have := sub_len firsts_nd fun x hx => by simpa using h2 x hx
    rw [firsts_len] at this
    omega
theorem least_ok {ks : List Str} (h : ks.length ≤ 199) : leastS ks ∉ ks ∧ leastS ks ∈ firsts := by
  obtain ⟨x, h1, h2⟩ := least_ex h
  rw [h2]
  exact ⟨by simpa using List.find?_some h1, List.mem_of_find?_eq_some h1⟩
theorem first_lab {x : Str} (h : x ∈ firsts) : Lab x ∧ x.length ≤ 8 := by
  obtain ⟨⟨h1, h2⟩, h3⟩ := firsts_lab x h
  exact ⟨⟨h3, h1, by omega⟩, h2⟩
/-! ### dicts by texts -/
abbrev skK (x : Str) : DK := .k (.inr x)
theorem skK_inj {a b : Str} : skK a = skK b ↔ a = b := ⟨fun h => by injection h with h; exact Sum.inr.inj h, fun h => h ▸ rfl⟩
theorem any_put (kvs : List (DK × D)) (k k' : DK) (d : D) : ((putD kvs k d).any fun kv => decide (kv.1 = k')) = ((kvs.any fun kv => decide (kv.1 = k')) || decide (k = k')) := by
  unfold putD
  split
  · rename_i h
    rw [List.any_map]
    have e : (kvs.any ((fun kv => decide (kv.1 = k')) ∘ fun kv => if kv.1 = k then (kv.1, d) else kv)) = kvs.any fun kv => decide (kv.1 = k') := by
      congr 1
      funext kv
      show decide ((if kv.1 = k then (kv.1, d) else kv).1 = k') = _
      split <;> rfl
    rw [e]
    by_cases hk : k = k'
    · rw [← hk, h]
      rfl
    · rw [decide_eq_false hk, Bool.or_false]
  · rw [List.any_append]
    simp
theorem any_puts (k' : DK) : ∀ (ps acc : List (DK × D)), ((putsD acc ps).any fun kv => decide (kv.1 = k')) = ((acc.any fun kv => decide (kv.1 = k')) || ps.any fun p => decide (p.1 = k'))
  | [], acc => by simp [putsD]
  | p :: ps, acc => by
    show ((putsD (putD acc p.1 p.2) ps).any fun kv => decide (kv.1 = k')) = _
    rw [any_puts k' ps, any_put, List.any_cons, Bool.or_assoc]
theorem has_puts (ps : List (DK × D)) (k : DK) : (valD (putsD [] ps) k).isSome = ps.any fun p => decide (p.1 = k) := by
  rw [← valD_any, any_puts]
  simp
theorem has_strs (v : D) (k : Str) : ∀ ks : List Str, ((ks.map fun x => (skK x, v)).any fun p => decide (p.1 = skK k)) = decide (k ∈ ks)
  | [] => rfl
  | x :: ks => by
    rw [List.map_cons, List.any_cons, has_strs v k ks]
    by_cases h : x = k
    · simp [h]
    · have h2 : ¬ k = x := fun z => h z.symm
      have h3 : ¬ skK x = skK k := fun z => h (skK_inj.mp z)
      simp [h2, h3]
theorem foldD_puts (ps : List (DK × D)) : foldD ps = putsD [] ps := rfl
/-! ### contracts -/
def CAfter : Ct := fun args μ P _ => ∃ x y, args = [.str x] ∧ StepTo x y ∧ P (.str y) μ
/-- names in a list; some of the first labels is in none -/
def CLeast : Ct := fun args μ P _ => ∃ d ns, args = [d] ∧ vw μ d = .lst (nmsD ns) ∧ ns.length ≤ 1000 ∧ ns.flatten.length ≤ 199 ∧ P (.str (leastS ns.flatten)) μ
end Lm

namespace Lm
open PySem PySem.Spec PyProof.Rows L2 Me
def topS (i : Nat) : Stmt := PySem.Challenge.pw_listnames_k15_least_labels.main.body.getD i (.Pass ⟨0, 0, 0, 0⟩)
abbrev sPLabelAfter : Stmt := topS 3
abbrev nPLabelAfter : List Str := ["label", "kept"]
abbrev pPLabelAfter : List Str := ["label"]
theorem scPLabelAfter : FnScope nPLabelAfter pPLabelAfter (defScope sPLabelAfter) := ⟨rfl, rfl, rfl, by decide +kernel, rfl, by decide +kernel, by decide +kernel⟩
abbrev sPLeastLabel : Stmt := topS 4
abbrev nPLeastLabel : List Str := ["names", "known", "name", "label", "found"]
abbrev pPLeastLabel : List Str := ["names"]
theorem scPLeastLabel : FnScope nPLeastLabel pPLeastLabel (defScope sPLeastLabel) := ⟨rfl, rfl, rfl, by decide +kernel, rfl, by decide +kernel, by decide +kernel⟩
abbrev sBag : Stmt := topS 6
abbrev nBag : List Str := ["_law_script", "_law_cell"]
abbrev pBag : List Str := ["_law_script"]
theorem scBag : FnScope nBag pBag (defScope sBag) := ⟨rfl, rfl, rfl, by decide +kernel, rfl, by decide +kernel, by decide +kernel⟩
abbrev sTake : Stmt := topS 7
abbrev nTake : List Str := ["_law_bag_here", "_law_many", "_law_cell", "_law_more", "_law_drawn"]
abbrev pTake : List Str := ["_law_bag_here", "_law_many"]
theorem scTake : FnScope nTake pTake (defScope sTake) := ⟨rfl, rfl, rfl, by decide +kernel, rfl, by decide +kernel, by decide +kernel⟩
abbrev sLMix : Stmt := topS 8
abbrev nLMix : List Str := ["_law_bag_here", "_law_some", "_law_found", "_law_one"]
abbrev pLMix : List Str := ["_law_bag_here", "_law_some"]
theorem scLMix : FnScope nLMix pLMix (defScope sLMix) := ⟨rfl, rfl, rfl, by decide +kernel, rfl, by decide +kernel, by decide +kernel⟩
abbrev sLabels : Stmt := topS 9
abbrev nLabels : List Str := ["_law_bag_here", "_law_many", "_law_turn", "_law_stem", "_law_letters", "_law_k"]
abbrev pLabels : List Str := ["_law_bag_here", "_law_many"]
theorem scLabels : FnScope nLabels pLabels (defScope sLabels) := ⟨rfl, rfl, rfl, by decide +kernel, rfl, by decide +kernel, by decide +kernel⟩
abbrev sLFirstLabels : Stmt := topS 10
abbrev nLFirstLabels : List Str := ["_law_many", "_law_letters", "_law_found", "_law_k", "_law_letter", "_law_last"]
abbrev pLFirstLabels : List Str := ["_law_many"]
theorem scLFirstLabels : FnScope nLFirstLabels pLFirstLabels (defScope sLFirstLabels) := ⟨rfl, rfl, rfl, by decide +kernel, rfl, by decide +kernel, by decide +kernel⟩
abbrev sLaw : Stmt := topS 11
abbrev nLaw : List Str := ["_law_script", "_law_bag_here", "_law_firsts", "_law_turn", "_law_labels_here", "_law_names", "_law_k", "_law_known", "_law_name", "_law_label", "_law_due", "_law_shown", "_law_again"]
abbrev pLaw : List Str := ["_law_script"]
theorem scLaw : FnScope nLaw pLaw (defScope sLaw) := ⟨rfl, rfl, rfl, by decide +kernel, rfl, by decide +kernel, by decide +kernel⟩
end Lm


namespace Lm
open PySem PySem.Spec PyProof.Rows L2 Me
section
local macro_rules | `(tactic| walk_at "ev") => `(tactic| first
  | refine e_var 0 rfl ?_ | refine e_var 1 rfl ?_ | refine e_var 2 rfl ?_ | refine e_var 3 rfl ?_ | refine e_var 4 rfl ?_ | refine e_var 5 rfl ?_ | refine e_var 6 rfl ?_ | refine e_var 7 rfl ?_ | refine e_var 8 rfl ?_ | refine e_var 9 rfl ?_
  | refine e_var 10 rfl ?_ | refine e_var 11 rfl ?_ | refine e_var 12 rfl ?_ | refine e_var 13 rfl ?_ | refine e_var 14 rfl ?_ | refine e_var 15 rfl ?_ | refine e_var 16 rfl ?_ | refine e_var 17 rfl ?_ | refine e_var 18 rfl ?_ | refine e_var 19 rfl ?_ | refine e_var 20 rfl ?_)
local macro_rules | `(tactic| walk_at "ec") => `(tactic| first
  | refine k_len ?_ | refine k_int ?_ | refine k_tuple ?_ | refine k_list ?_ | refine k_repr ?_ | refine k_sorted ?_ | refine k_dict ?_ | refine k_all ?_ | refine k_min ?_ | refine k_abs ?_ | refine k_isinstance ?_)
local macro_rules | `(tactic| walk_at "ee") => `(tactic| first
  | ((with_reducible show Me.E _ (Expr.Name _ _) _ _ _); walk_at "ev")
  | ((with_reducible show Me.E _ (Expr.Constant _ _ _) _ _ _); first | refine e_int ?_ | refine e_str ?_ | refine e_bl ?_ | refine e_non ?_)
  | ((with_reducible show Me.E _ (Expr.BinOp _ _ _ _) _ _ _); refine e_bin ?_)
  | ((with_reducible show Me.E _ (Expr.Compare _ _ _ _) _ _ _); refine e_cmp ?_)
  | ((with_reducible show Me.E _ (Expr.Subscript _ (Expr.Slice _ _ _ _) _) _ _ _); refine e_sl ?_)
  | ((with_reducible show Me.E _ (Expr.Subscript _ _ _) _ _ _); refine e_ix ?_)
  | ((with_reducible show Me.E _ (Expr.Tuple _ _ _) _ _ _); refine e_tup ?_)
  | ((with_reducible show Me.E _ (Expr.UnaryOp UnaryOp.Not _ _) _ _ _); refine e_not ?_)
  | ((with_reducible show Me.E _ (Expr.UnaryOp _ _ _) _ _ _); refine e_un ?_)
  | ((with_reducible show Me.E _ (Expr.IfExp _ _ _ _) _ _ _); refine e_ite ?_)
  | ((with_reducible show Me.E _ (Expr.BoolOp _ _ _) _ _ _); first | refine e_one ?_ | refine e_and ?_ | refine e_or ?_)
  | ((with_reducible show Me.E _ (Expr.Call (Expr.Name _ _) _ _ _) _ _ _); walk_at "ec"))
local macro_rules | `(tactic| walk_at "bb") => `(tactic| first
  | refine b_nil ?_ | refine b_ret ?_ | refine b_setIx ?_ | refine b_expr ?_
  | refine b_set 0 ?_ | refine b_set 1 ?_ | refine b_set 2 ?_ | refine b_set 3 ?_ | refine b_set 4 ?_ | refine b_set 5 ?_ | refine b_set 6 ?_ | refine b_set 7 ?_ | refine b_set 8 ?_ | refine b_set 9 ?_ | refine b_set 10 ?_ | refine b_set 11 ?_ | refine b_set 12 ?_ | refine b_set 13 ?_ | refine b_set 14 ?_ | refine b_set 15 ?_ | refine b_set 16 ?_ | refine b_set 17 ?_ | refine b_set 18 ?_)
local macro_rules | `(tactic| walk_at "oo") => `(tactic| first
  | ((with_reducible show Op2 _ (binaryOp _) _ _ _ _ _); first
    | (with_reducible refine o_add ?_) | (with_reducible refine o_sub ?_)
    | ((with_reducible show Op2 _ (binaryOp Operator.Mod) (D.int _) (D.int _) _ _ _); refine o_mod (by first | decide | assumption | omega) ?_)
    | ((with_reducible show Op2 _ (binaryOp Operator.FloorDiv) (D.int _) (D.int _) _ _ _); refine o_fdiv (by first | decide | assumption | omega) ?_)
    | ((with_reducible show Op2 _ (binaryOp Operator.Mult) (D.int _) (D.int _) _ _ _); first | refine o_mul (Or.inr ⟨by decide, by decide⟩) ?_ | refine o_mul (Or.inl ⟨by decide, by decide⟩) ?_))
  | ((with_reducible show Op2 _ (compareOp _) _ _ _ _ _); first
    | (with_reducible refine o_lt ?_) | (with_reducible refine o_le ?_) | (with_reducible refine o_gt ?_) | (with_reducible refine o_ge ?_) | (with_reducible refine o_eqI ?_) | (with_reducible refine o_neI ?_) | (with_reducible refine o_eqS ?_) | (with_reducible refine o_neS ?_) | (with_reducible refine o_isN ?_) | (with_reducible refine o_isntN ?_))
  | (with_reducible refine o_neg ?_)
  | ((with_reducible show Cl _ (Value.type "int") _ _ _ _); refine c_int ?_)
  | ((with_reducible show Cl _ (Value.builtin "len") _ _ _ _); first | (with_reducible refine c_lenN ?_) | (with_reducible refine c_lenT ?_) | refine c_lenL rfl ?_)
  | ((with_reducible show Ix2 _ (D.tup _) _ _ _ _); refine x_tup rfl ?_)
  | ((with_reducible show Ix2 _ _ _ _ _ _); refine x_lst rfl rfl ?_))
local macro_rules | `(tactic| walk_at "me") => `(tactic| first
  | ((with_reducible show Me.E _ _ _ _ _); walk_at "ee")
  | ((with_reducible show Me.A _ _ _ _ _); first | refine a_cons ?_ | refine a_nil ?_)
  | ((with_reducible show Me.Thn _ _ _ (Out.next _ _)); refine thn_n ?_)
  | ((with_reducible show Me.B _ _ _ _ _); walk_at "bb")
  | ((with_reducible show Me.T _ _ _ _ _); first | refine t_cmp ?_ | refine t_bop ?_ | refine t_not ?_)
  | ((with_reducible show Me.W _ _ _ _ _); first | refine w_and1 ?_ | refine w_or1 ?_ | refine w_and ?_ | refine w_or ?_)
  | ((with_reducible show Me.OI _ _ _ _ _); first | refine o_none ?_ | refine o_some ?_)
  | walk_at "oo"
  | (with_reducible refine asT_i ?_)
  | (with_reducible refine ⟨_, rfl, ?_⟩))
local macro_rules | `(tactic| walk_at "go") => `(tactic| repeat (walk_at "me"))
variable {w : World} {P : Program} {base : Heap} {mg : Str → Option Value} {K : PySem.W.Frag} {Γ : Gam}
set_option maxHeartbeats 4000000 in
theorem ok_take (hK : Γ.K = K) {f : Addr} {fd : FuncData} {k : Nat} (F : Fun K "_law_take" "_law_take" sTake f fd) (hb : Bi mg) : Gd.FnG P w K mg base (L2.CX P w) (k + 1) f fd pTake (spM Γ CTake) := by
  refine okM hK hb F scTake (by rintro _ _ _ _ ⟨b, n, m, rfl, _⟩; rfl) ?_
  rintro cdv A outer s H E hg rm _ _ Q Z ⟨b, n, m, rfl, rfl, gb, hn, hn2, q⟩
  have last : ∀ (x2 x3 : Option D) (z : Bag), z = fill b → B (bodyS P w K mg base Γ hK nTake "_law_take" sTake f cdv A outer s H E (ZR (bagC b :: m) Z) hg scTake.nd hb k rm) ((defBody sTake).drop 1) [some (.cell 0), some (.int n), x2, x3, none] (bagC z :: m)
      (RetR Γ (bagC b :: m) Q) := by
    intro x2 x3 z hz
    refine b_if ?_
    walk_at "go"
    refine ⟨fun h => ?_, fun h => ?_⟩
    · have hz0 : 0 < z.a := of_decide_eq_true h
      walk_at "go"
      refine t_setL (n := 0) rfl (by show 0 < 4; decide) ?_
      walk_at "go"
      refine rt ?_
      have e1 : takeV b n = z.a % n := by unfold takeV; rw [← hz, if_pos hz0]
      have e2 : bagC (takeS b n) = .lst ((bagD z).set 0 (.int (z.a / n))) := by unfold takeS; rw [← hz, if_pos hz0]; rfl
      rw [e1, e2] at q
      exact q
    · have hz0 : ¬ 0 < z.a := of_decide_eq_false h
      refine b_nil ?_
      walk_at "go"
      refine t_setL (n := 1) rfl (by show 1 < 4; decide) ?_
      walk_at "go"
      refine rt ?_
      have e1 : takeV b n = (z.seed * 48271 + 11) % 2147483647 / 64 % n := by unfold takeV; rw [← hz, if_neg hz0]
      have e2 : bagC (takeS b n) = .lst ((bagD z).set 1 (.int ((z.seed * 48271 + 11) % 2147483647))) := by unfold takeS; rw [← hz, if_neg hz0]; rfl
      rw [e1, e2] at q
      exact q
  refine b_if ?_
  walk_at "go"
  refine ⟨fun h => ?_, fun h => ?_⟩
  · have h0 : b.a = 0 := of_decide_eq_true h
    have fin : ∀ c : Int, c = cellOf b → B (bodyS P w K mg base Γ hK nTake "_law_take" sTake f cdv A outer s H E (ZR (bagC b :: m) Z) hg scTake.nd hb k rm) (((match (defBody sTake).head? with | some (.If _ t _ _) => t | _ => [])).drop 2) [some (.cell 0), some (.int n), some (.int c), none, none] (bagC b :: m)
        (Thn (bodyS P w K mg base Γ hK nTake "_law_take" sTake f cdv A outer s H E (ZR (bagC b :: m) Z) hg scTake.nd hb k rm) ((defBody sTake).drop 1) (RetR Γ (bagC b :: m) Q)) := by
      intro c hc
      refine b_augIx ?_
      walk_at "go"
      refine ⟨0, 2, b.i, bagD b, rfl, rfl, rfl, rfl, ?_⟩
      walk_at "go"
      refine ⟨1, bagD b, rfl, rfl, by show 2 < 4; decide, ?_⟩
      refine b_if ?_
      walk_at "go"
      refine ⟨fun h => ?_, fun h => ?_⟩
      · have h1 : 1000000000000000000 ≤ c := of_decide_eq_true h
        walk_at "go"
        refine t_setL (n := 0) rfl (by show 0 < 4; decide) ?_
        walk_at "go"
        refine t_setL (n := 1) rfl (by show 1 < 4; decide) ?_
        walk_at "go"
        refine last _ _ ⟨c, (b.seed * 48271 + (c % 2147483647 + 7919 * (b.i + 1))) % 2147483647, b.i + 1, b.cells⟩ ?_
        unfold fill
        rw [if_pos h0, ← hc, if_pos h1]
      · have h1 : ¬ 1000000000000000000 ≤ c := of_decide_eq_false h
        walk_at "go"
        refine t_setL (n := 1) rfl (by show 1 < 4; decide) ?_
        walk_at "go"
        refine last _ _ ⟨b.a, (b.seed * 48271 + (c % 2147483647 + 7919 * (b.i + 1))) % 2147483647, b.i + 1, b.cells⟩ ?_
        unfold fill
        rw [if_pos h0, ← hc, if_neg h1, h0]
    refine b_set 2 ?_
    refine e_int ?_
    refine b_if ?_
    walk_at "go"
    refine ⟨fun h => ?_, fun h => ?_⟩
    · have h1 : b.i < ((b.cells.map D.int).length : Int) := of_decide_eq_true h
      rw [List.length_map] at h1
      have i0 := gb.i0
      walk_at "go"
      refine x_lst rfl (at_ints i0 h1) ?_
      refine b_nil ?_
      exact fin _ (by unfold cellOf; rw [if_pos h1])
    · have h1 : ¬ b.i < ((b.cells.map D.int).length : Int) := of_decide_eq_false h
      rw [List.length_map] at h1
      refine b_nil ?_
      exact fin 0 (by unfold cellOf; rw [if_neg h1])
  · have h0 : ¬ b.a = 0 := of_decide_eq_false h
    refine b_nil ?_
    exact last none none b (by unfold fill; rw [if_neg h0])
end
end Lm

namespace Lm
open PySem PySem.Spec PyProof.Rows L2 Me
section
local macro_rules | `(tactic| walk_at "ev") => `(tactic| first
  | refine e_var 0 rfl ?_ | refine e_var 1 rfl ?_ | refine e_var 2 rfl ?_ | refine e_var 3 rfl ?_ | refine e_var 4 rfl ?_ | refine e_var 5 rfl ?_ | refine e_var 6 rfl ?_ | refine e_var 7 rfl ?_ | refine e_var 8 rfl ?_ | refine e_var 9 rfl ?_
  | refine e_var 10 rfl ?_ | refine e_var 11 rfl ?_ | refine e_var 12 rfl ?_ | refine e_var 13 rfl ?_ | refine e_var 14 rfl ?_ | refine e_var 15 rfl ?_ | refine e_var 16 rfl ?_ | refine e_var 17 rfl ?_ | refine e_var 18 rfl ?_ | refine e_var 19 rfl ?_ | refine e_var 20 rfl ?_)
local macro_rules | `(tactic| walk_at "ec") => `(tactic| first
  | refine k_len ?_ | refine k_int ?_ | refine k_tuple ?_ | refine k_list ?_ | refine k_repr ?_ | refine k_sorted ?_ | refine k_dict ?_ | refine k_all ?_ | refine k_min ?_ | refine k_abs ?_ | refine k_isinstance ?_)
local macro_rules | `(tactic| walk_at "ee") => `(tactic| first
  | ((with_reducible show Me.E _ (Expr.Name _ _) _ _ _); walk_at "ev")
  | ((with_reducible show Me.E _ (Expr.Constant _ _ _) _ _ _); first | refine e_int ?_ | refine e_str ?_ | refine e_bl ?_ | refine e_non ?_)
  | ((with_reducible show Me.E _ (Expr.BinOp _ _ _ _) _ _ _); refine e_bin ?_)
  | ((with_reducible show Me.E _ (Expr.Compare _ _ _ _) _ _ _); refine e_cmp ?_)
  | ((with_reducible show Me.E _ (Expr.Subscript _ (Expr.Slice _ _ _ _) _) _ _ _); refine e_sl ?_)
  | ((with_reducible show Me.E _ (Expr.Subscript _ _ _) _ _ _); refine e_ix ?_)
  | ((with_reducible show Me.E _ (Expr.Tuple _ _ _) _ _ _); refine e_tup ?_)
  | ((with_reducible show Me.E _ (Expr.UnaryOp UnaryOp.Not _ _) _ _ _); refine e_not ?_)
  | ((with_reducible show Me.E _ (Expr.UnaryOp _ _ _) _ _ _); refine e_un ?_)
  | ((with_reducible show Me.E _ (Expr.IfExp _ _ _ _) _ _ _); refine e_ite ?_)
  | ((with_reducible show Me.E _ (Expr.BoolOp _ _ _) _ _ _); first | refine e_one ?_ | refine e_and ?_ | refine e_or ?_)
  | ((with_reducible show Me.E _ (Expr.Call (Expr.Name _ _) _ _ _) _ _ _); walk_at "ec"))
local macro_rules | `(tactic| walk_at "bb") => `(tactic| first
  | refine b_nil ?_ | refine b_ret ?_ | refine b_setIx ?_ | refine b_expr ?_
  | refine b_set 0 ?_ | refine b_set 1 ?_ | refine b_set 2 ?_ | refine b_set 3 ?_ | refine b_set 4 ?_ | refine b_set 5 ?_ | refine b_set 6 ?_ | refine b_set 7 ?_ | refine b_set 8 ?_ | refine b_set 9 ?_ | refine b_set 10 ?_ | refine b_set 11 ?_ | refine b_set 12 ?_ | refine b_set 13 ?_ | refine b_set 14 ?_ | refine b_set 15 ?_ | refine b_set 16 ?_ | refine b_set 17 ?_ | refine b_set 18 ?_)
local macro_rules | `(tactic| walk_at "oo") => `(tactic| first
  | ((with_reducible show Op2 _ (binaryOp _) _ _ _ _ _); first
    | (with_reducible refine o_add ?_) | (with_reducible refine o_sub ?_)
    | ((with_reducible show Op2 _ (binaryOp Operator.Mod) (D.int _) (D.int _) _ _ _); refine o_mod (by first | decide | assumption | omega) ?_)
    | ((with_reducible show Op2 _ (binaryOp Operator.FloorDiv) (D.int _) (D.int _) _ _ _); refine o_fdiv (by first | decide | assumption | omega) ?_)
    | ((with_reducible show Op2 _ (binaryOp Operator.Mult) (D.int _) (D.int _) _ _ _); first | refine o_mul (Or.inr ⟨by decide, by decide⟩) ?_ | refine o_mul (Or.inl ⟨by decide, by decide⟩) ?_))
  | ((with_reducible show Op2 _ (compareOp _) _ _ _ _ _); first
    | (with_reducible refine o_lt ?_) | (with_reducible refine o_le ?_) | (with_reducible refine o_gt ?_) | (with_reducible refine o_ge ?_) | (with_reducible refine o_eqI ?_) | (with_reducible refine o_neI ?_) | (with_reducible refine o_eqS ?_) | (with_reducible refine o_neS ?_) | (with_reducible refine o_isN ?_) | (with_reducible refine o_isntN ?_))
  | (with_reducible refine o_neg ?_)
  | ((with_reducible show Cl _ (Value.type "int") _ _ _ _); refine c_int ?_)
  | ((with_reducible show Cl _ (Value.builtin "len") _ _ _ _); first | (with_reducible refine c_lenN ?_) | (with_reducible refine c_lenT ?_) | refine c_lenL rfl ?_)
  | ((with_reducible show Ix2 _ (D.tup _) _ _ _ _); refine x_tup rfl ?_)
  | ((with_reducible show Ix2 _ _ _ _ _ _); refine x_lst rfl rfl ?_))
local macro_rules | `(tactic| walk_at "me") => `(tactic| first
  | ((with_reducible show Me.E _ _ _ _ _); walk_at "ee")
  | ((with_reducible show Me.A _ _ _ _ _); first | refine a_cons ?_ | refine a_nil ?_)
  | ((with_reducible show Me.Thn _ _ _ (Out.next _ _)); refine thn_n ?_)
  | ((with_reducible show Me.B _ _ _ _ _); walk_at "bb")
  | ((with_reducible show Me.T _ _ _ _ _); first | refine t_cmp ?_ | refine t_bop ?_ | refine t_not ?_)
  | ((with_reducible show Me.W _ _ _ _ _); first | refine w_and1 ?_ | refine w_or1 ?_ | refine w_and ?_ | refine w_or ?_)
  | ((with_reducible show Me.OI _ _ _ _ _); first | refine o_none ?_ | refine o_some ?_)
  | walk_at "oo"
  | (with_reducible refine asT_i ?_)
  | (with_reducible refine ⟨_, rfl, ?_⟩))
local macro_rules | `(tactic| walk_at "go") => `(tactic| repeat (walk_at "me"))
variable {w : World} {P : Program} {base : Heap} {mg : Str → Option Value} {K : PySem.W.Frag} {Γ : Gam}
theorem stems_ok : ∀ d ∈ ([.str "", .str "a", .str "zzzzzzz", .str "aaaaaaa"] : List D), ∃ x, d = .str x ∧ Stem x := by
  intro d hd
  simp only [List.mem_cons, List.not_mem_nil, or_false] at hd
  rcases hd with rfl | rfl | rfl | rfl
  · exact ⟨_, rfl, by decide, by decide⟩
  · exact ⟨_, rfl, by decide, by decide⟩
  · exact ⟨_, rfl, by decide, by decide⟩
  · exact ⟨_, rfl, by decide, by decide⟩
theorem ok_labels (hK : Γ.K = K) {f : Addr} {fd : FuncData} {k j : Nat} (F : Fun K "_law_labels" "_law_labels" sLabels f fd) (hb : Bi mg) (FT : Fn P w K mg base Γ j "_law_take" CTake) (hj : j ≤ k) : Gd.FnG P w K mg base (L2.CX P w) (k + 1) f fd pLabels (spM Γ (CBag ALabels RLabels)) := by
  refine okM hK hb F scLabels (by rintro _ _ _ _ ⟨b, m, r, rfl, _, _, ⟨n, rfl, _⟩, _⟩; rfl) ?_
  rintro cdv A outer s H E hg rm _ _ Q Z ⟨b, m, _, rfl, rfl, gb, ⟨n, rfl, hn⟩, q⟩
  have g1 := takeS_good (n := 26) gb (by decide)
  have g2 := takeS_good (n := 4) g1 (by decide)
  obtain ⟨d, hm, ha⟩ := at_draw (b := takeS b 26) (ds := [.str "", .str "a", .str "zzzzzzz", .str "aaaaaaa"]) (by simp)
  obtain ⟨stem, rfl, hst⟩ := stems_ok d hm
  have t0 := takeV_nonneg (s := b) (n := 26) (by decide)
  refine b_asg (g_tup2 2 3 rfl) ?_
  walk_at "go"
  refine e_call FT ?_
  walk_at "go"
  refine ctake gb (by omega) ?_
  walk_at "go"
  refine e_lst ?_
  walk_at "go"
  refine ⟨by show 4 ≤ sizeLine; decide, ?_⟩
  refine e_call FT ?_
  walk_at "go"
  refine ctake g1 (by omega) ?_
  refine x_lst (ds := [.str "", .str "a", .str "zzzzzzz", .str "aaaaaaa"]) rfl (at_i (takeV_nonneg (by decide)) ha) ?_
  walk_at "go"
  refine ⟨by show 2 ≤ sizeLine; decide, _, ⟨_, _, rfl, rfl⟩, ?_⟩
  walk_at "go"
  refine e_lc 5 rfl (blkOk_by (N := nLabels) (sc := defScope sLabels) (by decide +kernel)) (i_range1 hb.range ?_)
  walk_at "go"
  refine ⟨by omega, fun k acc m' => m' = bagC (takeS (takeS b 26) 4) :: m ∧ ∃ ls : List Str, acc = ls.map D.str ∧ ls.length = k ∧ ∀ x ∈ ls, Lab x ∧ x.length ≤ 8, ?_⟩
  refine ⟨by rw [rangeD_len, sizeLine_eq]; omega, ⟨rfl, [], rfl, rfl, fun x hx => nomatch hx⟩, fun _ _ _ _ => trivial, ?_, ?_⟩
  · rintro i d acc m' hd ⟨rfl, ls, rfl, hl, hls⟩
    have hi := (List.getElem?_eq_some_iff.mp hd).1
    rw [rangeD_len] at hi
    rw [rangeD_get hi] at hd
    obtain rfl := Option.some.inj hd
    obtain ⟨c, hc1, hc2⟩ := letter_at (i := (takeV b 26 + 3 * (0 + (i : Int))) % 26) (Int.emod_nonneg _ (by decide)) (Int.emod_lt_of_pos _ (by decide))
    obtain ⟨mk, ms⟩ := mul_bit hst (n := (0 + (i : Int)) % 2) (Int.emod_nonneg _ (by decide)) (Int.emod_lt_of_pos _ (by decide))
    have lb := lab_of ms hc2
    have ml := ms.len
    refine ⟨_, fun q m => q = true ∧ m = bagC (takeS (takeS b 26) 4) :: _, rfl, fun _ _ _ _ _ => ts_nil ⟨rfl, rfl⟩, ?_⟩
    rintro _ _ ⟨rfl, rfl⟩
    refine ⟨fun _ s H C cl fp => ?_, fun z => nomatch z⟩
    walk_at "go"
    refine o_mulS mk ?_
    walk_at "go"
    refine x_str (by rw [sizeLine_eq]; decide) (at_i (Int.emod_nonneg _ (by decide)) hc1) ?_
    refine o_cat ?_ ⟨rfl, ls ++ [_], by rw [List.map_append]; rfl, by rw [List.length_append, hl]; rfl, fun x hx => ?_⟩
    · rw [sizeLine_eq]
      have : (⟨#[c]⟩ : Str).length = 1 := rfl
      omega
    · rcases List.mem_append.mp hx with z | z
      · exact hls x z
      · rw [List.mem_singleton.mp z]
        exact lb
  · rintro acc m' ⟨rfl, ls, rfl, hl, hls⟩
    rw [rangeD_len] at hl
    refine rt (q _ _ ⟨n, ls, rfl, rfl, by omega, hls⟩ g2)
end
end Lm

namespace Lm
open PySem PySem.Spec PyProof.Rows L2 Me
theorem nmsL_at {ns : List (List Str)} {k : Nat} {d : D} (h : (nmsD ns)[k]? = some d) : ∃ n, d = nameD n ∧ n ∈ ns ∧ ns[k]? = some n := by
  unfold nmsD at h
  rw [List.getElem?_map] at h
  obtain ⟨n, h1, h2⟩ := Option.map_eq_some_iff.mp h
  exact ⟨n, h2.symm, List.mem_of_getElem? h1, h1⟩
theorem strs_at {ns : List Str} {k : Nat} {d : D} (h : (ns.map D.str)[k]? = some d) : ∃ n, d = .str n ∧ n ∈ ns ∧ ns[k]? = some n := by
  rw [List.getElem?_map] at h
  obtain ⟨n, h1, h2⟩ := Option.map_eq_some_iff.mp h
  exact ⟨n, h2.symm, List.mem_of_getElem? h1, h1⟩
/-- the labels of a name -/
def labsD : D → List D
  | .tup ds => ds
  | _ => []
def labP (_ d : D) : Option (DK × D) := match d with
  | .str x => some (skK x, .bl true)
  | _ => none
theorem labs_flat : ∀ ns : List (List Str), ((nmsD ns).flatMap labsD) = ns.flatten.map D.str
  | [] => rfl
  | n :: ns => by
    show n.map D.str ++ ((nmsD ns).flatMap labsD) = _
    rw [labs_flat ns, List.flatten_cons, List.map_append]
theorem labP_strs (d : D) : ∀ n : List Str, (n.map D.str).filterMap (labP d) = n.map fun x => (skK x, .bl true)
  | [] => rfl
  | x :: n => by
    rw [List.map_cons, List.map_cons]
    show (match labP d (.str x) with | none => (n.map D.str).filterMap (labP d) | some b => b :: (n.map D.str).filterMap (labP d)) = _
    rw [labP_strs d n]
    rfl
theorem labP_flat : ∀ ns : List (List Str), ((nmsD ns).flatMap fun d => (labsD d).filterMap (labP d)) = ns.flatten.map fun x => (skK x, .bl true)
  | [] => rfl
  | n :: ns => by
    show (n.map D.str).filterMap (labP (nameD n)) ++ ((nmsD ns).flatMap fun d => (labsD d).filterMap (labP d)) = _
    rw [labP_flat ns, labP_strs, List.flatten_cons, List.map_append]
theorem vw_more {μ ext : Mu} {d : D} {ds : List D} (h : vw μ d = .lst ds) : vw (μ ++ ext) d = .lst ds := by
  cases d with
  | cell j =>
    simp only [vw] at h ⊢
    cases hc : μ[j]? with
    | none => rw [hc] at h; exact nomatch h
    | some c => rw [at_app hc]; rw [hc] at h; exact h
  | _ => exact h
section
local macro_rules | `(tactic| walk_at "ev") => `(tactic| first
  | refine e_var 0 rfl ?_ | refine e_var 1 rfl ?_ | refine e_var 2 rfl ?_ | refine e_var 3 rfl ?_ | refine e_var 4 rfl ?_ | refine e_var 5 rfl ?_ | refine e_var 6 rfl ?_ | refine e_var 7 rfl ?_ | refine e_var 8 rfl ?_ | refine e_var 9 rfl ?_
  | refine e_var 10 rfl ?_ | refine e_var 11 rfl ?_ | refine e_var 12 rfl ?_ | refine e_var 13 rfl ?_ | refine e_var 14 rfl ?_ | refine e_var 15 rfl ?_ | refine e_var 16 rfl ?_ | refine e_var 17 rfl ?_ | refine e_var 18 rfl ?_ | refine e_var 19 rfl ?_ | refine e_var 20 rfl ?_)
local macro_rules | `(tactic| walk_at "ec") => `(tactic| first
  | refine k_len ?_ | refine k_int ?_ | refine k_tuple ?_ | refine k_list ?_ | refine k_repr ?_ | refine k_sorted ?_ | refine k_dict ?_ | refine k_all ?_ | refine k_min ?_ | refine k_abs ?_ | refine k_isinstance ?_)
local macro_rules | `(tactic| walk_at "ee") => `(tactic| first
  | ((with_reducible show Me.E _ (Expr.Name _ _) _ _ _); walk_at "ev")
  | ((with_reducible show Me.E _ (Expr.Constant _ _ _) _ _ _); first | refine e_int ?_ | refine e_str ?_ | refine e_bl ?_ | refine e_non ?_)
  | ((with_reducible show Me.E _ (Expr.BinOp _ _ _ _) _ _ _); refine e_bin ?_)
  | ((with_reducible show Me.E _ (Expr.Compare _ _ _ _) _ _ _); refine e_cmp ?_)
  | ((with_reducible show Me.E _ (Expr.Subscript _ (Expr.Slice _ _ _ _) _) _ _ _); refine e_sl ?_)
  | ((with_reducible show Me.E _ (Expr.Subscript _ _ _) _ _ _); refine e_ix ?_)
  | ((with_reducible show Me.E _ (Expr.Tuple _ _ _) _ _ _); refine e_tup ?_)
  | ((with_reducible show Me.E _ (Expr.UnaryOp UnaryOp.Not _ _) _ _ _); refine e_not ?_)
  | ((with_reducible show Me.E _ (Expr.UnaryOp _ _ _) _ _ _); refine e_un ?_)
  | ((with_reducible show Me.E _ (Expr.IfExp _ _ _ _) _ _ _); refine e_ite ?_)
  | ((with_reducible show Me.E _ (Expr.BoolOp _ _ _) _ _ _); first | refine e_one ?_ | refine e_and ?_ | refine e_or ?_)
  | ((with_reducible show Me.E _ (Expr.Call (Expr.Name _ _) _ _ _) _ _ _); walk_at "ec"))
local macro_rules | `(tactic| walk_at "bb") => `(tactic| first
  | refine b_nil ?_ | refine b_ret ?_ | refine b_setIx ?_ | refine b_expr ?_
  | refine b_set 0 ?_ | refine b_set 1 ?_ | refine b_set 2 ?_ | refine b_set 3 ?_ | refine b_set 4 ?_ | refine b_set 5 ?_ | refine b_set 6 ?_ | refine b_set 7 ?_ | refine b_set 8 ?_ | refine b_set 9 ?_ | refine b_set 10 ?_ | refine b_set 11 ?_ | refine b_set 12 ?_ | refine b_set 13 ?_ | refine b_set 14 ?_ | refine b_set 15 ?_ | refine b_set 16 ?_ | refine b_set 17 ?_ | refine b_set 18 ?_)
local macro_rules | `(tactic| walk_at "oo") => `(tactic| first
  | ((with_reducible show Op2 _ (binaryOp _) _ _ _ _ _); first
    | (with_reducible refine o_add ?_) | (with_reducible refine o_sub ?_)
    | ((with_reducible show Op2 _ (binaryOp Operator.Mod) (D.int _) (D.int _) _ _ _); refine o_mod (by first | decide | assumption | omega) ?_)
    | ((with_reducible show Op2 _ (binaryOp Operator.FloorDiv) (D.int _) (D.int _) _ _ _); refine o_fdiv (by first | decide | assumption | omega) ?_)
    | ((with_reducible show Op2 _ (binaryOp Operator.Mult) (D.int _) (D.int _) _ _ _); first | refine o_mul (Or.inr ⟨by decide, by decide⟩) ?_ | refine o_mul (Or.inl ⟨by decide, by decide⟩) ?_))
  | ((with_reducible show Op2 _ (compareOp _) _ _ _ _ _); first
    | (with_reducible refine o_lt ?_) | (with_reducible refine o_le ?_) | (with_reducible refine o_gt ?_) | (with_reducible refine o_ge ?_) | (with_reducible refine o_eqI ?_) | (with_reducible refine o_neI ?_) | (with_reducible refine o_eqS ?_) | (with_reducible refine o_neS ?_) | (with_reducible refine o_isN ?_) | (with_reducible refine o_isntN ?_))
  | (with_reducible refine o_neg ?_)
  | ((with_reducible show Cl _ (Value.type "int") _ _ _ _); refine c_int ?_)
  | ((with_reducible show Cl _ (Value.builtin "len") _ _ _ _); first | (with_reducible refine c_lenN ?_) | (with_reducible refine c_lenT ?_) | refine c_lenL rfl ?_)
  | ((with_reducible show Ix2 _ (D.tup _) _ _ _ _); refine x_tup rfl ?_)
  | ((with_reducible show Ix2 _ _ _ _ _ _); refine x_lst rfl rfl ?_))
local macro_rules | `(tactic| walk_at "me") => `(tactic| first
  | ((with_reducible show Me.E _ _ _ _ _); walk_at "ee")
  | ((with_reducible show Me.A _ _ _ _ _); first | refine a_cons ?_ | refine a_nil ?_)
  | ((with_reducible show Me.Thn _ _ _ (Out.next _ _)); refine thn_n ?_)
  | ((with_reducible show Me.B _ _ _ _ _); walk_at "bb")
  | ((with_reducible show Me.T _ _ _ _ _); first | refine t_cmp ?_ | refine t_bop ?_ | refine t_not ?_)
  | ((with_reducible show Me.W _ _ _ _ _); first | refine w_and1 ?_ | refine w_or1 ?_ | refine w_and ?_ | refine w_or ?_)
  | ((with_reducible show Me.OI _ _ _ _ _); first | refine o_none ?_ | refine o_some ?_)
  | walk_at "oo"
  | (with_reducible refine asT_i ?_)
  | (with_reducible refine ⟨_, rfl, ?_⟩))
local macro_rules | `(tactic| walk_at "go") => `(tactic| repeat (walk_at "me"))
variable {w : World} {P : Program} {base : Heap} {mg : Str → Option Value} {K : PySem.W.Frag} {Γ : Gam}
theorem ok_after {t1 t2 : Tok} (hK : Γ.K = K) {f : Addr} {fd : FuncData} {k : Nat} (F : Fun K "label_after" "label_after" sPLabelAfter f fd) (hb : Bi mg) (hL : mg "LETTERS" = some (.str letT t1)) (hM : mg "MOST_LETTERS" = some (.int 8 t2)) :
    Gd.FnG P w K mg base (L2.CX P w) (k + 1) f fd pPLabelAfter (spM Γ CAfter) := by
  refine okM hK hb F scPLabelAfter (by rintro _ _ _ _ ⟨x, y, rfl, _⟩; rfl) ?_
  rintro cdv A outer s H E hg rm _ μ Q Z ⟨x, y, rfl, hst, q⟩
  refine b_if (t_cmp ?_)
  refine k_len (a_cons (e_var 0 rfl (a_nil (c_lenS ?_ ?_))))
  · rcases hst with h | h
    · rw [sizeLine_eq]; omega
    · rw [sizeLine_eq]; omega
  refine e_gint hM ?_
  refine o_lt (asT_i ⟨fun h => ?_, fun h => ?_⟩)
  · have h := of_decide_eq_true h
    rcases hst with ⟨h1, rfl⟩ | ⟨h1, _⟩
    · walk_at "go"
      refine o_cat (by have : (Str.ofString "a").length = 1 := by decide
                       rw [sizeLine_eq]; omega) (rt q)
    · omega
  · have h := of_decide_eq_false h
    rcases hst with ⟨h1, _⟩ | ⟨h1, c, i, c', rest, hc, hk, ho, hc', rfl, hz⟩
    · omega
    · refine b_nil (b_set 1 (e_rstrip (e_var 0 rfl ⟨_, rfl, e_str ⟨_, rfl, by rw [sizeLine_eq]; omega, ?_⟩⟩)))
      refine b_ret (e_bin (e_sl (e_var 1 rfl (o_none (o_some (e_un (e_int (o_neg ⟨_, rfl, s_str (by rw [sizeLine_eq]; omega) ?_⟩))))))))
      refine e_ix (e_gstr hL (e_bin (e_sindex (e_gstr hL ⟨_, rfl, e_ix (e_var 1 rfl (e_un (e_int (o_neg (x_str (by rw [sizeLine_eq]; omega) hc ?_)))))⟩))))
      refine ⟨_, i, rest, rfl, ho, e_int (o_add (x_str (by rw [sizeLine_eq]; decide) hc' ?_))⟩
      refine o_cat (by have : (sg c').length = 1 := rfl
                       rw [sizeLine_eq]
                       show _ + (sg c').length ≤ _
                       omega) (rt q)
theorem ok_least (hK : Γ.K = K) {f : Addr} {fd : FuncData} {k j : Nat} (F : Fun K "least_label" "least_label" sPLeastLabel f fd) (hb : Bi mg) (FA : Fn P w K mg base Γ j "label_after" CAfter) (hj : j ≤ k) :
    Gd.FnG P w K mg base (L2.CX P w) (k + 1) f fd pPLeastLabel (spM Γ CLeast) := by
  refine okM hK hb F scPLeastLabel (by rintro _ _ _ _ ⟨d, ns, rfl, _⟩; rfl) ?_
  rintro cdv A outer s H E hg rm _ μ Q Z ⟨d, ns, rfl, hv, hl, hz, q⟩
  have hn : (nmsD ns).length = ns.length := by unfold nmsD; rw [List.length_map]
  refine b_setDc2P false 1 2 3 labsD labP rfl (blkOk_by (N := nPLeastLabel) (sc := defScope sPLeastLabel) (by decide +kernel)) (by rfl) (i_lst (e_var 0 rfl ⟨nmsD ns, hv, rfl, fun ps => vw_more hv, ?_, ?_, ?_, ?_⟩))
  · rw [labs_flat, List.length_map, sizeLine_eq]; omega
  · intro k d hd ps s H C cl fp
    obtain ⟨n, rfl, _, _⟩ := nmsL_at hd
    exact i_tup (e_var 2 rfl ⟨n.map D.str, rfl, rfl, rfl, fun _ => trivial⟩)
  · intro k d hd l d1 hd1 ps
    obtain ⟨n, rfl, _, _⟩ := nmsL_at hd
    obtain ⟨x, rfl, _, _⟩ := strs_at hd1
    exact ⟨true, fun s H C cl fp => ts_nil ⟨rfl, rfl⟩, (fun z => nomatch z), fun _ => ⟨_, _, .str x, rfl, rfl, fun s H C cl fp => e_var 3 rfl ⟨rfl, rfl⟩, fun s H C cl fp => e_bl ⟨rfl, rfl⟩⟩⟩
  rw [dcW, labP_flat, foldD_puts]
  generalize hkv : putsD [] (ns.flatten.map fun x => (skK x, D.bl true)) = kvs
  have has : ∀ x : Str, (valD kvs (skK x)).isSome = decide (x ∈ ns.flatten) := fun x => by rw [← hkv, has_puts, has_strs]
  have hM : (μ ++ [Cell.dct false none kvs])[μ.length]? = some (.dct false none kvs) := by simp
  have h0 : firsts[0]? = some ("a" : Str) := by decide +kernel
  refine b_set 4 (e_str ?_)
  refine b_while (fun n env' μ' => ∃ i x, n = 200 - i ∧ i < 200 ∧ firsts[i]? = some x ∧ (∀ j < i, ∀ y, firsts[j]? = some y → y ∈ ns.flatten) ∧ μ' = μ ++ [Cell.dct false none kvs] ∧ env' = [some d, some (.cell μ.length), none, none, some (.str x)]) 200 ⟨0, _, rfl, by decide, h0, fun j hj => absurd hj (Nat.not_lt_zero j), rfl, rfl⟩ ?_
  rintro n _ _ ⟨i, x, rfl, hi, hx, hbf, rfl, rfl⟩
  refine t_cmp (e_var 4 rfl (e_var 1 rfl (o_inD (k := skK x) (vw_dct hM) rfl (asT_i ⟨fun h => ?_, fun h => ?_⟩))))
  · rw [has] at h
    have h := of_decide_eq_true h
    have hbf2 : ∀ j < i + 1, ∀ y, firsts[j]? = some y → y ∈ ns.flatten := fun j hj y hy => by
      by_cases e : j = i
      · subst e
        rw [hx] at hy
        obtain rfl := Option.some.inj hy
        exact h
      · exact hbf j (by omega) y hy
    have hi2 : i + 1 < 200 := by
      by_cases e : i + 1 < 200
      · exact e
      · exfalso
        have := sub_len firsts_nd fun y hy => by
          obtain ⟨j, hj, e2⟩ := List.getElem_of_mem hy
          rw [firsts_len] at hj
          exact hbf2 j (by omega) y (by rw [List.getElem?_eq_getElem (by rw [firsts_len]; exact hj), e2])
        rw [firsts_len] at this
        omega
    obtain ⟨y, hy⟩ : ∃ y, firsts[i + 1]? = some y := ⟨_, List.getElem?_eq_getElem (by rw [firsts_len]; exact hi2)⟩
    refine b_set 4 (e_call FA (a_cons (e_var 4 rfl (a_nil ⟨x, y, rfl, firsts_step hx hy, ?_⟩))))
    refine b_nil ⟨200 - (i + 1), by omega, i + 1, y, rfl, hi2, hy, hbf2, rfl, rfl⟩
  · rw [has] at h
    have h := of_decide_eq_false h
    refine b_ret (e_var 4 rfl (rt_drop0 ?_ (fun i hi => nomatch hi)))
    rw [← least_at hx h hbf]
    exact q
end
end Lm

namespace Lm
open PySem PySem.Spec PyProof.Rows L2 Me
def AMixG : List D → Prop := fun r => ∃ ds : List D, r = [.lst ds] ∧ ds.length ≤ 1000 ∧ D.refsL ds = []
def RMixG : List D → D → Prop := fun r d => ∃ ds ds' : List D, r = [.lst ds] ∧ d = .lst ds' ∧ ds'.Perm ds
theorem refsL_app : ∀ a b : List D, D.refsL (a ++ b) = D.refsL a ++ D.refsL b
  | [], b => rfl
  | d :: a, b => by rw [List.cons_append, D.refsL, D.refsL, refsL_app a b, List.append_assoc]
theorem refsL_nil : ∀ {ds : List D}, D.refsL ds = [] ↔ ∀ d ∈ ds, d.refs = []
  | [] => by simp [D.refsL]
  | d :: ds => by
    rw [D.refsL, List.append_eq_nil_iff, refsL_nil (ds := ds)]
    simp
theorem insD_perm (ds : List D) (d : D) (i : Nat) : (ds.take i ++ [d] ++ ds.drop i).Perm (d :: ds) := by
  have h1 : (ds.take i ++ [d] ++ ds.drop i).Perm ([d] ++ ds.take i ++ ds.drop i) := List.Perm.append_right _ List.perm_append_comm
  have h2 : [d] ++ ds.take i ++ ds.drop i = d :: ds := by rw [List.append_assoc, List.take_append_drop]; rfl
  rw [h2] at h1
  exact h1
theorem sg_letters : signsD letT = lettersL.map fun c => D.str (sg c) := rfl
section
local macro_rules | `(tactic| walk_at "ev") => `(tactic| first
  | refine e_var 0 rfl ?_ | refine e_var 1 rfl ?_ | refine e_var 2 rfl ?_ | refine e_var 3 rfl ?_ | refine e_var 4 rfl ?_ | refine e_var 5 rfl ?_ | refine e_var 6 rfl ?_ | refine e_var 7 rfl ?_ | refine e_var 8 rfl ?_ | refine e_var 9 rfl ?_
  | refine e_var 10 rfl ?_ | refine e_var 11 rfl ?_ | refine e_var 12 rfl ?_ | refine e_var 13 rfl ?_ | refine e_var 14 rfl ?_ | refine e_var 15 rfl ?_ | refine e_var 16 rfl ?_ | refine e_var 17 rfl ?_ | refine e_var 18 rfl ?_ | refine e_var 19 rfl ?_ | refine e_var 20 rfl ?_)
local macro_rules | `(tactic| walk_at "ec") => `(tactic| first
  | refine k_len ?_ | refine k_int ?_ | refine k_tuple ?_ | refine k_list ?_ | refine k_repr ?_ | refine k_sorted ?_ | refine k_dict ?_ | refine k_all ?_ | refine k_min ?_ | refine k_abs ?_ | refine k_isinstance ?_)
local macro_rules | `(tactic| walk_at "ee") => `(tactic| first
  | ((with_reducible show Me.E _ (Expr.Name _ _) _ _ _); walk_at "ev")
  | ((with_reducible show Me.E _ (Expr.Constant _ _ _) _ _ _); first | refine e_int ?_ | refine e_str ?_ | refine e_bl ?_ | refine e_non ?_)
  | ((with_reducible show Me.E _ (Expr.BinOp _ _ _ _) _ _ _); refine e_bin ?_)
  | ((with_reducible show Me.E _ (Expr.Compare _ _ _ _) _ _ _); refine e_cmp ?_)
  | ((with_reducible show Me.E _ (Expr.Subscript _ (Expr.Slice _ _ _ _) _) _ _ _); refine e_sl ?_)
  | ((with_reducible show Me.E _ (Expr.Subscript _ _ _) _ _ _); refine e_ix ?_)
  | ((with_reducible show Me.E _ (Expr.Tuple _ _ _) _ _ _); refine e_tup ?_)
  | ((with_reducible show Me.E _ (Expr.UnaryOp UnaryOp.Not _ _) _ _ _); refine e_not ?_)
  | ((with_reducible show Me.E _ (Expr.UnaryOp _ _ _) _ _ _); refine e_un ?_)
  | ((with_reducible show Me.E _ (Expr.IfExp _ _ _ _) _ _ _); refine e_ite ?_)
  | ((with_reducible show Me.E _ (Expr.BoolOp _ _ _) _ _ _); first | refine e_one ?_ | refine e_and ?_ | refine e_or ?_)
  | ((with_reducible show Me.E _ (Expr.Call (Expr.Name _ _) _ _ _) _ _ _); walk_at "ec"))
local macro_rules | `(tactic| walk_at "bb") => `(tactic| first
  | refine b_nil ?_ | refine b_ret ?_ | refine b_setIx ?_ | refine b_expr ?_
  | refine b_set 0 ?_ | refine b_set 1 ?_ | refine b_set 2 ?_ | refine b_set 3 ?_ | refine b_set 4 ?_ | refine b_set 5 ?_ | refine b_set 6 ?_ | refine b_set 7 ?_ | refine b_set 8 ?_ | refine b_set 9 ?_ | refine b_set 10 ?_ | refine b_set 11 ?_ | refine b_set 12 ?_ | refine b_set 13 ?_ | refine b_set 14 ?_ | refine b_set 15 ?_ | refine b_set 16 ?_ | refine b_set 17 ?_ | refine b_set 18 ?_)
local macro_rules | `(tactic| walk_at "oo") => `(tactic| first
  | ((with_reducible show Op2 _ (binaryOp _) _ _ _ _ _); first
    | (with_reducible refine o_add ?_) | (with_reducible refine o_sub ?_)
    | ((with_reducible show Op2 _ (binaryOp Operator.Mod) (D.int _) (D.int _) _ _ _); refine o_mod (by first | decide | assumption | omega) ?_)
    | ((with_reducible show Op2 _ (binaryOp Operator.FloorDiv) (D.int _) (D.int _) _ _ _); refine o_fdiv (by first | decide | assumption | omega) ?_)
    | ((with_reducible show Op2 _ (binaryOp Operator.Mult) (D.int _) (D.int _) _ _ _); first | refine o_mul (Or.inr ⟨by decide, by decide⟩) ?_ | refine o_mul (Or.inl ⟨by decide, by decide⟩) ?_))
  | ((with_reducible show Op2 _ (compareOp _) _ _ _ _ _); first
    | (with_reducible refine o_lt ?_) | (with_reducible refine o_le ?_) | (with_reducible refine o_gt ?_) | (with_reducible refine o_ge ?_) | (with_reducible refine o_eqI ?_) | (with_reducible refine o_neI ?_) | (with_reducible refine o_eqS ?_) | (with_reducible refine o_neS ?_) | (with_reducible refine o_isN ?_) | (with_reducible refine o_isntN ?_))
  | (with_reducible refine o_neg ?_)
  | ((with_reducible show Cl _ (Value.type "int") _ _ _ _); refine c_int ?_)
  | ((with_reducible show Cl _ (Value.builtin "len") _ _ _ _); first | (with_reducible refine c_lenN ?_) | (with_reducible refine c_lenT ?_) | refine c_lenL rfl ?_)
  | ((with_reducible show Ix2 _ (D.tup _) _ _ _ _); refine x_tup rfl ?_)
  | ((with_reducible show Ix2 _ _ _ _ _ _); refine x_lst rfl rfl ?_))
local macro_rules | `(tactic| walk_at "me") => `(tactic| first
  | ((with_reducible show Me.E _ _ _ _ _); walk_at "ee")
  | ((with_reducible show Me.A _ _ _ _ _); first | refine a_cons ?_ | refine a_nil ?_)
  | ((with_reducible show Me.Thn _ _ _ (Out.next _ _)); refine thn_n ?_)
  | ((with_reducible show Me.B _ _ _ _ _); walk_at "bb")
  | ((with_reducible show Me.T _ _ _ _ _); first | refine t_cmp ?_ | refine t_bop ?_ | refine t_not ?_)
  | ((with_reducible show Me.W _ _ _ _ _); first | refine w_and1 ?_ | refine w_or1 ?_ | refine w_and ?_ | refine w_or ?_)
  | ((with_reducible show Me.OI _ _ _ _ _); first | refine o_none ?_ | refine o_some ?_)
  | walk_at "oo"
  | (with_reducible refine asT_i ?_)
  | (with_reducible refine ⟨_, rfl, ?_⟩))
local macro_rules | `(tactic| walk_at "go") => `(tactic| repeat (walk_at "me"))
variable {w : World} {P : Program} {base : Heap} {mg : Str → Option Value} {K : PySem.W.Frag} {Γ : Gam}
theorem ok_lmixG (hK : Γ.K = K) {f : Addr} {fd : FuncData} {k j1 : Nat} (F : Fun K "_law_mix" "_law_mix" sLMix f fd) (hb : Bi mg) (FT : Fn P w K mg base Γ j1 "_law_take" CTake) (h1 : j1 ≤ k) : Gd.FnG P w K mg base (L2.CX P w) (k + 1) f fd pLMix (spM Γ (CBag AMixG RMixG)) := by
  refine okM hK hb F scLMix (by rintro _ _ _ _ ⟨b, m, r, rfl, _, _, ⟨ns, rfl, _⟩, _⟩; rfl) ?_
  rintro cdv A outer s H E hg rm _ _ Q Z ⟨b, m, _, rfl, rfl, gb, ⟨ds, rfl, hl, hr⟩, q⟩
  refine b_set 2 (e_lstC (a_nil ⟨Nat.zero_le _, ?_⟩))
  refine b_for rfl (g_name 3) (i_lst ?_)
  walk_at "go"
  refine ⟨fun c env' μ' => ∃ s' rs x3, Good s' ∧ μ' = bagC s' :: (m ++ [.lst rs]) ∧ rs.Perm (ds.take c) ∧ env' = [some (.cell 0), some (.lst ds), some (.cell (m.length + 1)), x3], ?_⟩
  refine ⟨⟨b, [], none, gb, rfl, by rw [List.take_zero], rfl⟩, fun _ _ _ _ => rfl, ?_, ?_⟩
  · rintro c d _ _ hd ⟨s', rs, x3, gs, rfl, hp, rfl⟩
    have hB : ∀ s', (bagC s' :: (m ++ [Cell.lst rs]))[m.length + 1]? = some (.lst rs) := fun _ => by simp
    have rl : rs.length ≤ 1000 := by rw [hp.length_eq, List.length_take]; omega
    refine ⟨_, rfl, b_expr (e_bm PySem.F.plainAttrs_list PySem.F.slot_list_insert PySem.F.type_list_insert ?_)⟩
    refine e_var 2 rfl ⟨ty_lst (vw_lst (hB s')), ?_⟩
    refine a_cons (e_call FT ?_)
    walk_at "go"
    refine c_lenL (vw_lst (hB s')) ?_
    walk_at "go"
    refine ctake gs (by omega) ?_
    have t0 := takeV_nonneg (s := s') (n := (rs.length : Int) + 1) (by omega)
    have t1 := takeV_lt (s := s') (n := (rs.length : Int) + 1) (by omega)
    have g4 := takeS_good (n := (rs.length : Int) + 1) gs (by omega)
    generalize takeV s' ((rs.length : Int) + 1) = iv at t0 t1 ⊢
    generalize takeS s' ((rs.length : Int) + 1) = s4 at g4 ⊢
    walk_at "go"
    refine m_insert (hB s4) (by rw [sizeLine_eq]; omega) ⟨t0, by omega⟩ (b_nil ?_)
    refine ⟨s4, rs.take iv.toNat ++ [d] ++ rs.drop iv.toNat, _, g4, by simp, ?_, rfl⟩
    rw [List.take_succ, hd]
    exact (insD_perm rs d iv.toNat).trans ((List.Perm.cons d hp).trans (by simpa using (List.perm_append_comm (l₁ := [d]) (l₂ := ds.take c))))
  · rintro _ _ ⟨s', rs, x3, gs, rfl, hp, rfl⟩
    rw [List.take_length] at hp
    have hB : (bagC s' :: (m ++ [Cell.lst rs]))[m.length + 1]? = some (.lst rs) := by simp
    refine b_ret (e_var 2 rfl (rt_frz hB (by show m.length + 1 ≤ m.length + 1; omega) ?_))
    rw [show (bagC s' :: (m ++ [Cell.lst rs])).set (m.length + 1) .dead = (bagC s' :: m) ++ [.dead] by simp]
    refine rt_drop (q _ _ ⟨ds, rs, rfl, rfl, hp⟩ gs) (fun i hi => ?_) (Nat.le_refl _) low_bag
    have : D.refsL rs = [] := refsL_nil.mpr fun d hd => refsL_nil.mp hr d (hp.mem_iff.mp hd)
    rw [D.refs, this] at hi
    exact nomatch hi
def CFirst : Ct := fun args μ P _ => args = [.int 200] ∧ P (.lst (firsts.map D.str)) μ
theorem fA (k : Nat) (h : k < 8) : (firsA.take k ++ [Txt.mul "a" ((k : Int) + 1)]) = firsA.take (k + 1) := by
  have : ∀ k < 8, (firsA.take k ++ [Txt.mul "a" ((k : Int) + 1)]) = firsA.take (k + 1) := by decide +kernel
  exact this k h
theorem firsA_len : firsA.length = 8 := by decide +kernel
theorem letters_len : lettersL.length = 26 := by decide +kernel
theorem cutLet : cutS letT (some 1) none = ⟨(lettersL.drop 1).toArray⟩ := by decide +kernel
theorem mulOk_a (k : Nat) (h : k ≤ 8) : MulOk "a" (k : Int) := by
  have : ∀ k ≤ 8, (decide (((k : Nat) : Int) < -(2 ^ 63 : Int)) || decide (((k : Nat) : Int) ≥ 2 ^ 63)) = false ∧ (¬ ((k : Nat) : Int) < 1 → (((k : Nat) : Int) == 1 || (Str.ofString "a").length == 0) = false → ¬ (((Str.ofString "a").length : Int) > (2 ^ 63 - 1) / ((k : Nat) : Int))) ∧
    (¬ ((k : Nat) : Int) < 1 → (((k : Nat) : Int) == 1 || (Str.ofString "a").length == 0) = false → Builtin.Str.tooLong ((Str.ofString "a").length * ((k : Nat) : Int).toNat) = false) := by decide +kernel
  exact this k h
theorem mul_len (k : Nat) (h : k ≤ 8) : (Txt.mul "a" (k : Int)).length = k := by
  have : ∀ k ≤ 8, (Txt.mul "a" ((k : Nat) : Int)).length = k := by decide +kernel
  exact this k h
theorem sg_len (c : Nat) : (sg c).length = 1 := rfl
theorem str_snoc (xs : List Str) (x : Str) : xs.map D.str ++ [.str x] = (xs ++ [x]).map D.str := by rw [List.map_append]; rfl
def blockC (c : Nat) : List Str := (Txt.mul "a" 6 ++ sg c) :: lettersL.map fun l => Txt.mul "a" 6 ++ sg c ++ sg l
theorem firstC_eq : firsC = (lettersL.drop 1).flatMap blockC := rfl
theorem ok_first (hK : Γ.K = K) {f : Addr} {fd : FuncData} {k : Nat} (F : Fun K "_law_first_labels" "_law_first_labels" sLFirstLabels f fd) (hb : Bi mg) : Gd.FnG P w K mg base (L2.CX P w) (k + 1) f fd pLFirstLabels (spM Γ CFirst) := by
  refine okM hK hb F scLFirstLabels (by rintro _ _ _ _ ⟨rfl, _⟩; rfl) ?_
  rintro cdv A outer s H E hg rm _ μ Q Z ⟨rfl, q⟩
  have m6 : (Txt.mul (Str.ofString "a") (6 : Int)).length = 6 := mul_len 6 (by decide)
  have m7 : (Txt.mul (Str.ofString "a") (7 : Int)).length = 7 := mul_len 7 (by decide)
  have hz := sizeLine_eq
  refine b_par 1 2 rfl (a_cons (e_str (a_cons (e_lstC (a_nil ⟨Nat.zero_le _, a_nil ⟨_, _, rfl, ?_⟩⟩)))))
  have at0 : ∀ ds : List D, (μ ++ [Cell.lst ds])[μ.length]? = some (.lst ds) := fun ds => by simp
  have st0 : ∀ ds es : List D, (μ ++ [Cell.lst ds]).set μ.length (.lst es) = μ ++ [.lst es] := fun ds es => by simp
  -- the first loop
  refine b_for rfl (g_name 3) (i_range1 hb.range (e_int ⟨_, rfl, by decide, ?_⟩))
  refine ⟨fun c env' μ' => ∃ x3, μ' = μ ++ [.lst ((firsA.take c).map D.str)] ∧ env' = [some (.int 200), some (.str letT), some (.cell μ.length), x3, none, none], ⟨⟨none, rfl, rfl⟩, fun _ _ _ _ => trivial, ?_, ?_⟩⟩
  · rintro c d _ _ hd ⟨x3, rfl, rfl⟩
    have hc := (List.getElem?_eq_some_iff.mp hd).1
    rw [rangeD_len] at hc
    rw [rangeD_get hc] at hd
    obtain rfl := Option.some.inj hd
    have hc : c < 8 := hc
    refine ⟨_, rfl, b_expr (e_append (e_var 2 rfl ⟨μ.length, rfl, ⟨_, vw_lst (at0 _)⟩, ?_⟩))⟩
    refine e_bin (e_str (e_bin (e_var 3 rfl (e_int (o_add (o_mulS ?_ ⟨_, at0 _, ?_, b_nil ?_⟩))))))
    · have := mulOk_a (c + 1) (by omega)
      have e : (0 + (c : Int) + 1) = ((c + 1 : Nat) : Int) := by omega
      rw [e]; exact this
    · rw [List.length_map, List.length_take, hz]; omega
    · refine ⟨_, ?_, rfl⟩
      rw [st0, str_snoc, show (0 + (c : Int) + 1) = (c : Int) + 1 by omega, fA c hc]
  rintro _ _ ⟨x3, rfl, rfl⟩
  rw [show (rangeD 0 (8 : Int).toNat).length = 8 by rw [rangeD_len]; rfl, show firsA.take 8 = firsA from List.take_of_length_le (by rw [firsA_len]; exact Nat.le_refl _)]
  -- the second loop
  refine b_for rfl (g_name 4) (i_str (e_sl (e_var 1 rfl (o_some (e_int ⟨_, rfl, o_none (s_str (by rw [hz]; decide) ?_)⟩)))))
  rw [cutLet]
  refine ⟨_, rfl, ?_⟩
  have sd : signsD ⟨(lettersL.drop 1).toArray⟩ = (lettersL.drop 1).map fun c => D.str (sg c) := rfl
  rw [sd]
  have l25 : (lettersL.drop 1).length = 25 := by rw [List.length_drop, letters_len]
  refine ⟨fun c env' μ' => ∃ x4, μ' = μ ++ [.lst ((firsA ++ firsB.take c).map D.str)] ∧ env' = [some (.int 200), some (.str letT), some (.cell μ.length), x3, x4, none], ⟨⟨none, by rw [List.take_zero, List.append_nil], rfl⟩, fun _ _ _ _ => trivial, ?_, ?_⟩⟩
  · rintro c d _ _ hd ⟨x4, rfl, rfl⟩
    rw [List.getElem?_map] at hd
    obtain ⟨ch, hch, rfl⟩ := Option.map_eq_some_iff.mp hd
    have hc := (List.getElem?_eq_some_iff.mp hch).1
    refine ⟨_, rfl, b_expr (e_append (e_var 2 rfl ⟨μ.length, rfl, ⟨_, vw_lst (at0 _)⟩, ?_⟩))⟩
    refine e_bin (e_bin (e_str (e_int (o_mulS (mulOk_a 7 (by decide)) (e_var 4 rfl (o_cat ?_ ⟨_, at0 _, ?_, b_nil ?_⟩))))))
    · rw [sg_len]
      show (Txt.mul (Str.ofString "a") (7 : Int)).length + 1 ≤ _
      rw [m7, hz]; decide
    · rw [List.length_map, List.length_append, List.length_take, firsA_len, hz]; omega
    · refine ⟨_, ?_, rfl⟩
      have e : firsB[c]? = some (Txt.mul "a" 7 ++ sg ch) := by
        unfold firsB
        rw [List.getElem?_map, hch]
        rfl
      rw [st0, str_snoc, take_snoc e, ← List.append_assoc]
  rintro _ _ ⟨x4, rfl, rfl⟩
  rw [List.length_map, l25, show firsB.take 25 = firsB from List.take_of_length_le (by unfold firsB; rw [List.length_map, l25]; exact Nat.le_refl _)]
  have lB : firsB.length = 25 := by unfold firsB; rw [List.length_map, l25]
  have lC : ∀ l : List Nat, (l.flatMap blockC).length = l.length * 27 := by
    intro l
    induction l with
    | nil => rfl
    | cons a l ih =>
      rw [List.flatMap_cons, List.length_append, ih, List.length_cons]
      have : (blockC a).length = 27 := by unfold blockC; rw [List.length_cons, List.length_map, letters_len]
      omega
  -- the third loop
  refine b_for rfl (g_name 4) (i_str (e_sl (e_var 1 rfl (o_some (e_int ⟨_, rfl, o_none (s_str (by rw [hz]; decide) ?_)⟩)))))
  rw [cutLet]
  refine ⟨_, rfl, ?_⟩
  rw [sd]
  refine ⟨fun c env' μ' => ∃ x4 x5, μ' = μ ++ [.lst ((firsA ++ firsB ++ ((lettersL.drop 1).take c).flatMap blockC).map D.str)] ∧ env' = [some (.int 200), some (.str letT), some (.cell μ.length), x3, x4, x5], ⟨⟨x4, none, by rw [List.take_zero, List.flatMap_nil, List.append_nil], rfl⟩, fun _ _ _ _ => trivial, ?_, ?_⟩⟩
  · rintro c d _ _ hd ⟨x4, x5, rfl, rfl⟩
    rw [List.getElem?_map] at hd
    obtain ⟨ch, hch, rfl⟩ := Option.map_eq_some_iff.mp hd
    have hc := (List.getElem?_eq_some_iff.mp hch).1
    have hpre : (firsA ++ firsB ++ ((lettersL.drop 1).take c).flatMap blockC).length ≤ 33 + 25 * 27 := by
      rw [List.length_append, List.length_append, firsA_len, lB, lC, List.length_take]
      have : min c (lettersL.drop 1).length ≤ 25 := by rw [l25]; omega
      omega
    generalize hPre : firsA ++ firsB ++ ((lettersL.drop 1).take c).flatMap blockC = pre at hpre ⊢
    refine ⟨_, rfl, b_expr (e_append (e_var 2 rfl ⟨μ.length, rfl, ⟨_, vw_lst (at0 _)⟩, ?_⟩))⟩
    refine e_bin (e_bin (e_str (e_int (o_mulS (mulOk_a 6 (by decide)) (e_var 4 rfl (o_cat ?_ ⟨_, at0 _, ?_, ?_⟩))))))
    · rw [sg_len]
      show (Txt.mul (Str.ofString "a") (6 : Int)).length + 1 ≤ _
      rw [m6, hz]; decide
    · rw [List.length_map, hz]; omega
    rw [st0, str_snoc]
    refine b_for rfl (g_name 5) (i_str (e_var 1 rfl ⟨_, rfl, ?_⟩))
    rw [sg_letters]
    refine ⟨fun c2 env' μ' => ∃ x5, μ' = μ ++ [.lst ((pre ++ (Txt.mul "a" 6 ++ sg ch) :: (lettersL.take c2).map fun l => Txt.mul "a" 6 ++ sg ch ++ sg l).map D.str)] ∧ env' = [some (.int 200), some (.str letT), some (.cell μ.length), x3, some (.str (sg ch)), x5], ⟨⟨x5, rfl, rfl⟩, fun _ _ _ _ => trivial, ?_, ?_⟩⟩
    · rintro c2 d2 _ _ hd2 ⟨x5, rfl, rfl⟩
      rw [List.getElem?_map] at hd2
      obtain ⟨c3, hc3, rfl⟩ := Option.map_eq_some_iff.mp hd2
      refine ⟨_, rfl, b_expr (e_append (e_var 2 rfl ⟨μ.length, rfl, ⟨_, vw_lst (at0 _)⟩, ?_⟩))⟩
      refine e_bin (e_bin (e_bin (e_str (e_int (o_mulS (mulOk_a 6 (by decide)) (e_var 4 rfl (o_cat ?_ (e_var 5 rfl (o_cat ?_ ⟨_, at0 _, ?_, b_nil ?_⟩)))))))))
      · rw [sg_len]
        show (Txt.mul (Str.ofString "a") (6 : Int)).length + 1 ≤ _
        rw [m6, hz]; decide
      · rw [str_len_append, sg_len, sg_len]
        show (Txt.mul (Str.ofString "a") (6 : Int)).length + 1 + 1 ≤ _
        rw [m6, hz]; decide
      · rw [List.length_map, List.length_append, List.length_cons, List.length_map, List.length_take, letters_len, hz]; omega
      · refine ⟨_, ?_, rfl⟩
        rw [st0, str_snoc, take_snoc hc3]
        simp only [List.map_append, List.append_assoc, List.cons_append, List.map_cons, List.map_nil]
    · rintro _ _ ⟨x5, rfl, rfl⟩
      refine b_nil ⟨_, _, ?_, rfl⟩
      rw [List.length_map, List.take_length, take_snoc hch, List.flatMap_append, ← List.append_assoc, hPre]
      simp [blockC]
  rintro _ _ ⟨x4, x5, rfl, rfl⟩
  rw [List.length_map, List.take_length, ← firstC_eq]
  refine b_ret (e_sl (e_var 2 rfl (o_none (o_some (e_var 0 rfl ⟨_, rfl, s_lst (vw_lst (at0 _)) (.l ?_)⟩)))))
  rw [cutD_to (by decide), ← List.map_take]
  exact rt_drop0 q (fun i hi => by rw [D.refs, refs_strs] at hi; exact nomatch hi)
end
end Lm

namespace Lm
open PySem PySem.Spec PyProof.Rows L2 Me
/-! ### data -/
def unS : D → Str
  | .str x => x
  | _ => ""
def unN : D → List Str
  | .tup ds => ds.map unS
  | _ => []
theorem unS_map (l : List Str) : (l.map D.str).map unS = l := by
  rw [List.map_map]
  exact List.map_id _
theorem unN_name (n : List Str) : unN (nameD n) = n := unS_map n
theorem unN_map (l : List (List Str)) : (nmsD l).map unN = l := by
  unfold nmsD
  rw [List.map_map]
  conv => rhs; rw [← List.map_id l]
  exact List.map_congr_left fun n _ => unN_name n
theorem perm_strs {ds : List D} {l : List Str} (h : ds.Perm (l.map D.str)) : ∃ l' : List Str, ds = l'.map D.str ∧ l'.Perm l := by
  refine ⟨ds.map unS, ?_, by have := h.map unS; rwa [unS_map] at this⟩
  rw [List.map_map]
  conv => lhs; rw [← List.map_id ds]
  refine List.map_congr_left fun d hd => ?_
  obtain ⟨x, _, rfl⟩ := List.mem_map.mp (h.mem_iff.mp hd)
  rfl
theorem perm_nms {ds : List D} {l : List (List Str)} (h : ds.Perm (nmsD l)) : ∃ l' : List (List Str), ds = nmsD l' ∧ l'.Perm l := by
  refine ⟨ds.map unN, ?_, by have := h.map unN; rwa [unN_map] at this⟩
  unfold nmsD
  rw [List.map_map]
  conv => lhs; rw [← List.map_id ds]
  refine List.map_congr_left fun d hd => ?_
  obtain ⟨n, _, rfl⟩ := List.mem_map.mp (h.mem_iff.mp hd)
  show nameD n = nameD (unN (nameD n))
  rw [unN_name]
theorem labels_of {n : Nat} {d : D} (h : RLabels [.int (n : Int)] d) : ∃ ls : List Str, d = .lst (ls.map D.str) ∧ ls.length = n ∧ ∀ x ∈ ls, Lab x ∧ x.length ≤ 8 := by
  obtain ⟨m, ls, e, rfl, h1, h2⟩ := h
  injection e with e _
  injection e with e
  exact ⟨ls, rfl, by omega, h2⟩
/-- what the law's names keep -/
structure NL (ns : List (List Str)) : Prop where
  nm : ∀ n ∈ ns, Nm n 8
  len : ns.length ≤ 40
  fl : ns.flatten.length ≤ 150
theorem NL.ok {ns : List (List Str)} (h : NL ns) : Ok (D.lst (nmsD ns)).py 2 (40 * (8 * 164 + 3 + 2) + 2) := by
  show Ok (.list (D.pys (nmsD ns))) _ _
  rw [pys_nms]
  exact Ok.list (h := 1) (n := 8 * 164 + 3) (fun d hd => by
    obtain ⟨n, hn, rfl⟩ := List.mem_map.mp hd
    exact (h.nm n hn).okD) (by rw [List.length_map]; exact h.len)
theorem flatten_perm {a b : List (List Str)} (h : a.Perm b) : a.flatten.length = b.flatten.length := h.flatten.length_eq
theorem flatten_take (ns : List (List Str)) (k : Nat) : (ns.take k).flatten.length ≤ ns.flatten.length := by
  have e : ns.flatten = (ns.take k).flatten ++ (ns.drop k).flatten := by rw [← List.flatten_append, List.take_append_drop]
  rw [e, List.length_append]
  omega
theorem NL.take {ns : List (List Str)} (h : NL ns) (k : Nat) : NL (ns.take k) := ⟨fun n hn => h.nm n (List.mem_of_mem_take hn), by rw [List.length_take]; have := h.len; omega, Nat.le_trans (flatten_take ns k) h.fl⟩
theorem NL.perm {a b : List (List Str)} (h : NL a) (p : b.Perm a) : NL b := ⟨fun n hn => h.nm n (p.mem_iff.mp hn), by rw [p.length_eq]; exact h.len, by rw [flatten_perm p]; exact h.fl⟩
theorem range8 : ∀ n < 200, Builtin.Range.small 0 ((n : Nat) : Int) 8 = true ∧ Builtin.Range.rangeSize 0 ((n : Nat) : Int) 8 = (((n + 7) / 8 : Nat) : Int) := by decide +kernel
theorem filter_first {ks : List Str} (h : ks.length ≤ 199) : L2.atI ((firsts.map D.str).filter fun d => decide (unS d ∉ ks)) 0 = some (.str (leastS ks)) := by
  obtain ⟨x, h1, h2⟩ := least_ex h
  have e : (firsts.map D.str).filter (fun d => decide (unS d ∉ ks)) = (firsts.filter fun x => decide (x ∉ ks)).map D.str := by
    rw [List.filter_map]
    rfl
  have e2 : (firsts.filter fun x => decide (x ∉ ks))[0]? = some x := by
    rw [← List.head?_eq_getElem?, List.head?_filter]
    exact h1
  rw [e, h2]
  exact at_i (by decide) (by rw [List.getElem?_map]; show Option.map D.str ((firsts.filter fun x => decide (x ∉ ks))[0]?) = _; rw [e2]; rfl)
theorem e_and2 {S : Sc} {a b : Expr} {env : En} {μ : Mu} {PP : KD} {r : Bool} {pos : Pos} (h : E S a env μ fun d μ1 => ∃ q, d = .bl q ∧ (q = true → E S b env μ1 fun d2 μ2 => d2 = .bl r ∧ μ2 = μ1) ∧ (q = false → r = false) ∧ PP (.bl r) μ1) : E S (.BoolOp .And [a, b] pos) env μ PP := by
  refine e_and (h.imp fun d μ1 ⟨q, e, h1, h2, p⟩ => ⟨q, e, fun hq => e_one ((h1 hq).imp fun d2 μ2 ⟨e1, e2⟩ => by rw [e1, e2]; exact p), fun hq => by rw [h2 hq] at p; exact p⟩)
theorem cutD_mid (ds : List D) (a b : Nat) : cutD ds (some (a : Int)) (some ((a + b : Nat) : Int)) = (ds.drop a).take b := by
  unfold Me.cutD
  rw [show HT.sIx ds.length 0 (some ((a : Nat) : Int)) = min a ds.length from HT.sIx_nat _ _ _, show HT.sIx ds.length ds.length (some ((a + b : Nat) : Int)) = min (a + b) ds.length from HT.sIx_nat _ _ _]
  by_cases h : a ≤ ds.length
  · rw [Nat.min_eq_left h]
    by_cases h2 : a + b ≤ ds.length
    · rw [Nat.min_eq_left h2, Nat.add_sub_cancel_left]
    · rw [Nat.min_eq_right (by omega), List.take_of_length_le (by rw [List.length_drop]; exact Nat.le_refl _), List.take_of_length_le (by rw [List.length_drop]; omega)]
  · rw [List.drop_eq_nil_of_le (show ds.length ≤ min a ds.length by omega), List.drop_eq_nil_of_le (show ds.length ≤ a by omega)]
    simp
section
local macro_rules | `(tactic| walk_at "ev") => `(tactic| first
  | refine e_var 0 rfl ?_ | refine e_var 1 rfl ?_ | refine e_var 2 rfl ?_ | refine e_var 3 rfl ?_ | refine e_var 4 rfl ?_ | refine e_var 5 rfl ?_ | refine e_var 6 rfl ?_ | refine e_var 7 rfl ?_ | refine e_var 8 rfl ?_ | refine e_var 9 rfl ?_
  | refine e_var 10 rfl ?_ | refine e_var 11 rfl ?_ | refine e_var 12 rfl ?_ | refine e_var 13 rfl ?_ | refine e_var 14 rfl ?_ | refine e_var 15 rfl ?_ | refine e_var 16 rfl ?_ | refine e_var 17 rfl ?_ | refine e_var 18 rfl ?_ | refine e_var 19 rfl ?_ | refine e_var 20 rfl ?_)
local macro_rules | `(tactic| walk_at "ec") => `(tactic| first
  | refine k_len ?_ | refine k_int ?_ | refine k_tuple ?_ | refine k_list ?_ | refine k_repr ?_ | refine k_sorted ?_ | refine k_dict ?_ | refine k_all ?_ | refine k_min ?_ | refine k_abs ?_ | refine k_isinstance ?_)
local macro_rules | `(tactic| walk_at "ee") => `(tactic| first
  | ((with_reducible show Me.E _ (Expr.Name _ _) _ _ _); walk_at "ev")
  | ((with_reducible show Me.E _ (Expr.Constant _ _ _) _ _ _); first | refine e_int ?_ | refine e_str ?_ | refine e_bl ?_ | refine e_non ?_)
  | ((with_reducible show Me.E _ (Expr.BinOp _ _ _ _) _ _ _); refine e_bin ?_)
  | ((with_reducible show Me.E _ (Expr.Compare _ _ _ _) _ _ _); refine e_cmp ?_)
  | ((with_reducible show Me.E _ (Expr.Subscript _ (Expr.Slice _ _ _ _) _) _ _ _); refine e_sl ?_)
  | ((with_reducible show Me.E _ (Expr.Subscript _ _ _) _ _ _); refine e_ix ?_)
  | ((with_reducible show Me.E _ (Expr.Tuple _ _ _) _ _ _); refine e_tup ?_)
  | ((with_reducible show Me.E _ (Expr.UnaryOp UnaryOp.Not _ _) _ _ _); refine e_not ?_)
  | ((with_reducible show Me.E _ (Expr.UnaryOp _ _ _) _ _ _); refine e_un ?_)
  | ((with_reducible show Me.E _ (Expr.IfExp _ _ _ _) _ _ _); refine e_ite ?_)
  | ((with_reducible show Me.E _ (Expr.BoolOp _ _ _) _ _ _); first | refine e_one ?_ | refine e_and ?_ | refine e_or ?_)
  | ((with_reducible show Me.E _ (Expr.Call (Expr.Name _ _) _ _ _) _ _ _); walk_at "ec"))
local macro_rules | `(tactic| walk_at "bb") => `(tactic| first
  | refine b_nil ?_ | refine b_ret ?_ | refine b_setIx ?_ | refine b_expr ?_
  | refine b_set 0 ?_ | refine b_set 1 ?_ | refine b_set 2 ?_ | refine b_set 3 ?_ | refine b_set 4 ?_ | refine b_set 5 ?_ | refine b_set 6 ?_ | refine b_set 7 ?_ | refine b_set 8 ?_ | refine b_set 9 ?_ | refine b_set 10 ?_ | refine b_set 11 ?_ | refine b_set 12 ?_ | refine b_set 13 ?_ | refine b_set 14 ?_ | refine b_set 15 ?_ | refine b_set 16 ?_ | refine b_set 17 ?_ | refine b_set 18 ?_)
local macro_rules | `(tactic| walk_at "oo") => `(tactic| first
  | ((with_reducible show Op2 _ (binaryOp _) _ _ _ _ _); first
    | (with_reducible refine o_add ?_) | (with_reducible refine o_sub ?_)
    | ((with_reducible show Op2 _ (binaryOp Operator.Mod) (D.int _) (D.int _) _ _ _); refine o_mod (by first | decide | assumption | omega) ?_)
    | ((with_reducible show Op2 _ (binaryOp Operator.FloorDiv) (D.int _) (D.int _) _ _ _); refine o_fdiv (by first | decide | assumption | omega) ?_)
    | ((with_reducible show Op2 _ (binaryOp Operator.Mult) (D.int _) (D.int _) _ _ _); first | refine o_mul (Or.inr ⟨by decide, by decide⟩) ?_ | refine o_mul (Or.inl ⟨by decide, by decide⟩) ?_))
  | ((with_reducible show Op2 _ (compareOp _) _ _ _ _ _); first
    | (with_reducible refine o_lt ?_) | (with_reducible refine o_le ?_) | (with_reducible refine o_gt ?_) | (with_reducible refine o_ge ?_) | (with_reducible refine o_eqI ?_) | (with_reducible refine o_neI ?_) | (with_reducible refine o_eqS ?_) | (with_reducible refine o_neS ?_) | (with_reducible refine o_isN ?_) | (with_reducible refine o_isntN ?_))
  | (with_reducible refine o_neg ?_)
  | ((with_reducible show Cl _ (Value.type "int") _ _ _ _); refine c_int ?_)
  | ((with_reducible show Cl _ (Value.builtin "len") _ _ _ _); first | (with_reducible refine c_lenN ?_) | (with_reducible refine c_lenT ?_) | refine c_lenL rfl ?_)
  | ((with_reducible show Ix2 _ (D.tup _) _ _ _ _); refine x_tup rfl ?_)
  | ((with_reducible show Ix2 _ _ _ _ _ _); refine x_lst rfl rfl ?_))
local macro_rules | `(tactic| walk_at "me") => `(tactic| first
  | ((with_reducible show Me.E _ _ _ _ _); walk_at "ee")
  | ((with_reducible show Me.A _ _ _ _ _); first | refine a_cons ?_ | refine a_nil ?_)
  | ((with_reducible show Me.Thn _ _ _ (Out.next _ _)); refine thn_n ?_)
  | ((with_reducible show Me.B _ _ _ _ _); walk_at "bb")
  | ((with_reducible show Me.T _ _ _ _ _); first | refine t_cmp ?_ | refine t_bop ?_ | refine t_not ?_)
  | ((with_reducible show Me.W _ _ _ _ _); first | refine w_and1 ?_ | refine w_or1 ?_ | refine w_and ?_ | refine w_or ?_)
  | ((with_reducible show Me.OI _ _ _ _ _); first | refine o_none ?_ | refine o_some ?_)
  | walk_at "oo"
  | (with_reducible refine asT_i ?_)
  | (with_reducible refine ⟨_, rfl, ?_⟩))
local macro_rules | `(tactic| walk_at "go") => `(tactic| repeat (walk_at "me"))
variable {w : World} {P : Program} {base : Heap} {mg : Str → Option Value} {K : PySem.W.Frag} {Γ : Gam}
set_option maxHeartbeats 4000000 in
theorem ok_law (hK : Γ.K = K) {f fB : Addr} {fd fdB : FuncData} {k kB jt jl jm jf jb : Nat} (F : Fun K "law" "law" sLaw f fd) (hb : Bi mg) (GB : FnOk P w K mg base CX0 kB fB fdB ["_law_script"] (spBag K)) (hkb : kB ≤ k) (hmB : mg "_law_bag" = some (.ref fB)) (hkB : PySem.W.keepIn K (.ref fB) = true) (hbB : Binds K fdB ["_law_script"] [])
    (FT : Fn P w K mg base Γ jt "_law_take" CTake) (ht : jt ≤ k) (FL : Fn P w K mg base Γ jl "_law_labels" (CBag ALabels RLabels)) (hl : jl ≤ k) (FM : Fn P w K mg base Γ jm "_law_mix" (CBag AMixG RMixG)) (hm : jm ≤ k) (FF : Fn P w K mg base Γ jf "_law_first_labels" CFirst) (hf : jf ≤ k)
    (FB : Fn P w K mg base Γ jb "least_label" CLeast) (hbl : jb ≤ k) :
    Gd.FnG P w K mg base (L2.CX P w) (k + 1) f fd pLaw (spLaw K) := by
  obtain ⟨oc, od, kV, doc, pm, an, cdv, ct', osl, rfl, lk, hcd⟩ := F.ex
  refine Gd.fn_ofG lk hcd scLaw (fun vs H Q E h => by obtain ⟨a, ns, rfl, _⟩ := h; rfl) fun A outer s H vs Q E gA hr0 hsp => ?_
  refine law_first (S := bodyS P w K mg base Γ hK nLaw "law" sLaw f cdv A outer s H E (fun _ _ _ => False) gA scLaw.nd hb k ⟨hr0.dp, hr0.un⟩) 11 hsp (fun _ _ _ z => z) GB (hr0.mono hkb) hmB hkB hbB fun b gb => ?_
  refine b_set 2 (e_call FF (a_cons (e_int (a_nil ⟨rfl, ?_⟩))))
  refine b_for rfl (g_name 3) (i_range1 hb.range ?_)
  walk_at "go"
  refine ⟨by decide, fun _ env' μ' => ∃ s' ext x3 x4 x5 x6 x7 x8 x9 x10 x11 x12, Good s' ∧ μ' = bagC s' :: ext ∧ env' = [none, some (.cell 0), some (.lst (firsts.map D.str)), x3, x4, x5, x6, x7, x8, x9, x10, x11, x12], ?_⟩
  refine ⟨⟨b, [], none, none, none, none, none, none, none, none, none, none, gb, rfl, rfl⟩, fun _ _ _ _ => trivial, ?_, ?_⟩
  · rintro c d _ _ hd ⟨b0, ext, x3, x4, x5, x6, x7, x8, x9, x10, x11, x12, g0, rfl, rfl⟩
    refine ⟨_, rfl, b_set 4 (e_bin (e_call FL ?_))⟩
    walk_at "go"
    refine cbag g0 ⟨5, rfl, by decide⟩ ?_
    rintro dl s1 hdl g1
    obtain ⟨ls, rfl, hll, hl8⟩ := labels_of (n := 5) hdl
    refine e_call FM ?_
    walk_at "go"
    refine e_call FT ?_
    walk_at "go"
    refine e_lst ?_
    walk_at "go"
    refine ⟨by show 3 ≤ sizeLine; decide, ?_⟩
    refine e_call FT ?_
    walk_at "go"
    refine ctake g1 (by decide) ?_
    have g2 := takeS_good (n := 3) g1 (by decide)
    obtain ⟨dd, hdm, hda⟩ := at_draw (b := s1) (ds := [.int 9, .int 40, .int 120]) (by simp)
    obtain ⟨mm, rfl, hm1, hm2⟩ : ∃ mm : Int, dd = .int mm ∧ 0 < mm ∧ mm ≤ 120 := by
      simp only [List.mem_cons, List.not_mem_nil, or_false] at hdm
      rcases hdm with rfl | rfl | rfl
      · exact ⟨_, rfl, by decide, by decide⟩
      · exact ⟨_, rfl, by decide, by decide⟩
      · exact ⟨_, rfl, by decide, by decide⟩
    refine x_lst (ds := [.int 9, .int 40, .int 120]) rfl (at_i (takeV_nonneg (by decide)) hda) ?_
    refine a_nil (ctake g2 ⟨hm1, by omega⟩ ?_)
    have g3 := takeS_good (n := mm) g2 hm1
    have v0 := takeV_nonneg (s := takeS s1 3) (n := mm) hm1
    have v1 := takeV_lt (s := takeS s1 3) (n := mm) hm1
    generalize takeS (takeS s1 3) mm = s3 at g3 ⊢
    generalize takeV (takeS s1 3) mm = v at v0 v1 ⊢
    refine ⟨_, rfl, s_lst rfl (.l ?_)⟩
    rw [cutD_to v0, ← List.map_take]
    refine a_nil (cbag g3 ⟨_, rfl, by rw [List.length_map, List.length_take]; omega, refs_strs _⟩ ?_)
    rintro _ s4 ⟨_, ds', e, rfl, hp⟩ g4
    injection e with e _
    injection e with e
    subst e
    obtain ⟨ms, rfl, hpm⟩ := perm_strs hp
    refine o_addL (ds := ls.map D.str) (es := ms.map D.str) rfl rfl (by rw [List.length_map, List.length_map, hpm.length_eq, List.length_take, sizeLine_eq]; omega) (.l ?_)
    rw [← List.map_append]
    generalize hlabs : ls ++ ms = labs
    have hlab : ∀ x ∈ labs, Lab x := fun x hx => by
      rw [← hlabs] at hx
      rcases List.mem_append.mp hx with z | z
      · exact (hl8 x z).1
      · exact (first_lab (List.mem_of_mem_take (hpm.mem_iff.mp z))).1
    have hlen : labs.length ≤ 130 := by
      rw [← hlabs, List.length_append, hpm.length_eq, List.length_take]
      omega
    -- names
    refine b_set 5 (e_lstC (a_nil ⟨Nat.zero_le _, ?_⟩))
    have hN : ∀ ds : List D, ((bagC s4 :: ext) ++ [Cell.lst ds])[(bagC s4 :: ext).length]? = some (.lst ds) := fun ds => by simp
    have hS : ∀ ds es : List D, ((bagC s4 :: ext) ++ [Cell.lst ds]).set (bagC s4 :: ext).length (.lst es) = (bagC s4 :: ext) ++ [.lst es] := fun ds es => by simp
    obtain ⟨r1, r2⟩ := range8 labs.length (by omega)
    refine b_for rfl (g_name 6) (i_range3 hb.range ?_)
    walk_at "go"
    refine ⟨0, labs.length, 8, (labs.length + 7) / 8, by rw [List.length_map], ⟨by decide, by decide, r1, r2⟩, ?_⟩
    refine ⟨fun c2 env' μ' => ∃ x6 ns, μ' = (bagC s4 :: ext) ++ [.lst (nmsD ns)] ∧ ns.flatten = labs.take (8 * c2) ∧ ns.length = c2 ∧ (∀ n ∈ ns, Nm n 8) ∧ env' = [none, some (.cell 0), some (.lst (firsts.map D.str)), some d, some (.lst (labs.map D.str)), some (.cell (bagC s4 :: ext).length), x6, x7, x8, x9, x10, x11, x12], ⟨⟨x6, [], rfl, rfl, rfl, (fun n hn => nomatch hn), rfl⟩, fun _ _ _ _ => trivial, ?_, ?_⟩⟩
    · rintro c2 d2 _ _ hd2 ⟨x6, ns, rfl, hfl, hnl, hnm, rfl⟩
      have hc2 := (List.getElem?_eq_some_iff.mp hd2).1
      rw [rangeC_len] at hc2
      rw [rangeC_get hc2] at hd2
      obtain rfl := Option.some.inj hd2
      refine ⟨_, rfl, b_expr (e_append (e_var 5 rfl ⟨_, rfl, ⟨_, vw_lst (hN _)⟩, ?_⟩))⟩
      refine k_tuple (a_cons (e_sl (e_var 4 rfl (o_some (e_var 6 rfl ⟨_, rfl, o_some (e_bin (e_var 6 rfl (e_int (o_add ⟨_, rfl, s_lst rfl (.l ?_)⟩))))⟩)))))
      refine a_nil (c_tupL rfl ⟨_, hN _, by unfold nmsD; rw [List.length_map, sizeLine_eq]; omega, b_nil ?_⟩)
      have ec : cutD (labs.map D.str) (some (0 + (c2 : Int) * 8)) (some (0 + (c2 : Int) * 8 + 8)) = ((labs.drop (8 * c2)).take 8).map D.str := by
        have := cutD_mid (labs.map D.str) (8 * c2) 8
        rw [← List.map_drop, ← List.map_take] at this
        rw [← this, show (0 + (c2 : Int) * 8) = ((8 * c2 : Nat) : Int) by omega, show (((8 * c2 : Nat) : Int) + 8) = ((8 * c2 + 8 : Nat) : Int) by omega]
      rw [ec, hS]
      refine ⟨_, ns ++ [(labs.drop (8 * c2)).take 8], ?_, ?_, by rw [List.length_append, hnl]; rfl, fun n hn => ?_, rfl⟩
      · unfold nmsD; rw [List.map_append]; rfl
      · rw [List.flatten_append, hfl]
        show labs.take (8 * c2) ++ ((labs.drop (8 * c2)).take 8 ++ []) = labs.take (8 * c2 + 8)
        rw [List.append_nil, List.take_add]
      · rcases List.mem_append.mp hn with z | z
        · exact hnm n z
        · obtain rfl := List.mem_singleton.mp z
          exact ⟨fun x hx => hlab x (List.mem_of_mem_drop (List.mem_of_mem_take hx)), by rw [List.length_take]; omega⟩
    rintro _ _ ⟨x6, ns, rfl, hfl, hnl, hnm, rfl⟩
    rw [rangeC_len] at hfl hnl
    have hNL : NL ns := ⟨hnm, by omega, by rw [hfl, List.length_take]; omega⟩
    refine b_frz 5 (bagC s4 :: ext).length rfl (hN _) ?_
    rw [show ((bagC s4 :: ext) ++ [Cell.lst (nmsD ns)]).set (bagC s4 :: ext).length .dead = bagC s4 :: (ext ++ [.dead]) by simp]
    -- mixed
    refine b_set 5 (e_sl (e_call FM ?_))
    walk_at "go"
    refine cbag g4 ⟨_, rfl, by unfold nmsD; rw [List.length_map, hnl]; omega, refs_nms ns⟩ ?_
    rintro _ s5 ⟨_, ds', e, rfl, hp⟩ g5
    injection e with e _
    injection e with e
    subst e
    obtain ⟨nm, rfl, hpn⟩ := perm_nms hp
    have hNM := (hNL.perm hpn).take 20
    walk_at "go"
    refine s_lst rfl (.c ?_)
    rw [cutD_to (by decide), show (nmsD nm).take (20 : Int).toNat = nmsD (nm.take 20) by unfold nmsD; rw [← List.map_take]; rfl]
    generalize nm.take 20 = n1 at hNM ⊢
    generalize hX : ext ++ [Cell.dead] = ex1
    have hC : ∀ s' ds, ((bagC s' :: ex1) ++ [Cell.lst ds])[(bagC s5 :: ex1).length]? = some (.lst ds) := fun s' ds => by simp
    -- one less
    refine b_ifJ (fun env' μ' => ∃ s' n2, Good s' ∧ NL n2 ∧ μ' = (bagC s' :: ex1) ++ [.lst (nmsD n2)] ∧ env' = [none, some (.cell 0), some (.lst (firsts.map D.str)), some d, some (.lst (labs.map D.str)), some (.cell (bagC s5 :: ex1).length), x6, x7, x8, x9, x10, x11, x12]) ?_ ?_
    · refine t_bop (w_and (t_cmp (e_var 5 rfl (e_lst (a_nil ⟨Nat.zero_le _, ?_⟩)))))
      refine o_ne (e1 := .lst (nmsD n1)) (e2 := .lst []) (vw_lst (hC s5 _)) rfl ⟨isPys_nms n1, rfl, hNM.ok.shaped, by decide⟩ (asT_i ⟨fun h => ?_, fun h => ?_⟩)
      · have hne : n1 ≠ [] := fun z => by subst z; revert h; decide
        refine w_and1 (t_cmp (e_call FT ?_))
        walk_at "go"
        refine ctake g5 (by decide) ?_
        have g6 := takeS_good (n := 3) g5 (by decide)
        generalize takeS s5 3 = s6 at g6 ⊢
        walk_at "go"
        refine ⟨fun _ => ?_, fun _ => ?_⟩
        · obtain ⟨n0, last, rfl⟩ : ∃ n0 last, n1 = n0 ++ [last] := ⟨n1.dropLast, n1.getLast hne, (List.dropLast_concat_getLast hne).symm⟩
          refine b_expr (e_bm0 PySem.F.plainAttrs_list PySem.F.slot_list_pop PySem.F.type_list_pop (e_var 5 rfl ⟨ty_lst (vw_lst (hC s6 _)), ?_⟩))
          refine m_pop (ds := nmsD (n0 ++ [last])) (d := nameD last) (hC s6 _) (by unfold nmsD; simp) (b_nil ?_)
          refine ⟨s6, n0, g6, ⟨fun n hn => hNM.nm n (List.mem_append_left _ hn), by have := hNM.len; rw [List.length_append] at this; omega, by have := hNM.fl; rw [List.flatten_append, List.length_append] at this; omega⟩, ?_, rfl⟩
          rw [show (nmsD (n0 ++ [last])).dropLast = nmsD n0 by unfold nmsD; simp]
          simp
        · exact b_nil ⟨s6, n1, g6, hNM, rfl, rfl⟩
      · exact ⟨(fun z => nomatch z), fun _ => b_nil ⟨s5, n1, g5, hNM, rfl, rfl⟩⟩
    rintro _ _ ⟨s6, n2, g6, hN2, rfl, rfl⟩
    refine b_frz 5 (bagC s5 :: ex1).length rfl (hC s6 _) ?_
    rw [show ((bagC s6 :: ex1) ++ [Cell.lst (nmsD n2)]).set (bagC s5 :: ex1).length .dead = bagC s6 :: (ex1 ++ [.dead]) by simp]
    generalize ex1 ++ [Cell.dead] = ex2
    -- known
    have hfl2 := hN2.fl
    have hle2 := hN2.len
    have e1 : (nmsD n2).map (fun d => D.lst (labsD d)) = (n2.map fun n => n.map D.str).map D.lst := by unfold nmsD; rw [List.map_map, List.map_map]; rfl
    have hsum : ∀ {S' : Sc} {env' : En} {μ' : Mu} {PP : KD} (hc' : S'.X.calm = true), PP (.lst (n2.flatten.map D.str)) μ' → Cl S' (.builtin "sum") [.lst ((nmsD n2).map (fun d => D.lst (labsD d))), .lst []] env' μ' PP := fun {S' env' μ' PP} hc' kk => by
      cases hn : n2 with
      | nil =>
        rw [hn] at kk
        exact c_sum0 rfl rfl kk hc'
      | cons a l =>
        rw [← hn, e1]
        have ef : ([] : List D) ++ (n2.map fun n => n.map D.str).flatten = n2.flatten.map D.str := by rw [List.nil_append, List.map_flatten]
        refine c_sumL (ess := n2.map fun n => n.map D.str) (es0 := []) rfl rfl (by rw [List.length_map, hn]; exact Nat.zero_lt_succ _) ?_ (.l ?_) hc'
        · rw [ef, List.length_map, sizeLine_eq]; omega
        · rw [ef]; exact kk
    refine b_set 7 (k_dict (a_cons (e_lc 9 rfl (blkOk_by (N := nLaw) (sc := defScope sLaw) (by decide +kernel)) (i_lst ?_))))
    refine k_sum (a_cons (e_lc 8 rfl (blkOk_by (N := nLaw) (sc := defScope sLaw) (by decide +kernel)) (i_lst (e_var 5 rfl ⟨_, rfl, ?_⟩))))
    refine Comp.map (fun d => D.lst (labsD d)) (by unfold nmsD; rw [List.length_map, sizeLine_eq]; omega) rfl ?_ ?_
    · intro k2 d2 hd2
      obtain ⟨n, rfl, _, _⟩ := nmsL_at hd2
      exact ⟨_, rfl, fun s H C cl fp => k_list (a_cons (e_var 8 rfl (a_nil (c_lstT (.l ⟨rfl, rfl⟩)))))⟩
    refine a_cons (e_lst (a_nil ⟨Nat.zero_le _, a_nil (hsum rfl ⟨_, rfl, ?_⟩)⟩))
    refine Comp.map (fun d => D.tup [d, .bl true]) (by rw [List.length_map, sizeLine_eq]; omega) rfl ?_ ?_
    · intro k2 d2 hd2
      exact ⟨_, rfl, fun s H C cl fp => e_tup (a_cons (e_var 9 rfl (a_cons (e_bl (a_nil ⟨by show 2 ≤ sizeLine; decide, rfl, rfl⟩)))))⟩
    refine a_nil (c_dictP false (ps := n2.flatten.map fun x => (skK x, D.bl true)) rfl (by rw [List.map_map, List.map_map, List.map_map]; rfl) rfl ?_)
    generalize hkv : putsD [] (n2.flatten.map fun x => (skK x, D.bl true)) = kvs
    have has : ∀ x : Str, (valD kvs (skK x)).isSome = decide (x ∈ n2.flatten) := fun x => by rw [← hkv, has_puts, has_strs]
    have hM : ∀ s', ((bagC s' :: ex2) ++ [Cell.dct false none kvs])[(bagC s6 :: ex2).length]? = some (.dct false none kvs) := fun s' => by simp
    have hrp : RpOk (D.lst (nmsD n2)) := ⟨hN2.ok.shw, noDict hN2.ok.lay, Nat.le_trans hN2.ok.dep (by decide), Nat.le_trans hN2.ok.txt (by rw [sizeLine_eq]; decide)⟩
    have hfl : (D.lst (nmsD n2)).fl = true := fls_nms n2
    refine b_par 10 11 rfl (a_cons (e_ix (e_lc 9 rfl (blkOk_by (N := nLaw) (sc := defScope sLaw) (by decide +kernel)) (i_lst (e_var 2 rfl ⟨_, rfl, ?_⟩)))))
    refine Comp.filt (fun d => decide (unS d ∉ n2.flatten)) (by rw [List.length_map, firsts_len, sizeLine_eq]; decide) rfl ?_ ?_
    · intro k2 d2 hd2
      obtain ⟨x, rfl, _, _⟩ := strs_at hd2
      refine ⟨_, rfl, fun s H C cl fp => t_cmp (e_var 9 rfl (e_var 7 rfl (o_notInD (k := skK x) (vw_dct (hM s6)) rfl (asT_i ⟨?_, rfl⟩)))), fun _ s H C cl fp => e_var 9 rfl ⟨rfl, rfl⟩⟩
      rw [has]
      exact decide_not.symm
    refine e_int (x_lst rfl (filter_first (by omega)) (a_cons (k_repr (a_cons (e_var 5 rfl (a_nil (c_reprV (Dv.self _ hfl) hrp (a_nil ⟨_, _, rfl, ?_⟩))))))))
    -- asked twice
    refine b_for rfl (g_name 12) (i_range1 hb.range (e_int ⟨_, rfl, by decide, ?_⟩))
    refine ⟨fun _ env' μ' => ∃ x12, μ' = (bagC s6 :: ex2) ++ [.dct false none kvs] ∧ env' = [none, some (.cell 0), some (.lst (firsts.map D.str)), some d, some (.lst (labs.map D.str)), some (.lst (nmsD n2)), x6, some (.cell (bagC s6 :: ex2).length), x8, x9, some (.str (leastS n2.flatten)), some (.str (D.lst (nmsD n2)).py.shown), x12], ⟨⟨x12, rfl, rfl⟩, fun _ _ _ _ => trivial, ?_, ?_⟩⟩
    · rintro c4 d4 _ _ hd4 ⟨y12, rfl, rfl⟩
      refine ⟨_, rfl, b_if (t_bop (w_or (t_cmp (e_call FB (a_cons (e_var 5 rfl (a_nil ⟨_, n2, rfl, rfl, by omega, by omega, e_var 10 rfl (o_neS ?_)⟩)))))))⟩
      rw [decide_eq_true rfl]
      refine asT_i ⟨(fun z => nomatch z), fun _ => w_or1 (t_cmp (k_repr (a_cons (e_var 5 rfl (a_nil (c_reprV (Dv.self _ hfl) hrp (e_var 11 rfl (o_neS ?_))))))))⟩
      rw [decide_eq_true rfl]
      exact asT_i ⟨(fun z => nomatch z), fun _ => b_nil (b_nil ⟨_, rfl, rfl⟩)⟩
    · rintro _ _ ⟨y12, rfl, rfl⟩
      exact b_nil ⟨s6, _, _, _, _, _, _, _, _, _, _, _, g6, rfl, rfl⟩
  · rintro _ _ ⟨s', ext, x3, x4, x5, x6, x7, x8, x9, x10, x11, x12, gs, rfl, rfl⟩
    have hA : leastS [] = Str.ofString "a" := by decide +kernel
    refine b_ret (e_and2 (r := true) (e_cmp (e_call FB (a_cons (e_lst (a_nil ⟨Nat.zero_le _, a_nil ⟨_, [], rfl, rfl, by decide, by decide, e_str (o_eqS ?_)⟩⟩))))))
    refine ⟨_, rfl, fun _ => e_cmp (e_call FB (a_cons (e_lst (a_cons (e_tup (a_nil ⟨Nat.zero_le _, a_nil ⟨by show 1 ≤ sizeLine; decide, a_nil ⟨_, [[]], rfl, rfl, by decide, by decide, e_str (o_eqS ?_)⟩⟩⟩)))))), fun z => ?_, _, rfl⟩
    · exact ⟨congrArg D.bl (decide_eq_true hA), rfl⟩
    · rw [show ([] : List (List Str)).flatten = [] from rfl, decide_eq_true hA] at z
      exact nomatch z
end
end Lm

namespace Lm
open PySem PySem.Spec PyProof.Rows L2 Me
section
local macro_rules | `(tactic| walk_at "ev") => `(tactic| first
  | refine e_var 0 rfl ?_ | refine e_var 1 rfl ?_ | refine e_var 2 rfl ?_ | refine e_var 3 rfl ?_ | refine e_var 4 rfl ?_ | refine e_var 5 rfl ?_ | refine e_var 6 rfl ?_ | refine e_var 7 rfl ?_ | refine e_var 8 rfl ?_ | refine e_var 9 rfl ?_
  | refine e_var 10 rfl ?_ | refine e_var 11 rfl ?_ | refine e_var 12 rfl ?_ | refine e_var 13 rfl ?_ | refine e_var 14 rfl ?_ | refine e_var 15 rfl ?_ | refine e_var 16 rfl ?_ | refine e_var 17 rfl ?_ | refine e_var 18 rfl ?_ | refine e_var 19 rfl ?_ | refine e_var 20 rfl ?_)
local macro_rules | `(tactic| walk_at "ec") => `(tactic| first
  | refine k_len ?_ | refine k_int ?_ | refine k_tuple ?_ | refine k_list ?_ | refine k_repr ?_ | refine k_sorted ?_ | refine k_dict ?_ | refine k_all ?_ | refine k_min ?_ | refine k_abs ?_ | refine k_isinstance ?_)
local macro_rules | `(tactic| walk_at "ee") => `(tactic| first
  | ((with_reducible show Me.E _ (Expr.Name _ _) _ _ _); walk_at "ev")
  | ((with_reducible show Me.E _ (Expr.Constant _ _ _) _ _ _); first | refine e_int ?_ | refine e_str ?_ | refine e_bl ?_ | refine e_non ?_)
  | ((with_reducible show Me.E _ (Expr.BinOp _ _ _ _) _ _ _); refine e_bin ?_)
  | ((with_reducible show Me.E _ (Expr.Compare _ _ _ _) _ _ _); refine e_cmp ?_)
  | ((with_reducible show Me.E _ (Expr.Subscript _ (Expr.Slice _ _ _ _) _) _ _ _); refine e_sl ?_)
  | ((with_reducible show Me.E _ (Expr.Subscript _ _ _) _ _ _); refine e_ix ?_)
  | ((with_reducible show Me.E _ (Expr.Tuple _ _ _) _ _ _); refine e_tup ?_)
  | ((with_reducible show Me.E _ (Expr.UnaryOp UnaryOp.Not _ _) _ _ _); refine e_not ?_)
  | ((with_reducible show Me.E _ (Expr.UnaryOp _ _ _) _ _ _); refine e_un ?_)
  | ((with_reducible show Me.E _ (Expr.IfExp _ _ _ _) _ _ _); refine e_ite ?_)
  | ((with_reducible show Me.E _ (Expr.BoolOp _ _ _) _ _ _); first | refine e_one ?_ | refine e_and ?_ | refine e_or ?_)
  | ((with_reducible show Me.E _ (Expr.Call (Expr.Name _ _) _ _ _) _ _ _); walk_at "ec"))
local macro_rules | `(tactic| walk_at "bb") => `(tactic| first
  | refine b_nil ?_ | refine b_ret ?_ | refine b_setIx ?_ | refine b_expr ?_
  | refine b_set 0 ?_ | refine b_set 1 ?_ | refine b_set 2 ?_ | refine b_set 3 ?_ | refine b_set 4 ?_ | refine b_set 5 ?_ | refine b_set 6 ?_ | refine b_set 7 ?_ | refine b_set 8 ?_ | refine b_set 9 ?_ | refine b_set 10 ?_ | refine b_set 11 ?_ | refine b_set 12 ?_ | refine b_set 13 ?_ | refine b_set 14 ?_ | refine b_set 15 ?_ | refine b_set 16 ?_ | refine b_set 17 ?_ | refine b_set 18 ?_)
local macro_rules | `(tactic| walk_at "oo") => `(tactic| first
  | ((with_reducible show Op2 _ (binaryOp _) _ _ _ _ _); first
    | (with_reducible refine o_add ?_) | (with_reducible refine o_sub ?_)
    | ((with_reducible show Op2 _ (binaryOp Operator.Mod) (D.int _) (D.int _) _ _ _); refine o_mod (by first | decide | assumption | omega) ?_)
    | ((with_reducible show Op2 _ (binaryOp Operator.FloorDiv) (D.int _) (D.int _) _ _ _); refine o_fdiv (by first | decide | assumption | omega) ?_)
    | ((with_reducible show Op2 _ (binaryOp Operator.Mult) (D.int _) (D.int _) _ _ _); first | refine o_mul (Or.inr ⟨by decide, by decide⟩) ?_ | refine o_mul (Or.inl ⟨by decide, by decide⟩) ?_))
  | ((with_reducible show Op2 _ (compareOp _) _ _ _ _ _); first
    | (with_reducible refine o_lt ?_) | (with_reducible refine o_le ?_) | (with_reducible refine o_gt ?_) | (with_reducible refine o_ge ?_) | (with_reducible refine o_eqI ?_) | (with_reducible refine o_neI ?_) | (with_reducible refine o_eqS ?_) | (with_reducible refine o_neS ?_) | (with_reducible refine o_isN ?_) | (with_reducible refine o_isntN ?_))
  | (with_reducible refine o_neg ?_)
  | ((with_reducible show Cl _ (Value.type "int") _ _ _ _); refine c_int ?_)
  | ((with_reducible show Cl _ (Value.builtin "len") _ _ _ _); first | (with_reducible refine c_lenN ?_) | (with_reducible refine c_lenT ?_) | refine c_lenL rfl ?_)
  | ((with_reducible show Ix2 _ (D.tup _) _ _ _ _); refine x_tup rfl ?_)
  | ((with_reducible show Ix2 _ _ _ _ _ _); refine x_lst rfl rfl ?_))
local macro_rules | `(tactic| walk_at "me") => `(tactic| first
  | ((with_reducible show Me.E _ _ _ _ _); walk_at "ee")
  | ((with_reducible show Me.A _ _ _ _ _); first | refine a_cons ?_ | refine a_nil ?_)
  | ((with_reducible show Me.Thn _ _ _ (Out.next _ _)); refine thn_n ?_)
  | ((with_reducible show Me.B _ _ _ _ _); walk_at "bb")
  | ((with_reducible show Me.T _ _ _ _ _); first | refine t_cmp ?_ | refine t_bop ?_ | refine t_not ?_)
  | ((with_reducible show Me.W _ _ _ _ _); first | refine w_and1 ?_ | refine w_or1 ?_ | refine w_and ?_ | refine w_or ?_)
  | ((with_reducible show Me.OI _ _ _ _ _); first | refine o_none ?_ | refine o_some ?_)
  | walk_at "oo"
  | (with_reducible refine asT_i ?_)
  | (with_reducible refine ⟨_, rfl, ?_⟩))
local macro_rules | `(tactic| walk_at "go") => `(tactic| repeat (walk_at "me"))
variable {w : World} {P : Program} {base : Heap} {mg : Str → Option Value} {K : PySem.W.Frag} {Γ : Gam}
theorem ok_bag {f : Addr} {fd : FuncData} {k : Nat} (F : Fun K "_law_bag" "_law_bag" sBag f fd) (hb : Bi mg) : FnOk P w K mg base CX0 (k + 1) f fd ["_law_script"] (spBag K) := by
  refine F.ok scBag (fun vs H Q E h => ?_) (fun cdv A outer s H vs Q E hr h => ?_)
  · obtain ⟨a, ns, rfl, _⟩ := h
    rfl
  · obtain ⟨a, ns, rfl, hS, hl, q⟩ := h
    refine ⟨_, pss_one (ps_ret (pe_lst (pa_cons pe_int (pa_cons pe_int (pa_cons pe_int (pa_cons (pe_lc (own := [("_law_cell", 1)]) (g := gName 1) (tt := tYes) rfl scBag.nd (pi_list (pe_slice sl_list (pv 0) po_none (po_some pe_int)))
      (blkOk_by (N := nBag) (sc := defScope sBag) (by decide +kernel)) (fun _ _ _ _ _ => pg_name (i := 1) scBag.nd rfl (Or.inl rfl)) (fun _ _ _ _ _ => pts_nil) (fun _ _ _ _ _ => pe_callB call_abs (by rfl) hb.abs (by decide +kernel) (pa_cons (pv 1) pa_nil))) pa_nil)))))), ?_⟩
    refine ⟨.ref a, rfl, 63, rfl, a, ns.map V.int, rfl, hS, fun c nc => ?_⟩
    have cl : (cutV (ns.map V.int) none (some 63)).length ≤ 1000 := Nat.le_trans (cutV_length _ _ _) (by rw [List.length_map]; exact hl)
    have ci : ∀ v ∈ cutV (ns.map V.int) none (some 63), ∃ i, v = V.int i := fun v hv => by
      unfold cutV at hv
      obtain ⟨i, _, rfl⟩ := List.mem_map.mp (List.mem_of_mem_drop (List.mem_of_mem_take hv))
      exact ⟨i, rfl⟩
    refine ⟨c, rfl, ⟨_, .inl (.inl upd_same)⟩, fun D nD => ?_⟩
    have hDc : c ≠ D := fun z => by
      rw [z, upd_same] at nD
      cases nD
    refine lc_list (K := K) (a := c) (xs := cutV (ns.map V.int) none (some 63)) (fun i H2 => H2 c = some (.lst (cutV (ns.map V.int) none (some 63))) ∧ ∃ cs : List Int, H2 D = some (.lst (cs.map V.int)) ∧ cs.length ≤ i) ⟨by rw [upd_ne hDc, upd_same], [], upd_same, Nat.le_refl _⟩ (fun i H2 _ h => .inl (.inl h.1)) ?_ ?_
    · rintro i v H2 hv ⟨h1, cs, h2, h3⟩
      obtain ⟨z, rfl⟩ := ci v (List.mem_of_getElem? hv)
      have hi := (List.getElem?_eq_some_iff.mp hv).1
      refine ⟨rfl, .int z, rfl, z, rfl, cs.map V.int, h2, by rw [List.length_map, sizeLine_eq]; omega, by rw [upd_ne hDc]; exact h1, cs ++ [_], by rw [upd_same, List.map_append]; rfl, by rw [List.length_append]; show cs.length + 1 ≤ i + 1; omega⟩
    · rintro H2 ⟨h1, cs, h2, h3⟩
      refine ⟨by show 4 ≤ sizeLine; decide, fun b nb => q b D cs _ (ne_of_none h2 nb).symm upd_same (by rw [upd_ne (ne_of_none h2 nb)]; exact h2)⟩
end
end Lm

namespace Lm
open PySem PySem.Spec PyProof.Rows L2 Me
theorem cx_no {P : Program} {w : World} {H : Hp} {s s' : Shared} {u : Value} (h : L2.CX P w [] H s (fun _ _ _ => False) u s') : False := by
  obtain ⟨_, _, _, _, _, _, _, _, _, _, _, _, h⟩ := h
  exact h
/-! ### what the top has written; the law's own head -/
set_option maxHeartbeats 8000000 in
theorem all_mk {l : PySem.W.OpenLaw} {w : World} {K : PySem.W.Frag} {h : Heap} {mg : Str → Option Value} {fa f0 f1 f2 f3 f4 f5 f6 f7 : Addr} {t_LETTERS : Tok} {t_MOST_LETTERS : Tok} (X : K.In h) (G : h.Ns mainGlobals mg) (hfa : mg "law" = some (.ref fa))
    {od0 an0 : Option Addr} {sl0 : Array (Option Value)} {oc0 kV0 dc0 pm0 cd0 ct0 : Value} (a0 : PySem.W.nsIn K mainGlobals "label_after" = some (some (.ref f0)))
      (l0 : K.lookup f0 = some ⟨oc0, od0, .func (PySem.W.fnOf "label_after" "label_after" (defArgs sPLabelAfter) (defBody sPLabelAfter) (defScope sPLabelAfter) .none kV0 dc0 pm0 an0 cd0 ct0), sl0⟩)
      (c0 : PySem.W.codeIn K cd0 "label_after" = true) (k0 : PySem.W.keepIn K (.ref f0) = true)
    {od1 an1 : Option Addr} {sl1 : Array (Option Value)} {oc1 kV1 dc1 pm1 cd1 ct1 : Value} (a1 : PySem.W.nsIn K mainGlobals "least_label" = some (some (.ref f1)))
      (l1 : K.lookup f1 = some ⟨oc1, od1, .func (PySem.W.fnOf "least_label" "least_label" (defArgs sPLeastLabel) (defBody sPLeastLabel) (defScope sPLeastLabel) .none kV1 dc1 pm1 an1 cd1 ct1), sl1⟩)
      (c1 : PySem.W.codeIn K cd1 "least_label" = true) (k1 : PySem.W.keepIn K (.ref f1) = true)
    {od2 an2 : Option Addr} {sl2 : Array (Option Value)} {oc2 kV2 dc2 pm2 cd2 ct2 : Value} (a2 : PySem.W.nsIn K mainGlobals "_law_bag" = some (some (.ref f2)))
      (l2 : K.lookup f2 = some ⟨oc2, od2, .func (PySem.W.fnOf "_law_bag" "_law_bag" (defArgs sBag) (defBody sBag) (defScope sBag) .none kV2 dc2 pm2 an2 cd2 ct2), sl2⟩)
      (c2 : PySem.W.codeIn K cd2 "_law_bag" = true) (k2 : PySem.W.keepIn K (.ref f2) = true)
    {od3 an3 : Option Addr} {sl3 : Array (Option Value)} {oc3 kV3 dc3 pm3 cd3 ct3 : Value} (a3 : PySem.W.nsIn K mainGlobals "_law_take" = some (some (.ref f3)))
      (l3 : K.lookup f3 = some ⟨oc3, od3, .func (PySem.W.fnOf "_law_take" "_law_take" (defArgs sTake) (defBody sTake) (defScope sTake) .none kV3 dc3 pm3 an3 cd3 ct3), sl3⟩)
      (c3 : PySem.W.codeIn K cd3 "_law_take" = true) (k3 : PySem.W.keepIn K (.ref f3) = true)
    {od4 an4 : Option Addr} {sl4 : Array (Option Value)} {oc4 kV4 dc4 pm4 cd4 ct4 : Value} (a4 : PySem.W.nsIn K mainGlobals "_law_mix" = some (some (.ref f4)))
      (l4 : K.lookup f4 = some ⟨oc4, od4, .func (PySem.W.fnOf "_law_mix" "_law_mix" (defArgs sLMix) (defBody sLMix) (defScope sLMix) .none kV4 dc4 pm4 an4 cd4 ct4), sl4⟩)
      (c4 : PySem.W.codeIn K cd4 "_law_mix" = true) (k4 : PySem.W.keepIn K (.ref f4) = true)
    {od5 an5 : Option Addr} {sl5 : Array (Option Value)} {oc5 kV5 dc5 pm5 cd5 ct5 : Value} (a5 : PySem.W.nsIn K mainGlobals "_law_labels" = some (some (.ref f5)))
      (l5 : K.lookup f5 = some ⟨oc5, od5, .func (PySem.W.fnOf "_law_labels" "_law_labels" (defArgs sLabels) (defBody sLabels) (defScope sLabels) .none kV5 dc5 pm5 an5 cd5 ct5), sl5⟩)
      (c5 : PySem.W.codeIn K cd5 "_law_labels" = true) (k5 : PySem.W.keepIn K (.ref f5) = true)
    {od6 an6 : Option Addr} {sl6 : Array (Option Value)} {oc6 kV6 dc6 pm6 cd6 ct6 : Value} (a6 : PySem.W.nsIn K mainGlobals "_law_first_labels" = some (some (.ref f6)))
      (l6 : K.lookup f6 = some ⟨oc6, od6, .func (PySem.W.fnOf "_law_first_labels" "_law_first_labels" (defArgs sLFirstLabels) (defBody sLFirstLabels) (defScope sLFirstLabels) .none kV6 dc6 pm6 an6 cd6 ct6), sl6⟩)
      (c6 : PySem.W.codeIn K cd6 "_law_first_labels" = true) (k6 : PySem.W.keepIn K (.ref f6) = true)
    {od7 an7 : Option Addr} {sl7 : Array (Option Value)} {oc7 kV7 dc7 pm7 cd7 ct7 : Value} (a7 : PySem.W.nsIn K mainGlobals "law" = some (some (.ref f7)))
      (l7 : K.lookup f7 = some ⟨oc7, od7, .func (PySem.W.fnOf "law" "law" (defArgs sLaw) (defBody sLaw) (defScope sLaw) .none kV7 dc7 pm7 an7 cd7 ct7), sl7⟩)
      (c7 : PySem.W.codeIn K cd7 "law" = true) (k7 : PySem.W.keepIn K (.ref f7) = true)
    (z_len : PySem.W.nsIn K mainGlobals "len" = some none) (z_int : PySem.W.nsIn K mainGlobals "int" = some none) (z_abs : PySem.W.nsIn K mainGlobals "abs" = some none) (z_tuple : PySem.W.nsIn K mainGlobals "tuple" = some none) (z_list : PySem.W.nsIn K mainGlobals "list" = some none) (z_repr : PySem.W.nsIn K mainGlobals "repr" = some none) (z_range : PySem.W.nsIn K mainGlobals "range" = some none) (z_sorted : PySem.W.nsIn K mainGlobals "sorted" = some none) (z_sum : PySem.W.nsIn K mainGlobals "sum" = some none) (z_all : PySem.W.nsIn K mainGlobals "all" = some none) (z_any : PySem.W.nsIn K mainGlobals "any" = some none) (z_min : PySem.W.nsIn K mainGlobals "min" = some none) (z_max : PySem.W.nsIn K mainGlobals "max" = some none) (z_set : PySem.W.nsIn K mainGlobals "set" = some none) (z_dict : PySem.W.nsIn K mainGlobals "dict" = some none) (z_zip : PySem.W.nsIn K mainGlobals "zip" = some none) (z_enumerate : PySem.W.nsIn K mainGlobals "enumerate" = some none) (z_reversed : PySem.W.nsIn K mainGlobals "reversed" = some none) (z_str : PySem.W.nsIn K mainGlobals "str" = some none) (z_type : PySem.W.nsIn K mainGlobals "type" = some none) (z_isinstance : PySem.W.nsIn K mainGlobals "isinstance" = some none) (z_bool : PySem.W.nsIn K mainGlobals "bool" = some none) (v_LETTERS : PySem.W.nsIn K mainGlobals "LETTERS" = some (some (.str letT t_LETTERS))) (v_MOST_LETTERS : PySem.W.nsIn K mainGlobals "MOST_LETTERS" = some (some (.int 8 t_MOST_LETTERS))) (o2 : PySem.W.specialIn K (.builtin "object.__class__") "__get__" = some (some (.builtin "getset_descriptor.__get__"))) (o3 : PySem.W.takesIn K (.builtin "object.__class__") = some true) :
    ∃ fd : FuncData, (∀ (s : Shared) (v : Value), BindsTo s fd ⟨[v], []⟩ [("_law_script", v)]) ∧ ∀ base : Heap, K.In base → base.Ns mainGlobals mg → Gd.FnG l.prog w K mg base (L2.CX l.prog w) 5 fa fd ["_law_script"] (spLaw K) := by
  have e := hfa.symm.trans (PySem.W.mg_of X G a7)
  cases e
  have F0 := fun_mk (st := sPLabelAfter) l0 c0 k0
  have b0 := F0.binds (ps := ["label"]) fun _ _ _ _ _ _ us hl => match us, hl with | [_], _ => rfl
  have F1 := fun_mk (st := sPLeastLabel) l1 c1 k1
  have b1 := F1.binds (ps := ["names"]) fun _ _ _ _ _ _ us hl => match us, hl with | [_], _ => rfl
  have F2 := fun_mk (st := sBag) l2 c2 k2
  have b2 := F2.binds (ps := ["_law_script"]) fun _ _ _ _ _ _ us hl => match us, hl with | [_], _ => rfl
  have F3 := fun_mk (st := sTake) l3 c3 k3
  have b3 := F3.binds (ps := ["_law_bag_here", "_law_many"]) fun _ _ _ _ _ _ us hl => match us, hl with | [_, _], _ => rfl
  have F4 := fun_mk (st := sLMix) l4 c4 k4
  have b4 := F4.binds (ps := ["_law_bag_here", "_law_some"]) fun _ _ _ _ _ _ us hl => match us, hl with | [_, _], _ => rfl
  have F5 := fun_mk (st := sLabels) l5 c5 k5
  have b5 := F5.binds (ps := ["_law_bag_here", "_law_many"]) fun _ _ _ _ _ _ us hl => match us, hl with | [_, _], _ => rfl
  have F6 := fun_mk (st := sLFirstLabels) l6 c6 k6
  have b6 := F6.binds (ps := ["_law_many"]) fun _ _ _ _ _ _ us hl => match us, hl with | [_], _ => rfl
  have F7 := fun_mk (st := sLaw) l7 c7 k7
  have B : Bi mg := ⟨PySem.W.mg_none_of X G z_len, PySem.W.mg_none_of X G z_int, PySem.W.mg_none_of X G z_abs, PySem.W.mg_none_of X G z_tuple, PySem.W.mg_none_of X G z_list, PySem.W.mg_none_of X G z_repr, PySem.W.mg_none_of X G z_range, PySem.W.mg_none_of X G z_sorted, PySem.W.mg_none_of X G z_sum, PySem.W.mg_none_of X G z_all, PySem.W.mg_none_of X G z_any, PySem.W.mg_none_of X G z_min, PySem.W.mg_none_of X G z_max, PySem.W.mg_none_of X G z_set, PySem.W.mg_none_of X G z_dict, PySem.W.mg_none_of X G z_zip, PySem.W.mg_none_of X G z_enumerate, PySem.W.mg_none_of X G z_reversed, PySem.W.mg_none_of X G z_str, PySem.W.mg_none_of X G z_type, PySem.W.mg_none_of X G z_isinstance, PySem.W.mg_none_of X G z_bool⟩
  have m_LETTERS : mg "LETTERS" = some (.str letT t_LETTERS) := PySem.W.mg_of X G v_LETTERS
  have m_MOST_LETTERS : mg "MOST_LETTERS" = some (.int 8 t_MOST_LETTERS) := PySem.W.mg_of X G v_MOST_LETTERS
  obtain ⟨Γ, hΓ⟩ : ∃ Γ : Gam, Γ = ⟨K, fun c => none, none⟩ := ⟨_, rfl⟩
  have hK : Γ.K = K := by rw [hΓ]
  refine ⟨PySem.W.fnOf "law" "law" (defArgs sLaw) (defBody sLaw) (defScope sLaw) .none kV7 dc7 pm7 an7 cd7 ct7, fun s v => .of_eq rfl, fun base _ _ => ?_⟩
  have S_label_after : Fn l.prog w K mg base Γ 1 "label_after" CAfter := ⟨_, _, _, ok_after hK F0 B m_LETTERS m_MOST_LETTERS, PySem.W.mg_of X G a0, k0, b0⟩
  have S_least_label : Fn l.prog w K mg base Γ 3 "least_label" CLeast := ⟨_, _, _, ok_least hK F1 B S_label_after (by decide), PySem.W.mg_of X G a1, k1, b1⟩
  have S__law_take : Fn l.prog w K mg base Γ 1 "_law_take" CTake := ⟨_, _, _, ok_take hK F3 B , PySem.W.mg_of X G a3, k3, b3⟩
  have S__law_mix : Fn l.prog w K mg base Γ 3 "_law_mix" (CBag AMixG RMixG) := ⟨_, _, _, ok_lmixG hK F4 B S__law_take (by decide), PySem.W.mg_of X G a4, k4, b4⟩
  have S__law_labels : Fn l.prog w K mg base Γ 3 "_law_labels" (CBag ALabels RLabels) := ⟨_, _, _, ok_labels hK F5 B S__law_take (by decide), PySem.W.mg_of X G a5, k5, b5⟩
  have S__law_first_labels : Fn l.prog w K mg base Γ 1 "_law_first_labels" CFirst := ⟨_, _, _, ok_first hK F6 B , PySem.W.mg_of X G a6, k6, b6⟩
  exact ok_law hK F7 B (ok_bag (k := 0) F2 B) (by decide) (PySem.W.mg_of X G a2) k2 b2 S__law_take (by decide) S__law_labels (by decide) S__law_mix (by decide) S__law_first_labels (by decide) S_least_label (by decide)
end Lm

open PySem PySem.W PyProof.Rows
set_option maxRecDepth 100000 in
set_option maxHeartbeats 0 in
theorem PySem.Challenge.cw_listnames_k15_least_labels_holds : PySem.Challenge.rw_listnames_k15_least_labels.Holds := by
  w_on; o_law; k_head; (case hw => w_witness2)
  k_fill
  refine Gd.walk_ofG (l := PySem.Challenge.rw_listnames_k15_least_labels) (n := 63) (k := 5) (x := "_law_script") (CX := fun w => L2.CX PySem.Challenge.rw_listnames_k15_least_labels.prog w) (sp := fun w => Lm.spLaw _) rfl (by decide) rfl ⟨rfl, by decide, by decide⟩ (fun w h Y => PySem.W.kIn_of Y) ?F (fun _ _ a ns hl _ hS => ⟨a, ns, rfl, hS, hl, fun _ => rfl⟩) (fun _ _ _ _ _ h => Lm.cx_no h)
  case F =>
    intro w mg fa h KX G hmg
    refine' Lm.all_mk KX G hmg ?a0 ?l0 ?c0 ?k0 ?a1 ?l1 ?c1 ?k1 ?a2 ?l2 ?c2 ?k2 ?a3 ?l3 ?c3 ?k3 ?a4 ?l4 ?c4 ?k4 ?a5 ?l5 ?c5 ?k5 ?a6 ?l6 ?c6 ?k6 ?a7 ?l7 ?c7 ?k7 ?z_len ?z_int ?z_abs ?z_tuple ?z_list ?z_repr ?z_range ?z_sorted ?z_sum ?z_all ?z_any ?z_min ?z_max ?z_set ?z_dict ?z_zip ?z_enumerate ?z_reversed ?z_str ?z_type ?z_isinstance ?z_bool ?v_LETTERS ?v_MOST_LETTERS ?o2 ?o3
    (case a0 => k_is)
    (case l0 => k_is)
    (case c0 => k_is)
    (case k0 => k_is)
    (case a1 => k_is)
    (case l1 => k_is)
    (case c1 => k_is)
    (case k1 => k_is)
    (case a2 => k_is)
    (case l2 => k_is)
    (case c2 => k_is)
    (case k2 => k_is)
    (case a3 => k_is)
    (case l3 => k_is)
    (case c3 => k_is)
    (case k3 => k_is)
    (case a4 => k_is)
    (case l4 => k_is)
    (case c4 => k_is)
    (case k4 => k_is)
    (case a5 => k_is)
    (case l5 => k_is)
    (case c5 => k_is)
    (case k5 => k_is)
    (case a6 => k_is)
    (case l6 => k_is)
    (case c6 => k_is)
    (case k6 => k_is)
    (case a7 => k_is)
    (case l7 => k_is)
    (case c7 => k_is)
    (case k7 => k_is)
    (case z_len => k_is)
    (case z_int => k_is)
    (case z_abs => k_is)
    (case z_tuple => k_is)
    (case z_list => k_is)
    (case z_repr => k_is)
    (case z_range => k_is)
    (case z_sorted => k_is)
    (case z_sum => k_is)
    (case z_all => k_is)
    (case z_any => k_is)
    (case z_min => k_is)
    (case z_max => k_is)
    (case z_set => k_is)
    (case z_dict => k_is)
    (case z_zip => k_is)
    (case z_enumerate => k_is)
    (case z_reversed => k_is)
    (case z_str => k_is)
    (case z_type => k_is)
    (case z_isinstance => k_is)
    (case z_bool => k_is)
    (case v_LETTERS => k_is)
    (case v_MOST_LETTERS => k_is)
    (case o2 => k_is)
    (case o3 => k_is)
