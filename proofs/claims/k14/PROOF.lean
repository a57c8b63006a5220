import PyProof.Rows.All
import Wide.All
import OpenK.AllK
import Wide.FinOn
import HandS.ForMost
import HandS.Ends
import HandS.TupAny
import HandS.TupMul
import HandS.Deep
import HandS.Flow
import HandS.IsInst
import HandS.Conv
import HandS.Walk
import HandS.More
import PySem.Challenge.RW_listnames_k14_whole_rays_and_roots
set_option Elab.async false
set_option linter.all false
set_option maxRecDepth 100000
/-! GL: contracts of defs that are called where no repr is under way (guards = some []): FnG, its calls, repr, the law's end. -/
namespace Gd
open PySem PySem.Spec PyProof.Rows L2

/-- a def's promise, wherever no guard stands around -/
structure FnG (P : Program) (w : World) (K : PySem.W.Frag) (mg : Str → Option Value) (base : Heap) (CX : CXT)
    (k : Nat) (f : Addr) (fd : FuncData) (ps : List Str) (sp : Sp) : Prop where
  lenG : ∀ vs H Q E, sp vs H Q E → vs.length = ps.length
  runG : ∀ (A : Around) (outer : List Env) (s : Shared) (H : Hp) (args : Args) (us : List Value) (vs : List V) (Q : VK) (E : XK),
    A.guards = some [] → Room k A → Env0 P w K mg base A outer s H → BindsTo s fd args (ps.zip us) → Vals vs us → sp vs H Q E →
    codeAny (model P w) A (.call (.ref f) args) (CR CX outer P w H s Q E) s

section
variable {w : World} {P : Program} {base : Heap} {mg : Str → Option Value} {K : PySem.W.Frag} {CX : CXT} {k : Nat} {f : Addr}
  {fd : FuncData} {ps : List Str} {sp : Sp}
theorem FnG.of (F : FnOk P w K mg base CX k f fd ps sp) : FnG P w K mg base CX k f fd ps sp :=
  ⟨F.len, fun A o s H a us vs Q E _ => F.run A o s H a us vs Q E⟩
theorem FnG.mono {j : Nat} (F : FnG P w K mg base CX j f fd ps sp) (h : j ≤ k) : FnG P w K mg base CX k f fd ps sp :=
  ⟨F.lenG, fun A o s H a us vs Q E g hr => F.runG A o s H a us vs Q E g (hr.mono h)⟩

/-- from a def's body to its promise -/
theorem fn_ofG {name qual : Str} {params : Arguments} {body : List Stmt} {scope : Scope} {dV kV doc pm cdv ct oc : Value}
    {an od : Option Addr} {osl : Array (Option Value)} {N : List Str}
    (lk : K.lookup f = some ⟨oc, od, .func (PySem.W.fnOf name qual params body scope dV kV doc pm an cdv ct), osl⟩)
    (hcd : PySem.W.codeIn K cdv qual = true) (S : FnScope N ps scope) (ln : ∀ vs H Q E, sp vs H Q E → vs.length = ps.length)
    (hb0 : ∀ (A : Around) (outer : List Env) (s : Shared) (H : Hp) (vs : List V) (Q : VK) (E : XK), A.guards = some [] →
      Room k (A.deeper (envOfC qual scope s.heap.objs.size f cdv)) → sp vs H Q E →
      ∃ t, PSs (cxOf CX P w K mg base N qual scope f cdv A outer s H E) body t ∧
        t { nx := fun _ H' => Q .non H', rt := Q } (start N vs) H) :
    FnG P w K mg base CX (k + 1) f (PySem.W.fnOf name qual params body scope dV kV doc pm an cdv ct) ps sp := by
  refine ⟨ln, fun A outer s H args us vs Q E gA room e0 bind rel hsp => ?_⟩
  have hlen := ln _ _ _ _ hsp
  have kin : K.In s.heap := e0.mod.kin.keeps fun b o e => (e0.bs b o e).1
  have nolim : s.heap.NoLimit := e0.mod.nolimit.keeps fun b o e => (e0.bs b o e).1
  have kinds : ∀ y ∈ ps.zip us, scope.names.lookup y.1 = some .local ∨
      (scope.names.lookup y.1 = some .cell ∧ ((cellsFrom (s.heap.objs.size + 1) scope.names []).lookup y.1).isSome = true) := by
    rintro ⟨n, v⟩ hy
    rcases S.par n (List.of_mem_zip hy).1 with q | q
    · left; exact q
    · right; exact ⟨q, PySem.W.cellsFrom_some _ _ _ (.inl q)⟩
  refine codeAny_call_function room.depth (kin _ _ lk) rfl S.co S.gen rfl (PySem.W.codeRec_of kin hcd) (bind _ _ _ _ ?_)
  refine wpAny_newFunctionEnv_cells S.kind kinds fun env he s1 x1 => ?_
  subst he
  refine ⟨nolim.keeps x1.toInCall.keep, codeAny_func ?_⟩
  obtain ⟨t, ht, hq⟩ := hb0 A outer s H vs Q E gA (room.deeper _) hsp
  have I : Inv (cxOf CX P w K mg base N qual scope f cdv A outer s H E) [] (start N vs) H s1 :=
    inv_start S room.hd e0 hlen rel x1
  refine wpAny_mono (ht.run [] s1 (start N vs) H _ I hq) (fun fl s' hs => ?_) fun e s' hs => hs
  have done : ∀ {σ' : L2.St} {H' : Hp} {v : V} {u : Value},
      Inv (cxOf CX P w K mg base N qual scope f cdv A outer s H E) [] σ' H' s' → RelV v u → Q v H' → CE outer P w H s Q u s' :=
    fun {σ' H' v u} J rv q => ⟨v, H', J.os, J.bare, J.base, J.hok, rv, q⟩
  cases fl with
  | ret u => exact let ⟨v, σ', H', J, rv, q⟩ := hs; done J rv q
  | next => exact let ⟨σ', H', J, q⟩ := hs; done (v := V.non) (u := Value.none) J rfl q
  | brk => exact let ⟨_, _, _, q⟩ := hs; False.elim q
  | cont => exact let ⟨_, _, _, q⟩ := hs; False.elim q
end

section
variable {w : World} {P : Program} {base : Heap} {mg : Str → Option Value} {K : PySem.W.Frag}
/-- a def that lets no exception out -/
theorem okG {x qual : Str} {st : Stmt} {f : Addr} {fd : FuncData} {N ps : List Str} {k : Nat} {sp : Sp} (F : Fun K x qual st f fd)
    (S : FnScope N ps (defScope st)) (ln : ∀ vs H Q E, sp vs H Q E → vs.length = ps.length)
    (hb0 : ∀ (cdv : Value) (A : Around) (outer : List Env) (s : Shared) (H : Hp) (vs : List V) (Q : VK) (E : XK), A.guards = some [] →
      Room k (A.deeper (envOfC qual (defScope st) s.heap.objs.size f cdv)) → sp vs H Q E →
      ∃ t, PSs (cxOf CX0 P w K mg base N qual (defScope st) f cdv A outer s H E).nox (defBody st) t ∧
        t { nx := fun _ H' => Q .non H', rt := Q } (start N vs) H) : FnG P w K mg base CX0 (k + 1) f fd ps sp := by
  obtain ⟨oc, od, kV, doc, pm, an, cdv, ct, osl, rfl, lk, hcd⟩ := F.ex
  refine fn_ofG lk hcd S ln fun A outer s H vs Q E gA hr hsp => ?_
  obtain ⟨t, h, q⟩ := hb0 cdv A outer s H vs Q E gA hr hsp
  exact ⟨t, h.nox, q⟩
end

section
variable {X : Cx} {CX : CXT} {k : Nat} {f : Addr} {fd : FuncData} {ps : List Str} {sp : Sp} {dvs : List V} {ds : List Value} {E : XK}
  {x : Str} {p pos : Pos} {e : Expr} {es : List Expr} {t : TA}
theorem run_fnG {pins : List (Addr × Obj)} {σ : L2.St} {H : Hp} {s : Shared} {Q : VK} {us : List Value} {vs : List V}
    (F : FnG X.prog X.w X.K X.mg X.base CX k f fd ps sp) (gX : X.A.guards = some []) (hr : Room k X.A) (hb : Binds X.K fd ps ds)
    (hd : Vals dvs ds) (hx : Passes CX X E) (I : Inv X pins σ H s) (r : Vals vs us) (h : sp (vs ++ dvs) H Q E) :
    wpAny (model X.prog X.w) X.A (call (.ref f) us) (EP X pins σ Q) X.xe s := by
  have rr : Vals (vs ++ dvs) (us ++ ds) := r.append hd
  have len : (us ++ ds).length = ps.length := rr.length ▸ F.lenG _ _ _ _ h
  have run := F.runG X.A X.stack s H ⟨us, []⟩ (us ++ ds) (vs ++ dvs) Q E gX hr I.env0 (hb s us I.kIn len) rr h
  refine wpAny_call (codeAny_mono run fun res s' hq => ?_)
  match res, hq with
  | .error e, hq => exact hx pins σ H s e s' I hq
  | .ok (.ret u), hq => exact I.after hq
  | .ok .next, hq => exact False.elim hq
  | .ok .brk, hq => exact False.elim hq
  | .ok .cont, hq => exact False.elim hq
theorem pe_callG (F : FnG X.prog X.w X.K X.mg X.base CX k f fd ps sp) (gX : X.A.guards = some []) (hr : Room k X.A) (hg : Gl X x)
    (hm : X.mg x = some (.ref f)) (hk : PySem.W.keepIn X.K (.ref f) = true) (hb : Binds X.K fd ps ds) (hd : Vals dvs ds) (hx : Passes CX X E)
    (ha : PA X (e :: es) t) (hdb : (x == ("__debug__" : Str)) = false := by decide)
    (he : starEach (e :: es) X.env = (false, eval e X.env) :: starEach es X.env := by rfl)
    (hpl : (backTo pos (starEach es X.env)).any (·.1) = false := by rfl) :
    PE X (.Call (.Name x p) (e :: es) [] pos) (tCall sp dvs E t) := by
  refine ⟨fun pins s σ H Q I h => wpAny_Call_Name_kw (ld_glob I hg hm ?_ hdb)⟩
  refine PySem.W.callWith_K (h₀ := X.base) I.ok.mod.kin hk (thn (ha.run pos pins s σ H _ I h) ?_) he hpl
  intro us s1 h1
  obtain ⟨vs, H1, I1, r1, q1⟩ := h1
  exact ⟨I1.kIn, run_fnG F gX hr hb hd hx I1 r1 q1⟩

/-- repr(x), x data -/
def rRepr (K : PySem.W.Frag) : List V → Hp → VK → Prop := fun xs H Q =>
  ∃ x d, xs = [x] ∧ Dp K H x d ∧ d.showable = true ∧ d.hasDict = false ∧ d.depth ≤ 64 ∧ d.shown.length ≤ sizeLine ∧ Q (.str d.shown) H
theorem cr_repr (gX : X.A.guards = some []) (hu : X.A.units + 66 < cLine) : CallR X (.builtin "repr") (rRepr X.K) := by
  intro pins s σ H xs us Q I r h
  obtain ⟨x, d, rfl, hd, hs, hn, hp, hz, q⟩ := h
  obtain ⟨u, rfl, ru⟩ := vals1 r
  cases hd with
  | non => cases ru; exact PySem.P.repr_of_none ⟨.str _, H, I.tok _, ⟨_, rfl⟩, q⟩
  | bl b => cases ru; exact PySem.P.repr_of_bool ⟨.str _, H, I.tok _, ⟨_, rfl⟩, q⟩
  | int i =>
    obtain ⟨t, rfl⟩ := ru
    exact PySem.P.repr_of_int (of_decide_eq_true hs) ⟨.str _, H, I.tok _, ⟨_, rfl⟩, q⟩
  | str x =>
    obtain ⟨t, rfl⟩ := ru
    exact PySem.P.repr_of_str ⟨.str _, H, I.tok _, ⟨_, rfl⟩, q⟩ hz
  | lst a b =>
    obtain ⟨as, rd⟩ := Dp.reads I _ _ _ (Dp.lst a b) ru
    cases ru
    refine repr_of_reads' rd hs (fun e => by rw [hn] at e; cases e) gX (by omega) (fun _ _ e => e) (fun h' u tk kept => ?_) hz
    exact ⟨.str _, H, I.kept (t' := tk) kept, ⟨_, rfl⟩, q⟩
  | tup a b =>
    obtain ⟨as, rd⟩ := Dp.reads I _ _ _ (Dp.tup a b) ru
    cases ru
    refine repr_of_reads' rd hs (fun e => by rw [hn] at e; cases e) gX (by omega) (fun _ _ e => e) (fun h' u tk kept => ?_) hz
    exact ⟨.str _, H, I.kept (t' := tk) kept, ⟨_, rfl⟩, q⟩
end
end Gd

/-! GE: the law's end over FnG. -/
namespace Gd
open PySem PySem.Spec PyProof.Rows L2

section
variable {P : Program} {w : World} {K : PySem.W.Frag} {mg mb : Str → Option Value} {CX : CXT} {k : Nat} {fa a : Addr} {fd : FuncData}
  {x : Str} {sp : Sp} {s1 : Shared} {vs : List Value} {ns : List Int}
/-- the call of the law over an abstract heap that tracks at most the script -/
theorem law_at (H : Hp) (KX : K.In s1.heap) (hns : s1.heap.Ns mainGlobals mg) (hb : s1.heap.Ns builtinsNs mb)
    (hbb : ∀ x : Str, x ≠ "__name__" → mb x = bootBuiltins x) (hlim : s1.heap.NoLimit) (hg : s1.gens = #[])
    (ha : s1.heap.get? a = some { cls := .type "list", data := .seq vs.toArray }) (hr : Room k callerA)
    (F : ∀ base : Heap, K.In base → base.Ns mainGlobals mg → FnG P w K mg base CX k fa fd [x] sp)
    (hbind : ∀ (s : Shared) (u : Value), BindsTo s fd ⟨[u], []⟩ [(x, u)])
    (hCX : ∀ H e s', CX [] H s1 (fun _ _ _ => False) e s' → False)
    (hO : Only H) (hsp : sp [.ref a] H (fun v _ => v = .bl true) fun _ _ _ => False) (hok : HOk P w H s1.heap)
    (only : ∀ b, H b ≠ none → b = a) (offK : H a ≠ none → K.lookup a = none) :
    codeAny (model P w) callerA (.call (.ref fa) ⟨[.ref a], []⟩)
      (fun r s' => r = .ok (.ret (.bool true)) ∧ OldK s1.heap s'.heap ∧ s'.os = s1.os ∧ AllBare s'.gens) s1 := by
  have dictFree : ∀ (b : Addr) (o : Obj) (es : Array DictEntry) (ep : Nat), s1.heap.get? b = some o → o.data = .dict es ep → H b = none := by
    intro b o es ep e dd
    cases q : H b with
    | none => rfl
    | some u =>
      have eb : b = a := only b (by rw [q]; exact fun z => nomatch z)
      rw [eb, ha] at e
      obtain rfl := Option.some.inj e
      exact nomatch dd
  have ns' : ∀ (b : Addr) (m : Str → Option Value), s1.heap.Ns b m → (hidT s1.heap H).Ns b m := by
    rintro b m ⟨o, es, ep, e, dd, rest⟩
    exact ⟨o, es, ep, hidT_get e (dictFree b o es ep e dd), dd, rest⟩
  have kin' : K.In (hidT s1.heap H) := by
    intro b o e
    refine hidT_get (KX b o e) ?_
    cases q : H b with
    | none => rfl
    | some u =>
      have eb : b = a := only b (by rw [q]; exact fun z => nomatch z)
      subst eb
      rw [offK (by rw [q]; exact fun z => nomatch z)] at e
      exact nomatch e
  have modl : Mod K mg (hidT s1.heap H) := by
    obtain ⟨mc, l1, l2⟩ := hlim
    exact ⟨kin', ns' _ _ hns, ⟨mb, ns' _ _ hb, hbb⟩, ⟨mc, ns' _ _ l1, l2⟩⟩
  have nofr : ∀ b, b ∉ frs ([] : List Env) := fun b z => List.not_mem_nil z
  have env0 : Env0 P w K mg (hidT s1.heap H) callerA [] s1 H :=
    ⟨rfl, modl, fun b o e => of_hidT e, Nat.le_of_eq (hidT_size _ _), trivial, fun b z => absurd z (nofr b), hok, .of_eq hg⟩
  have run := (F _ kin' (ns' _ _ hns)).runG callerA [] s1 H ⟨[.ref a], []⟩ [.ref a] [.ref a] _ _ rfl hr env0 (hbind s1 (.ref a)) (.cons rfl .nil) hsp
  refine codeAny_mono run fun r s' h => ?_
  match r, h with
  | .error e, h => exact (hCX H e s' h).elim
  | .ok .next, h => exact False.elim h
  | .ok .brk, h => exact False.elim h
  | .ok .cont, h => exact False.elim h
  | .ok (.ret u), h =>
    obtain ⟨v, H', os, bare, un, hok', rv, q⟩ := h
    obtain rfl : v = .bl true := q
    obtain rfl : u = Value.bool true := rv
    refine ⟨rfl, OldK.of_keep fun b o e => ?_, os, bare⟩
    rcases hO b with z | ⟨ob, xs, z⟩
    · exact un.keep b o e z (nofr b) (fun m => List.not_mem_nil m)
    · have g1 := (hok b _ z).1
      have g2 := (hok' b _ (un.frzs b ob _ z)).1
      rw [e] at g1
      rw [Option.some.inj g1]
      exact g2
/-- the script as the abstract heap bears it -/
theorem law_callG (KX : K.In s1.heap) (hns : s1.heap.Ns mainGlobals mg) (hb : s1.heap.Ns builtinsNs mb)
    (hbb : ∀ x : Str, x ≠ "__name__" → mb x = bootBuiltins x) (hlim : s1.heap.NoLimit) (hg : s1.gens = #[])
    (ha : s1.heap.get? a = some { cls := .type "list", data := .seq vs.toArray }) (hi : IntsAre vs ns) (hl : ns.length ≤ sizeLine) (hr : Room k callerA)
    (F : ∀ base : Heap, K.In base → base.Ns mainGlobals mg → FnG P w K mg base CX k fa fd [x] sp)
    (hbind : ∀ (s : Shared) (u : Value), BindsTo s fd ⟨[u], []⟩ [(x, u)])
    (hsp : ∀ H : Hp, Only H → SqL K H a (ns.map V.int) → sp [.ref a] H (fun v _ => v = .bl true) fun _ _ _ => False)
    (hCX : ∀ H e s', CX [] H s1 (fun _ _ _ => False) e s' → False) :
    codeAny (model P w) callerA (.call (.ref fa) ⟨[.ref a], []⟩)
      (fun r s' => r = .ok (.ret (.bool true)) ∧ OldK s1.heap s'.heap ∧ s'.os = s1.os ∧ AllBare s'.gens) s1 := by
  have rv : Vals (ns.map V.int) vs := vals_ints hi
  cases hk : K.lookup a with
  | some o =>
    have e := KX a o hk
    rw [ha] at e
    obtain rfl := Option.some.inj e
    have hO : Only (fun _ => none) := fun _ => .inl rfl
    have hS : SqL K (fun _ => none) a (ns.map V.int) :=
      .inr ⟨_, vs.toArray, _, hk, rfl, rfl, rfl, by rw [List.size_toArray, hi.length]; exact hl, by simpa using rv⟩
    exact law_at (fun _ => none) KX hns hb hbb hlim hg ha hr F hbind hCX hO (hsp _ hO hS) (fun b u z => nomatch z)
      (fun b z => absurd rfl z) (fun z => absurd rfl z)
  | none =>
    let T : HO := .frz { cls := .type "list", data := .seq vs.toArray } (.lst (ns.map V.int))
    let H : Hp := fun b => if b = a then some T else none
    have at_ : ∀ b, b = a → H b = some T := fun b e => if_pos e
    have off : ∀ b, ¬ b = a → H b = none := fun b e => if_neg e
    have hO : Only H := fun b => by
      by_cases e : b = a
      · exact .inr ⟨_, _, at_ b e⟩
      · exact .inl (off b e)
    have hok : HOk P w H s1.heap := fun b u z => by
      by_cases e : b = a
      · rw [at_ b e] at z
        obtain rfl := Option.some.inj z
        subst e
        exact ⟨ha, by rw [List.length_map]; exact hl, vs, _, rv, ha⟩
      · rw [off b e] at z
        exact nomatch z
    refine law_at H KX hns hb hbb hlim hg ha hr F hbind hCX hO (hsp H hO (.inl (.inr ⟨_, at_ a rfl⟩))) hok (fun b z => ?_) fun _ => hk
    by_cases e : b = a
    · exact e
    · exact absurd (off b e) z
end
/-- the goal that the head leaves, from the law's promise -/
theorem walk_ofG {l : PySem.W.OpenLaw} {n k : Nat} {q : Program} {loose : List Str} {XP : (Str → Option Value) → Heap → Prop}
    {YP : World → Heap → Prop} {d : DefRec} {K : Params → PySem.W.Frag} {CX : World → CXT} {sp : World → Sp} {x : Str}
    (hn : l.most = some n) (hn2 : n ≤ sizeLine) (hdf : d.params.defaults = []) (hr : Room k callerA)
    (hY : ∀ (w : World) (h : Heap), YP w h → (K w.params).In h)
    (F : ∀ (w : World) (mg : Str → Option Value) (fa : Addr) (h : Heap), (K w.params).In h → h.Ns mainGlobals mg → mg d.name = some (.ref fa) →
      ∃ fd : FuncData, (∀ (s : Shared) (u : Value), BindsTo s fd ⟨[u], []⟩ [(x, u)]) ∧
        ∀ base : Heap, (K w.params).In base → base.Ns mainGlobals mg → FnG l.prog w (K w.params) mg base (CX w) k fa fd [x] (sp w))
    (hsp : ∀ (w : World) (H : Hp) (a : Addr) (ns : List Int), ns.length ≤ n → Only H → SqL (K w.params) H a (ns.map V.int) →
      sp w [.ref a] H (fun v _ => v = .bl true) fun _ _ _ => False)
    (hCX : ∀ (w : World) (H : Hp) (s : Shared) (e : Value) (s' : Shared), CX w [] H s (fun _ _ _ => False) e s' → False) :
    PySem.W.WalkO q loose XP YP l.row.toRowW d [] (fun f vs => PySem.call f vs) := by
  refine Att.attach_call hn hdf ?_
  intro w s0 s1 mg mb fa o pm cd doc a vs ns G Y ho hd hcd hmg hobj hints hlen hg
  obtain ⟨fd, hb, hF⟩ := F w mg fa _ (hY w _ Y) G.T.g hmg
  refine law_callG (hY w _ Y) G.T.g G.T.b G.T.builtins G.T.nolimit hg hobj hints (Nat.le_trans hlen hn2) hr hF hb ?_ ?_
  · exact fun H hO hS => hsp w H a ns hlen hO hS
  · exact fun H e s' => hCX w H s1 e s'
end Gd

/-! Sy1: a symbolic layer over the hand layer: data, cells, worlds, the judgements. -/
namespace Sy
open PySem PySem.Spec PyProof.Rows L2

/-! ### data in an abstract heap -/
mutual
inductive DV (F : Hp) : V → PyData → Prop
  | non : DV F .non .none
  | bl (b : Bool) : DV F (.bl b) (.bool b)
  | int (i : Int) : DV F (.int i) (.int i)
  | str (x : Str) : DV F (.str x) (.str x)
  | lst {a : Addr} {vs : List V} {ds : List PyData} : F a = some (.lst vs) → DVs F vs ds → DV F (.ref a) (.list ds)
  | tup {a : Addr} {vs : List V} {ds : List PyData} : F a = some (.tup vs) → DVs F vs ds → DV F (.ref a) (.tuple ds)
  | dct0 {a : Addr} : F a = some (.dK []) → DV F (.ref a) (.dict [])
inductive DVs (F : Hp) : List V → List PyData → Prop
  | nil : DVs F [] []
  | cons {v : V} {vs : List V} {d : PyData} {ds : List PyData} : DV F v d → DVs F vs ds → DVs F (v :: vs) (d :: ds)
end
mutual
theorem DV.mono {F F' : Hp} (e : Same F F') {v : V} {d : PyData} (h : DV F v d) : DV F' v d := by
  cases h with
  | non => exact .non
  | bl b => exact .bl b
  | int i => exact .int i
  | str x => exact .str x
  | lst h1 h2 => exact .lst (e _ _ h1) (DVs.mono e h2)
  | tup h1 h2 => exact .tup (e _ _ h1) (DVs.mono e h2)
  | dct0 h1 => exact .dct0 (e _ _ h1)
theorem DVs.mono {F F' : Hp} (e : Same F F') {vs : List V} {ds : List PyData} (h : DVs F vs ds) : DVs F' vs ds := by
  cases h with
  | nil => exact .nil
  | cons h1 h2 => exact .cons (DV.mono e h1) (DVs.mono e h2)
end
theorem DVs.length {F : Hp} : ∀ {vs : List V} {ds : List PyData}, DVs F vs ds → vs.length = ds.length
  | _, _, .nil => rfl
  | _, _, .cons _ t => congrArg (· + 1) t.length
theorem DVs.get {F : Hp} : ∀ {vs : List V} {ds : List PyData} {i : Nat} {d : PyData}, DVs F vs ds → ds[i]? = some d → ∃ v, vs[i]? = some v ∧ DV F v d
  | _, _, _, _, .nil, e => by simp at e
  | _, _, 0, _, .cons h _, e => by simp at e; subst e; exact ⟨_, rfl, h⟩
  | _, _, i + 1, d, .cons _ t, e => by
    obtain ⟨v, h1, h2⟩ := DVs.get (i := i) (d := d) t (by simpa using e)
    exact ⟨v, by simpa using h1, h2⟩
theorem DVs.getV {F : Hp} : ∀ {vs : List V} {ds : List PyData} {i : Nat} {v : V}, DVs F vs ds → vs[i]? = some v → ∃ d, ds[i]? = some d ∧ DV F v d
  | _, _, _, _, .nil, e => by simp at e
  | _, _, 0, _, .cons h _, e => by simp at e; subst e; exact ⟨_, rfl, h⟩
  | _, _, i + 1, v, .cons _ t, e => by
    obtain ⟨d, h1, h2⟩ := DVs.getV (i := i) (v := v) t (by simpa using e)
    exact ⟨d, by simpa using h1, h2⟩
theorem DVs.append {F : Hp} : ∀ {vs ws : List V} {ds es : List PyData}, DVs F vs ds → DVs F ws es → DVs F (vs ++ ws) (ds ++ es)
  | _, _, _, _, .nil, h => h
  | _, _, _, _, .cons h t, h' => .cons h (t.append h')
theorem DVs.take {F : Hp} : ∀ {vs : List V} {ds : List PyData} (n : Nat), DVs F vs ds → DVs F (vs.take n) (ds.take n)
  | _, _, 0, _ => .nil
  | _, _, _ + 1, .nil => .nil
  | _, _, n + 1, .cons h t => .cons h (t.take n)
theorem DVs.drop {F : Hp} : ∀ {vs : List V} {ds : List PyData} (n : Nat), DVs F vs ds → DVs F (vs.drop n) (ds.drop n)
  | _, _, 0, h => h
  | _, _, _ + 1, .nil => .nil
  | _, _, n + 1, .cons _ t => t.drop n
theorem DVs.reverse {F : Hp} : ∀ {vs : List V} {ds : List PyData}, DVs F vs ds → DVs F vs.reverse ds.reverse
  | _, _, .nil => .nil
  | _, _, .cons h t => by
    rw [List.reverse_cons, List.reverse_cons]
    exact t.reverse.append (.cons h .nil)
theorem DVs.rep {F : Hp} {vs : List V} {ds : List PyData} (h : DVs F vs ds) : ∀ n : Nat, DVs F (List.replicate n vs).flatten (List.replicate n ds).flatten
  | 0 => .nil
  | n + 1 => by
    rw [List.replicate_succ, List.replicate_succ, List.flatten_cons, List.flatten_cons]
    exact h.append (h.rep n)
theorem DVs.set {F : Hp} {v : V} {d : PyData} (h : DV F v d) : ∀ {vs : List V} {ds : List PyData} (i : Nat), DVs F vs ds → DVs F (vs.set i v) (ds.set i d)
  | _, _, _, .nil => .nil
  | _, _, 0, .cons _ t => .cons h t
  | _, _, i + 1, .cons q t => .cons q (t.set h i)
theorem DVs.dropLast {F : Hp} {vs : List V} {ds : List PyData} (h : DVs F vs ds) : DVs F vs.dropLast ds.dropLast := by
  rw [List.dropLast_eq_take, List.dropLast_eq_take, h.length]
  exact h.take _
theorem DVs.ofInts {F : Hp} : ∀ ns : List Int, DVs F (ns.map V.int) (ns.map PyData.int)
  | [] => .nil
  | n :: ns => .cons (.int n) (DVs.ofInts ns)
theorem DVs.ofStrs {F : Hp} : ∀ ns : List Str, DVs F (ns.map V.str) (ns.map PyData.str)
  | [] => .nil
  | n :: ns => .cons (.str n) (DVs.ofStrs ns)

/-! ### symbolic values, cells, worlds -/
inductive SV where
  | dat (d : PyData)
  | cell (j : Nat)
inductive Cell where
  | lst (ds : List PyData)
  | dead
abbrev Mu := List Cell
abbrev En := List (Option SV)

def RSV (F : Hp) (as : List Addr) : SV → V → Prop
  | .dat d, v => DV F v d
  | .cell j, v => ∃ a, as[j]? = some a ∧ v = .ref a
abbrev RAll (F : Hp) (as : List Addr) : List SV → List V → Prop := Paired (RSV F as)

def CellOk (F H : Hp) (a : Addr) : Cell → Prop
  | .lst ds => F a = none ∧ ∃ vs, H a = some (.lst vs) ∧ DVs F vs ds
  | .dead => True

structure Wd (F H : Hp) (as : List Addr) (μ : Mu) : Prop where
  sub : Same F H
  nd : as.Nodup
  len : as.length = μ.length
  ok : ∀ (j : Nat) (a : Addr) (c : Cell), as[j]? = some a → μ[j]? = some c → CellOk F H a c
  seen : ∀ a ∈ as, H a ≠ none

structure Go (F H : Hp) (as : List Addr) (F' H' : Hp) (as' : List Addr) : Prop where
  keep : ∀ a o, H a = some o → a ∉ as → H' a = some o
  dom : ∀ a, H' a = none → H a = none
  sub : Same F F'
  new : ∀ a, F a = none → F' a ≠ none → H a = none ∨ a ∈ as
  pre : ∃ more, as' = as ++ more ∧ ∀ a ∈ more, H a = none

theorem Go.refl (F H : Hp) (as : List Addr) : Go F H as F H as :=
  ⟨fun _ _ h _ => h, fun _ h => h, Same.refl F, fun a h h' => absurd h h', [], (List.append_nil as).symm, fun _ h => nomatch h⟩
theorem Go.trans {F H F1 H1 F2 H2 : Hp} {as as1 as2 : List Addr} (g : Go F H as F1 H1 as1) (g' : Go F1 H1 as1 F2 H2 as2) : Go F H as F2 H2 as2 := by
  obtain ⟨m1, e1, n1⟩ := g.pre
  obtain ⟨m2, e2, n2⟩ := g'.pre
  refine ⟨fun a o h na => g'.keep a o (g.keep a o h na) ?_, fun a h => g.dom a (g'.dom a h), g.sub.trans g'.sub, fun a h h' => ?_, m1 ++ m2, by rw [e2, e1, List.append_assoc], fun a ha => ?_⟩
  · rw [e1]
    intro z
    rcases List.mem_append.mp z with z | z
    · exact na z
    · rw [n1 a z] at h; cases h
  · by_cases q : F1 a = none
    · rcases g'.new a q h' with z | z
      · exact .inl (g.dom a z)
      · rw [e1] at z
        rcases List.mem_append.mp z with z | z
        · exact .inr z
        · exact .inl (n1 a z)
    · exact g.new a h q
  · rcases List.mem_append.mp ha with z | z
    · exact n1 a z
    · exact g.dom a (n2 a z)
theorem Go.at {F H F' H' : Hp} {as as' : List Addr} (g : Go F H as F' H' as') {j : Nat} {a : Addr} (h : as[j]? = some a) : as'[j]? = some a := by
  obtain ⟨m, e, _⟩ := g.pre
  rw [e, List.getElem?_append_left (List.getElem?_eq_some_iff.mp h).1]
  exact h
theorem RSV.mono {F H F' H' : Hp} {as as' : List Addr} (g : Go F H as F' H' as') : ∀ {sv : SV} {v : V}, RSV F as sv v → RSV F' as' sv v
  | .dat _, _, h => DV.mono g.sub h
  | .cell _, _, ⟨a, h, e⟩ => ⟨a, g.at h, e⟩
theorem RAll.mono {F H F' H' : Hp} {as as' : List Addr} (g : Go F H as F' H' as') : ∀ {svs : List SV} {vs : List V}, RAll F as svs vs → RAll F' as' svs vs
  | _, _, .nil => .nil
  | _, _, .cons h t => .cons (RSV.mono g h) (RAll.mono g t)

def EnvOk (F : Hp) (as : List Addr) (env : En) (σ : L2.St) : Prop :=
  env.length = σ.length ∧ ∀ (i : Nat) (sv : SV), env[i]? = some (some sv) → ∃ v, σ[i]? = some (some v) ∧ RSV F as sv v
theorem EnvOk.mono {F H F' H' : Hp} {as as' : List Addr} (g : Go F H as F' H' as') {env : En} {σ : L2.St} (h : EnvOk F as env σ) : EnvOk F' as' env σ :=
  ⟨h.1, fun i sv e => let ⟨v, h1, h2⟩ := h.2 i sv e; ⟨v, h1, RSV.mono g h2⟩⟩
theorem EnvOk.set {F : Hp} {as : List Addr} {env : En} {σ : L2.St} (h : EnvOk F as env σ) {sv : SV} {v : V} (r : RSV F as sv v) (i : Nat) : EnvOk F as (env.set i (some sv)) (σ.set i (some v)) := by
  refine ⟨by rw [List.length_set, List.length_set, h.1], fun k sv' e => ?_⟩
  rw [List.getElem?_set] at e ⊢
  by_cases hk : i = k
  · subst hk
    rw [if_pos rfl] at e ⊢
    by_cases hl : i < env.length
    · rw [if_pos hl] at e
      rw [if_pos (h.1 ▸ hl)]
      obtain rfl := Option.some.inj (Option.some.inj e)
      exact ⟨v, rfl, r⟩
    · rw [if_neg hl] at e
      exact nomatch e
  · rw [if_neg hk] at e ⊢
    exact h.2 k sv' e
/-- forget some slots -/
theorem EnvOk.le {F : Hp} {as : List Addr} {env env' : En} {σ : L2.St} (h : EnvOk F as env σ) (hl : env'.length = env.length) (hs : ∀ (i : Nat) (sv : SV), env'[i]? = some (some sv) → env[i]? = some (some sv)) : EnvOk F as env' σ :=
  ⟨hl.trans h.1, fun i sv e => h.2 i sv (hs i sv e)⟩

/-! ### how a world goes on -/
/-- a new object, tracked as stable -/
theorem Wd.addF {F H : Hp} {as : List Addr} {μ : Mu} (W : Wd F H as μ) {p : Addr} {o : HO} (np : H p = none) :
    Wd (upd F p o) (upd H p o) as μ ∧ Go F H as (upd F p o) (upd H p o) as := by
  have nF : F p = none := by
    cases q : F p with
    | none => rfl
    | some u => rw [W.sub p u q] at np; cases np
  have sF : Same F (upd F p o) := fun b u e => by rw [upd_ne (ne_of_none e nF)]; exact e
  refine ⟨⟨fun b u e => ?_, W.nd, W.len, fun j a c ha hc => ?_, fun a ha => ?_⟩, ⟨fun a u h _ => ?_, fun a h => ?_, sF, fun a h h' => ?_, [], (List.append_nil as).symm, fun _ h => nomatch h⟩⟩
  · by_cases hb : b = p
    · subst hb; rw [upd_same] at e ⊢; exact e
    · rw [upd_ne hb] at e ⊢; exact W.sub b u e
  · have hap : a ≠ p := fun z => by
      subst z
      exact W.seen a (List.mem_of_getElem? ha) np
    have k := W.ok j a c ha hc
    cases c with
    | dead => trivial
    | lst ds =>
      obtain ⟨k1, vs, k2, k3⟩ := k
      exact ⟨by rw [upd_ne hap]; exact k1, vs, by rw [upd_ne hap]; exact k2, DVs.mono sF k3⟩
  · have hap : a ≠ p := fun z => by
      subst z
      exact W.seen a ha np
    rw [upd_ne hap]
    exact W.seen a ha
  · rw [upd_ne (ne_of_none h np)]; exact h
  · by_cases ha : a = p
    · subst ha; exact np
    · rw [upd_ne ha] at h; exact h
  · by_cases ha : a = p
    · subst ha; exact .inl np
    · rw [upd_ne ha] at h'; exact absurd h h'
/-- a new list, tracked as a cell -/
theorem Wd.addC {F H : Hp} {as : List Addr} {μ : Mu} (W : Wd F H as μ) {p : Addr} {vs : List V} {ds : List PyData} (np : H p = none) (hv : DVs F vs ds) :
    Wd F (upd H p (.lst vs)) (as ++ [p]) (μ ++ [.lst ds]) ∧ Go F H as F (upd H p (.lst vs)) (as ++ [p]) := by
  have nF : F p = none := by
    cases q : F p with
    | none => rfl
    | some u => rw [W.sub p u q] at np; cases np
  have npa : p ∉ as := fun z => W.seen p z np
  refine ⟨⟨fun b u e => ?_, ?_, by rw [List.length_append, List.length_append, W.len]; rfl, fun j a c ha hc => ?_, fun a ha => ?_⟩,
    ⟨fun a u h _ => ?_, fun a h => ?_, Same.refl F, fun a h h' => absurd h h', [p], rfl, fun a h => ?_⟩⟩
  · rw [upd_ne (ne_of_none e nF)]; exact W.sub b u e
  · rw [List.nodup_append]
    exact ⟨W.nd, by simp, fun a ha b hb => by
      obtain rfl := List.mem_singleton.mp hb
      exact fun z => npa (z ▸ ha)⟩
  · by_cases hj : j < as.length
    · rw [List.getElem?_append_left hj] at ha
      rw [List.getElem?_append_left (W.len ▸ hj)] at hc
      have hap : a ≠ p := fun z => npa (z ▸ List.mem_of_getElem? ha)
      have k := W.ok j a c ha hc
      cases c with
      | dead => trivial
      | lst es =>
        obtain ⟨k1, ws, k2, k3⟩ := k
        exact ⟨k1, ws, by rw [upd_ne hap]; exact k2, k3⟩
    · rw [List.getElem?_append_right (by omega)] at ha
      rw [List.getElem?_append_right (by have := W.len; omega)] at hc
      have e0 : j - as.length = 0 := by
        have := (List.getElem?_eq_some_iff.mp ha).1
        simp at this
        omega
      have e1 : j - μ.length = 0 := by have := W.len; omega
      rw [e0] at ha
      rw [e1] at hc
      simp at ha hc
      subst ha hc
      exact ⟨nF, vs, upd_same, hv⟩
  · rcases List.mem_append.mp ha with z | z
    · rw [upd_ne (fun (q : a = p) => npa (by rw [← q]; exact z))]; exact W.seen a z
    · obtain rfl := List.mem_singleton.mp z
      rw [upd_same]; exact fun q => nomatch q
  · rw [upd_ne (ne_of_none h np)]; exact h
  · by_cases ha : a = p
    · subst ha; exact np
    · rw [upd_ne ha] at h; exact h
  · obtain rfl := List.mem_singleton.mp h
    exact np
theorem nodup_inj {α : Type} : ∀ {l : List α} {i j : Nat} {x : α}, l.Nodup → l[i]? = some x → l[j]? = some x → i = j
  | [], i, j, x, _, h, _ => by simp at h
  | a :: l, 0, 0, x, _, _, _ => rfl
  | a :: l, 0, j + 1, x, n, h, h' => by
    simp at h h'
    subst h
    exact absurd (List.mem_of_getElem? h') (List.nodup_cons.mp n).1
  | a :: l, i + 1, 0, x, n, h, h' => by
    simp at h h'
    subst h'
    exact absurd (List.mem_of_getElem? h) (List.nodup_cons.mp n).1
  | a :: l, i + 1, j + 1, x, n, h, h' => by
    simp at h h'
    rw [nodup_inj (List.nodup_cons.mp n).2 h h']
/-- a cell's list is changed -/
theorem Wd.setC {F H : Hp} {as : List Addr} {μ : Mu} (W : Wd F H as μ) {j : Nat} {a : Addr} {vs : List V} {ds es : List PyData} (ha : as[j]? = some a) (hc : μ[j]? = some (.lst es)) (hv : DVs F vs ds) :
    Wd F (upd H a (.lst vs)) as (μ.set j (.lst ds)) ∧ Go F H as F (upd H a (.lst vs)) as := by
  have ham : a ∈ as := List.mem_of_getElem? ha
  obtain ⟨nF, _⟩ := W.ok j a _ ha hc
  refine ⟨⟨fun b u e => ?_, W.nd, by rw [List.length_set]; exact W.len, fun k b c hb hk => ?_, fun b hb => ?_⟩,
    ⟨fun b u h nb => ?_, fun b h => ?_, Same.refl F, fun b h h' => absurd h h', [], (List.append_nil as).symm, fun _ h => nomatch h⟩⟩
  · rw [upd_ne (ne_of_none e nF)]; exact W.sub b u e
  · by_cases hkj : j = k
    · subst hkj
      rw [ha] at hb
      obtain rfl := Option.some.inj hb
      rw [List.getElem?_set, if_pos rfl] at hk
      split at hk
      · obtain rfl := Option.some.inj hk
        exact ⟨nF, vs, upd_same, hv⟩
      · exact nomatch hk
    · rw [List.getElem?_set, if_neg hkj] at hk
      have hba : b ≠ a := fun z => by
        subst z
        have h1 := (List.getElem?_eq_some_iff.mp ha)
        have h2 := (List.getElem?_eq_some_iff.mp hb)
        obtain ⟨l1, q1⟩ := h1
        obtain ⟨l2, q2⟩ := h2
        exact hkj (nodup_inj W.nd ha hb)
      have kk := W.ok k b c hb hk
      cases c with
      | dead => trivial
      | lst fs =>
        obtain ⟨k1, ws, k2, k3⟩ := kk
        exact ⟨k1, ws, by rw [upd_ne hba]; exact k2, k3⟩
  · by_cases hb' : b = a
    · subst hb'; rw [upd_same]; exact fun q => nomatch q
    · rw [upd_ne hb']; exact W.seen b hb
  · rw [upd_ne (fun (z : b = a) => nb (by rw [z]; exact ham))]; exact h
  · by_cases hb' : b = a
    · subst hb'; rw [upd_same] at h; exact nomatch h
    · rw [upd_ne hb'] at h; exact h

/-! ### the judgements -/
abbrev Kont := SV → Mu → V → Hp → Hp → List Addr → Prop
/-- an expression: from env and cells to a value and cells -/
def rdE (env : En) (μ : Mu) (sv : SV) (μ' : Mu) : TE := fun σ H Q =>
  ∃ F as, EnvOk F as env σ ∧ Wd F H as μ ∧ ∀ v F' H' as', Go F H as F' H' as' → Wd F' H' as' μ' → RSV F' as' sv v → Q v H'
def rdA (env : En) (μ : Mu) (svs : List SV) (μ' : Mu) : TA := fun σ H Q =>
  ∃ F as, EnvOk F as env σ ∧ Wd F H as μ ∧ ∀ vs F' H' as', Go F H as F' H' as' → Wd F' H' as' μ' → RAll F' as' svs vs → Q vs H'
def rdT (env : En) (μ : Mu) (b : Bool) (μ' : Mu) : TT := fun σ H Q =>
  ∃ F as, EnvOk F as env σ ∧ Wd F H as μ ∧ ∀ F' H' as', Go F H as F' H' as' → Wd F' H' as' μ' → Q b H'
def SE (X : Cx) (e : Expr) (env : En) (μ : Mu) (sv : SV) (μ' : Mu) : Prop := PE X e (rdE env μ sv μ')
def SA (X : Cx) (es : List Expr) (env : En) (μ : Mu) (svs : List SV) (μ' : Mu) : Prop := PA X es (rdA env μ svs μ')
def ST (X : Cx) (e : Expr) (env : En) (μ : Mu) (b : Bool) (μ' : Mu) : Prop := PT X e (rdT env μ b μ')

inductive Out where
  | next (env : En) (μ : Mu)
  | ret (sv : SV) (μ : Mu)
  | brk (env : En) (μ : Mu)
  | cont (env : En) (μ : Mu)
def rdS (env : En) (μ : Mu) (R : Out → Prop) : TS := fun D σ H =>
  ∃ F as, EnvOk F as env σ ∧ Wd F H as μ ∧
    (∀ env' μ' σ' F' H' as', R (.next env' μ') → Go F H as F' H' as' → EnvOk F' as' env' σ' → Wd F' H' as' μ' → D.nx σ' H') ∧
    (∀ sv μ' v F' H' as', R (.ret sv μ') → Go F H as F' H' as' → Wd F' H' as' μ' → RSV F' as' sv v → D.rt v H') ∧
    (∀ env' μ' σ' F' H' as', R (.brk env' μ') → Go F H as F' H' as' → EnvOk F' as' env' σ' → Wd F' H' as' μ' → D.bk σ' H') ∧
    (∀ env' μ' σ' F' H' as', R (.cont env' μ') → Go F H as F' H' as' → EnvOk F' as' env' σ' → Wd F' H' as' μ' → D.ct σ' H')
def SS (X : Cx) (st : Stmt) (env : En) (μ : Mu) (R : Out → Prop) : Prop := PS X st (rdS env μ R)
def SSs (X : Cx) (sts : List Stmt) (env : En) (μ : Mu) (R : Out → Prop) : Prop := PSs X sts (rdS env μ R)

/-- weaken readings -/
theorem PE.imp {X : Cx} {e : Expr} {t t' : TE} (h : PE X e t) (i : ∀ σ H Q, t' σ H Q → t σ H Q) : PE X e t' :=
  ⟨fun pins s σ H Q I q => h.run pins s σ H Q I (i σ H Q q)⟩
theorem PT.imp {X : Cx} {e : Expr} {t t' : TT} (h : PT X e t) (i : ∀ σ H Q, t' σ H Q → t σ H Q) : PT X e t' :=
  ⟨fun pins s σ H Q I q => h.run pins s σ H Q I (i σ H Q q)⟩
theorem PA.imp {X : Cx} {es : List Expr} {t t' : TA} (h : PA X es t) (i : ∀ σ H Q, t' σ H Q → t σ H Q) : PA X es t' :=
  ⟨fun pos pins s σ H Q I q => h.run pos pins s σ H Q I (i σ H Q q)⟩
theorem PS.imp {X : Cx} {st : Stmt} {t t' : TS} (h : PS X st t) (i : ∀ D σ H, t' D σ H → t D σ H) : PS X st t' :=
  ⟨fun pins s σ H D I q => h.run pins s σ H D I (i D σ H q)⟩
theorem PSs.imp {X : Cx} {st : List Stmt} {t t' : TS} (h : PSs X st t) (i : ∀ D σ H, t' D σ H → t D σ H) : PSs X st t' :=
  ⟨fun pins s σ H D I q => h.run pins s σ H D I (i D σ H q)⟩
end Sy

/-! Sy2: expressions: names, constants, operators by data, arguments, tests. -/
namespace Sy
open PySem PySem.Spec PyProof.Rows L2

/-! ### data as seen now: a list may be a cell's -/
def TD (F H : Hp) (v : V) : PyData → Prop
  | .list ds => ∃ a vs, v = .ref a ∧ H a = some (.lst vs) ∧ DVs F vs ds
  | d => DV F v d
def view (μ : Mu) : SV → Option PyData
  | .dat d => some d
  | .cell j => match μ[j]? with
    | some (.lst ds) => some (.list ds)
    | _ => none
theorem TD.of {F H : Hp} (s : Same F H) {v : V} {d : PyData} (h : DV F v d) : TD F H v d := by
  cases h with
  | lst h1 h2 => exact ⟨_, _, rfl, s _ _ h1, h2⟩
  | non => exact DV.non
  | bl b => exact DV.bl b
  | int i => exact DV.int i
  | str x => exact DV.str x
  | tup h1 h2 => exact DV.tup h1 h2
  | dct0 h1 => exact DV.dct0 h1
theorem TD.dv {F H : Hp} (s : Same F H) {v : V} {d : PyData} (h : TD F H v d) : DV H v d := by
  cases d with
  | list ds => obtain ⟨a, vs, rfl, h1, h2⟩ := h; exact .lst h1 (DVs.mono s h2)
  | none => exact DV.mono s h
  | bool b => exact DV.mono s h
  | int b => exact DV.mono s h
  | str b => exact DV.mono s h
  | tuple b => exact DV.mono s h
  | dict b => exact DV.mono s h
theorem Wd.view {F H : Hp} {as : List Addr} {μ : Mu} (W : Wd F H as μ) {sv : SV} {v : V} {d : PyData} (r : RSV F as sv v) (h : Sy.view μ sv = some d) : TD F H v d := by
  cases sv with
  | dat d' =>
    obtain rfl : d' = d := Option.some.inj h
    exact TD.of W.sub r
  | cell j =>
    obtain ⟨a, ha, rfl⟩ := r
    simp only [Sy.view] at h
    cases hc : μ[j]? with
    | none => rw [hc] at h; exact nomatch h
    | some c =>
      rw [hc] at h
      cases c with
      | dead => exact nomatch h
      | lst ds =>
        obtain rfl : PyData.list ds = d := Option.some.inj h
        obtain ⟨_, vs, h1, h2⟩ := W.ok j a _ ha hc
        exact ⟨a, vs, rfl, h1, h2⟩

inductive Res where
  | val (d : PyData)
  | newL (ds : List PyData)
  | newT (ds : List PyData)
def ResK (F H : Hp) (Q : VK) : Res → Prop
  | .val d => ∀ v, DV F v d → Q v H
  | .newL ds => ∀ p vs, H p = none → DVs F vs ds → Q (.ref p) (upd H p (.lst vs))
  | .newT ds => (∀ v, DV F v (.tuple ds) → Q v H) ∧ ∀ p vs, H p = none → DVs F vs ds → Q (.ref p) (upd H p (.tup vs))
/-- what becomes of a result -/
inductive Fi : Res → Mu → SV → Mu → Prop
  | val {d : PyData} {μ : Mu} : Fi (.val d) μ (.dat d) μ
  | dat {ds : List PyData} {μ : Mu} : Fi (.newL ds) μ (.dat (.list ds)) μ
  | cell {ds : List PyData} {μ : Mu} : Fi (.newL ds) μ (.cell μ.length) (μ ++ [.lst ds])
  | tup {ds : List PyData} {μ : Mu} : Fi (.newT ds) μ (.dat (.tuple ds)) μ
theorem Fi.run {res : Res} {μ μ' : Mu} {sv : SV} (f : Fi res μ sv μ') {F H : Hp} {as : List Addr} (W : Wd F H as μ) {Q : VK}
    (k : ∀ v F' H' as', Go F H as F' H' as' → Wd F' H' as' μ' → RSV F' as' sv v → Q v H') : ResK F H Q res := by
  cases f with
  | val => exact fun v h => k v F H as (Go.refl F H as) W h
  | dat => exact fun p vs np h => k _ _ _ as (W.addF np).2 (W.addF np).1 (.lst upd_same (DVs.mono (W.addF (o := .lst vs) np).2.sub h))
  | cell => exact fun p vs np h => k _ _ _ _ (W.addC np h).2 (W.addC np h).1 ⟨p, by rw [List.getElem?_append_right (by rw [W.len]; exact Nat.le_refl _)]; simp [W.len], rfl⟩
  | tup => exact ⟨fun v h => k v F H as (Go.refl F H as) W h, fun p vs np h => k _ _ _ as (W.addF np).2 (W.addF np).1 (.tup upd_same (DVs.mono (W.addF (o := .tup vs) np).2.sub h))⟩

section
variable {X : Cx} {env : En} {μ μ1 μ2 μ3 μ' : Mu} {sv s1 s2 s3 : SV} {a b c e : Expr} {es : List Expr} {pos p0 : Pos} {x : Str}

theorem se_var (i : Nat) (h : env[i]? = some (some sv) := by rfl) (hN : X.N[i]? = some x := by rfl)
    (hv : Vis X.env.scope x := by first | exact Or.inl rfl | exact Or.inr (Or.inl rfl) | exact Or.inr (Or.inr rfl))
    (hd : (x == ("__debug__" : Str)) = false := by decide) (hcd : (x == ("__classdict__" : Str)) = false := by decide) : SE X (.Name x pos) env μ sv μ :=
  PE.imp (pe_var hN hv hd hcd) fun σ H Q ⟨F, as, he, W, k⟩ => let ⟨v, h1, h2⟩ := he.2 i sv h; ⟨v, h1, k v F H as (Go.refl F H as) W h2⟩
theorem se_c {v : V} {d : PyData} (hp : PE X e (tC v)) (hd : ∀ F, DV F v d) : SE X e env μ (.dat d) μ :=
  PE.imp hp fun σ H Q ⟨F, as, he, W, k⟩ => k v F H as (Go.refl F H as) W (hd F)
theorem se_int {i : Int} {j : Nat} : SE X (.Constant (.int i) j pos) env μ (.dat (.int i)) μ := se_c pe_int fun _ => .int i
theorem se_bool {i : Bool} {j : Nat} : SE X (.Constant (.bool i) j pos) env μ (.dat (.bool i)) μ := se_c pe_bl fun _ => .bl i
theorem se_none {j : Nat} : SE X (.Constant .none j pos) env μ (.dat .none) μ := se_c pe_non fun _ => .non
theorem se_str {i : Str} {j : Nat} : SE X (.Constant (.str i) j pos) env μ (.dat (.str i)) μ := se_c pe_str fun _ => .str i
theorem se_gstr {y : Str} {t : Tok} (hm : X.mg x = some (.str y t)) (hg : Gl X x := by rfl) (hd : (x == ("__debug__" : Str)) = false := by decide) : SE X (.Name x pos) env μ (.dat (.str y)) μ :=
  se_c (pe_glob (v := .str y) hg hm ⟨t, rfl⟩ hd) fun _ => .str y
theorem se_gint {y : Int} {t : Tok} (hm : X.mg x = some (.int y t)) (hg : Gl X x := by rfl) (hd : (x == ("__debug__" : Str)) = false := by decide) : SE X (.Name x pos) env μ (.dat (.int y)) μ :=
  se_c (pe_glob (v := .int y) hg hm ⟨t, rfl⟩ hd) fun _ => .int y

/-! ### two operands, by data -/
def OpS (r : R2) (f : PyData → PyData → Option Res) (ok : PyData → PyData → Prop) : Prop :=
  ∀ (F H : Hp) (x y : V) (d1 d2 : PyData) (res : Res) (Q : VK), Same F H → TD F H x d1 → TD F H y d2 → f d1 d2 = some res → ok d1 d2 → ResK F H Q res → r x y H Q
theorem two_run {ta tb : TE} {r : R2} {f : PyData → PyData → Option Res} {ok : PyData → PyData → Prop} {d1 d2 : PyData} {res : Res} (hs : OpS r f ok)
    (hta : ta = rdE env μ s1 μ1) (htb : tb = rdE env μ1 s2 μ2) (v1 : Sy.view μ2 s1 = some d1) (v2 : Sy.view μ2 s2 = some d2)
    (hf : f d1 d2 = some res) (hk : ok d1 d2) (fin : Fi res μ2 sv μ') : ∀ σ H Q, rdE env μ sv μ' σ H Q → tOp r ta tb σ H Q := by
  subst hta htb
  intro σ H Q ⟨F, as, he, W, k⟩
  refine ⟨F, as, he, W, fun x F1 H1 as1 g1 W1 r1 => ⟨F1, as1, he.mono g1, W1, fun y F2 H2 as2 g2 W2 r2 => ?_⟩⟩
  refine hs F2 H2 x y d1 d2 res Q W2.sub (W2.view (RSV.mono g2 r1) v1) (W2.view r2 v2) hf hk ?_
  exact fin.run W2 fun v F3 H3 as3 g3 W3 r3 => k v F3 H3 as3 ((g1.trans g2).trans g3) W3 r3
theorem se_bin {op : Operator} {r : R2} {f : PyData → PyData → Option Res} {ok : PyData → PyData → Prop} {d1 d2 : PyData} {res : Res} (ho : OpR X (binaryOp op) r) (hs : OpS r f ok)
    (ha : SE X a env μ s1 μ1) (hb : SE X b env μ1 s2 μ2) (v1 : Sy.view μ2 s1 = some d1) (v2 : Sy.view μ2 s2 = some d2)
    (hf : f d1 d2 = some res) (hk : ok d1 d2) (fin : Fi res μ2 sv μ') : SE X (.BinOp a op b pos) env μ sv μ' :=
  PE.imp (pe_op ho ha hb) (two_run hs rfl rfl v1 v2 hf hk fin)
theorem se_cmp {op : CmpOp} {r : R2} {f : PyData → PyData → Option Res} {ok : PyData → PyData → Prop} {d1 d2 : PyData} {res : Res} (ho : OpR X (compareOp op) r) (hs : OpS r f ok) (hm : behindInMarks op b = false)
    (ha : SE X a env μ s1 μ1) (hb : SE X b env μ1 s2 μ2) (v1 : Sy.view μ2 s1 = some d1) (v2 : Sy.view μ2 s2 = some d2)
    (hf : f d1 d2 = some res) (hk : ok d1 d2) (fin : Fi res μ2 sv μ') : SE X (.Compare a [op] [b] pos) env μ sv μ' :=
  PE.imp (pe_cmpR ho ha hb hm) (two_run hs rfl rfl v1 v2 hf hk fin)
theorem st_cmp {op : CmpOp} {r : R2} {f : PyData → PyData → Option Res} {ok : PyData → PyData → Prop} {d1 d2 : PyData} {q : Bool} (ho : OpR X (compareOp op) r) (hs : OpS r f ok) (hm : behindInMarks op b = false)
    (ha : SE X a env μ s1 μ1) (hb : SE X b env μ1 s2 μ2) (v1 : Sy.view μ2 s1 = some d1) (v2 : Sy.view μ2 s2 = some d2)
    (hf : f d1 d2 = some (.val (.bool q))) (hk : ok d1 d2) : ST X (.Compare a [op] [b] pos) env μ q μ2 := by
  refine PT.imp (pt_cmpR ho ha hb hm) fun σ H Q ⟨F, as, he, W, k⟩ => ?_
  refine two_run hs rfl rfl v1 v2 hf hk (Fi.val (d := .bool q) (μ := μ2)) σ H _ ⟨F, as, he, W, fun v F' H' as' g W' r => ?_⟩
  cases r
  exact ⟨q, rfl, k F' H' as' g W'⟩
theorem se_ix {r : R2} {f : PyData → PyData → Option Res} {ok : PyData → PyData → Prop} {d1 d2 : PyData} {res : Res} (ho : IxR X r) (hs : OpS r f ok) (hp : PlainIx b)
    (ha : SE X a env μ s1 μ1) (hb : SE X b env μ1 s2 μ2) (v1 : Sy.view μ2 s1 = some d1) (v2 : Sy.view μ2 s2 = some d2)
    (hf : f d1 d2 = some res) (hk : ok d1 d2) (fin : Fi res μ2 sv μ') : SE X (.Subscript a b pos) env μ sv μ' :=
  PE.imp (pe_ix ho ha hb hp) (two_run hs rfl rfl v1 v2 hf hk fin)
def UnS (r : V → Hp → VK → Prop) (f : PyData → Option Res) (ok : PyData → Prop) : Prop :=
  ∀ (F H : Hp) (x : V) (d1 : PyData) (res : Res) (Q : VK), Same F H → TD F H x d1 → f d1 = some res → ok d1 → ResK F H Q res → r x H Q
theorem se_un {op : UnaryOp} {r : V → Hp → VK → Prop} {f : PyData → Option Res} {ok : PyData → Prop} {d1 : PyData} {res : Res} (ho : UnR X (unaryOp op) r) (hs : UnS r f ok)
    (ha : SE X a env μ s1 μ1) (v1 : Sy.view μ1 s1 = some d1) (hf : f d1 = some res) (hk : ok d1) (fin : Fi res μ1 sv μ') : SE X (.UnaryOp op a pos) env μ sv μ' := by
  refine PE.imp (pe_un ho ha) fun σ H Q ⟨F, as, he, W, k⟩ => ⟨F, as, he, W, fun x F1 H1 as1 g1 W1 r1 => ?_⟩
  refine hs F1 H1 x d1 res Q W1.sub (W1.view r1 v1) hf hk ?_
  exact fin.run W1 fun v F3 H3 as3 g3 W3 r3 => k v F3 H3 as3 (g1.trans g3) W3 r3

/-! ### arguments, calls of built-ins by data -/
theorem sa_nil : SA X [] env μ [] μ := PA.imp pa_nil fun σ H Q ⟨F, as, he, W, k⟩ => k [] F H as (Go.refl F H as) W .nil
theorem sa_cons {svs : List SV} (he : SE X e env μ sv μ1) (ht : SA X es env μ1 svs μ2) (hs : starEach (e :: es) X.env = (false, eval e X.env) :: starEach es X.env := by rfl) : SA X (e :: es) env μ (sv :: svs) μ2 := by
  refine PA.imp (pa_cons he ht hs) fun σ H Q ⟨F, as, hE, W, k⟩ => ?_
  refine ⟨F, as, hE, W, fun x F1 H1 as1 g1 W1 r1 => ⟨F1, as1, hE.mono g1, W1, fun xs F2 H2 as2 g2 W2 r2 => ?_⟩⟩
  exact k _ F2 H2 as2 (g1.trans g2) W2 (.cons (RSV.mono g2 r1) r2)
def viewAll (μ : Mu) : List SV → Option (List PyData)
  | [] => some []
  | s :: r => (Sy.view μ s).bind fun d => (viewAll μ r).bind fun ds => some (d :: ds)
abbrev TDs (F H : Hp) : List V → List PyData → Prop := Paired (TD F H)
theorem Wd.views {F H : Hp} {as : List Addr} {μ : Mu} (W : Wd F H as μ) : ∀ {svs : List SV} {vs : List V} {ds : List PyData}, RAll F as svs vs → viewAll μ svs = some ds → TDs F H vs ds
  | [], _, _, .nil, h => by
    obtain rfl := Option.some.inj h
    exact .nil
  | s :: r, _, _, .cons h1 h2, h => by
    unfold viewAll at h
    cases e1 : Sy.view μ s with
    | none => rw [e1] at h; exact nomatch h
    | some d =>
      cases e2 : viewAll μ r with
      | none => rw [e1, e2] at h; exact nomatch h
      | some ds =>
        rw [e1, e2] at h
        obtain rfl := Option.some.inj h
        exact .cons (W.view h1 e1) (W.views h2 e2)
def CaS (r : List V → Hp → VK → Prop) (f : List PyData → Option Res) (ok : List PyData → Prop) : Prop :=
  ∀ (F H : Hp) (xs : List V) (ds : List PyData) (res : Res) (Q : VK), Same F H → TDs F H xs ds → f ds = some res → ok ds → ResK F H Q res → r xs H Q
theorem call_run {t : TA} {r : List V → Hp → VK → Prop} {f : List PyData → Option Res} {ok : List PyData → Prop} {ds : List PyData} {res : Res} {svs : List SV} (hs : CaS r f ok) (ht : t = rdA env μ svs μ1)
    (v1 : viewAll μ1 svs = some ds) (hf : f ds = some res) (hk : ok ds) (fin : Fi res μ1 sv μ') : ∀ σ H Q, rdE env μ sv μ' σ H Q → tCB r t σ H Q := by
  subst ht
  intro σ H Q ⟨F, as, he, W, k⟩
  refine ⟨F, as, he, W, fun xs F1 H1 as1 g1 W1 r1 => ?_⟩
  refine hs F1 H1 xs ds res Q W1.sub (W1.views r1 v1) hf hk ?_
  exact fin.run W1 fun v F3 H3 as3 g3 W3 r3 => k v F3 H3 as3 (g1.trans g3) W3 r3
theorem se_callB {id : String} {r : List V → Hp → VK → Prop} {f : List PyData → Option Res} {ok : List PyData → Prop} {ds : List PyData} {res : Res} {svs : List SV} (hc : CallR X (.builtin id) r) (hs : CaS r f ok)
    (hm : X.mg x = none) (hv : bootBuiltins x = some (.builtin id)) (ha : SA X (e :: es) env μ svs μ1) (v1 : viewAll μ1 svs = some ds) (hf : f ds = some res) (hk : ok ds) (fin : Fi res μ1 sv μ')
    (hg : Gl X x := by rfl) (hn : x ≠ "__name__" := by decide) (hdb : (x == ("__debug__" : Str)) = false := by decide)
    (he : starEach (e :: es) X.env = (false, eval e X.env) :: starEach es X.env := by rfl) (hpl : (backTo pos (starEach es X.env)).any (·.1) = false := by rfl) : SE X (.Call (.Name x p0) (e :: es) [] pos) env μ sv μ' :=
  PE.imp (pe_callB hc hg hm hv ha hn hdb he hpl) (call_run hs rfl v1 hf hk fin)
theorem se_callTy {T : String} {r : List V → Hp → VK → Prop} {f : List PyData → Option Res} {ok : List PyData → Prop} {ds : List PyData} {res : Res} {svs : List SV} (hc : CallR X (.type T) r) (hs : CaS r f ok)
    (hm : X.mg x = none) (hv : bootBuiltins x = some (.type T)) (ha : SA X (e :: es) env μ svs μ1) (v1 : viewAll μ1 svs = some ds) (hf : f ds = some res) (hk : ok ds) (fin : Fi res μ1 sv μ')
    (hg : Gl X x := by rfl) (hn : x ≠ "__name__" := by decide) (hdb : (x == ("__debug__" : Str)) = false := by decide)
    (he : starEach (e :: es) X.env = (false, eval e X.env) :: starEach es X.env := by rfl) (hpl : (backTo pos (starEach es X.env)).any (·.1) = false := by rfl) : SE X (.Call (.Name x p0) (e :: es) [] pos) env μ sv μ' :=
  PE.imp (pe_callTy hc hg hm hv ha hn hdb he hpl) (call_run hs rfl v1 hf hk fin)

/-! ### displays -/
theorem RAll.dvs {F H : Hp} {as : List Addr} : ∀ {ds : List PyData} {vs : List V}, RAll F as (ds.map SV.dat) vs → DVs F vs ds
  | [], _, .nil => .nil
  | _ :: _, _, .cons h t => .cons h (RAll.dvs (H := H) t)
def datsOf : List SV → Option (List PyData)
  | [] => some []
  | .dat d :: r => match datsOf r with
    | some ds => some (d :: ds)
    | none => none
  | .cell _ :: _ => none
theorem datsOf_eq : ∀ {svs : List SV} {ds : List PyData}, datsOf svs = some ds → svs = ds.map SV.dat
  | [], ds, h => by obtain rfl := Option.some.inj h; rfl
  | .dat d :: r, ds, h => by
    cases e : datsOf r with
    | none => simp only [datsOf, e] at h; exact nomatch h
    | some es =>
      simp only [datsOf, e] at h
      obtain rfl : d :: es = ds := Option.some.inj h
      rw [datsOf_eq e]
      rfl
  | .cell _ :: _, ds, h => nomatch h
theorem se_list {ds : List PyData} {svs : List SV} (ha : SA X es env μ svs μ1) (hd : svs = ds.map SV.dat) (hz : ds.length ≤ sizeLine) (fin : Fi (.newL ds) μ1 sv μ') : SE X (.List es pos) env μ sv μ' := by
  subst hd
  refine PE.imp (pe_lst ha) fun σ H Q ⟨F, as, he, W, k⟩ => ⟨F, as, he, W, fun xs F1 H1 as1 g1 W1 r1 => ?_⟩
  have dv := RAll.dvs (H := H1) r1
  exact ⟨by rw [dv.length]; exact hz, fun p np => fin.run W1 (fun v F3 H3 as3 g3 W3 r3 => k v F3 H3 as3 (g1.trans g3) W3 r3) p xs np dv⟩
theorem se_tuple {ds : List PyData} {svs : List SV} {j : Nat} (ha : SA X es env μ svs μ1) (hd : svs = ds.map SV.dat) (hz : ds.length ≤ sizeLine) : SE X (.Tuple es j pos) env μ (.dat (.tuple ds)) μ1 := by
  subst hd
  refine PE.imp (pe_tup ha) fun σ H Q ⟨F, as, he, W, k⟩ => ⟨F, as, he, W, fun xs F1 H1 as1 g1 W1 r1 => ?_⟩
  have dv := RAll.dvs (H := H1) r1
  exact ⟨by rw [dv.length]; exact hz, fun p np => (Fi.tup.run W1 fun v F3 H3 as3 g3 W3 r3 => k v F3 H3 as3 (g1.trans g3) W3 r3).2 p xs np dv⟩

/-! ### tests and boolean values -/
def SW (X : Cx) (e : Expr) (env : En) (μ : Mu) (b : Bool) (μ' : Mu) : Prop := PW X e (rdT env μ b μ')
theorem SW.st {q : Bool} (h : SW X e env μ q μ') : ST X e env μ q μ' := PW.pt h
theorem pt_when {P : Prop} {t : TT} (h : P → PT X e t) : PT X e (fun σ H Q => P ∧ t σ H Q) := ⟨fun pins s σ H Q I q => (h q.1).run pins s σ H Q I q.2⟩
theorem pw_when {P : Prop} {t : TT} (h : P → PW X e t) : PW X e (fun σ H Q => P ∧ t σ H Q) := ⟨fun wh pins s σ H Q I q => (h q.1).run wh pins s σ H Q I q.2⟩
theorem pe_when {P : Prop} {t : TE} (h : P → PE X e t) : PE X e (fun σ H Q => P ∧ t σ H Q) := ⟨fun pins s σ H Q I q => (h q.1).run pins s σ H Q I q.2⟩
theorem pw_imp {t t' : TT} (h : PW X e t) (i : ∀ σ H Q, t' σ H Q → t σ H Q) : PW X e t' := ⟨fun wh pins s σ H Q I q => h.run wh pins s σ H Q I (i σ H Q q)⟩
theorem sw_and1 {q : Bool} (h : ST X a env μ q μ') : SW X (.BoolOp .And [a] pos) env μ q μ' := pw_and1 h
theorem sw_or1 {q : Bool} (h : ST X a env μ q μ') : SW X (.BoolOp .Or [a] pos) env μ q μ' := pw_or1 h
theorem sw_and {q1 q2 : Bool} (ha : ST X a env μ q1 μ1) (hb : q1 = true → SW X (.BoolOp .And (b :: es) pos) env μ1 q2 μ2) (hm : (if q1 = true then μ2 else μ1) = μ' := by exact ite_self _) :
    SW X (.BoolOp .And (a :: b :: es) pos) env μ (q1 && q2) μ' := by
  refine pw_imp (pw_and ha (pw_when hb)) fun σ H Q ⟨F, as, he, W, k⟩ => ⟨F, as, he, W, fun F1 H1 as1 g1 W1 => ?_⟩
  cases q1 with
  | true =>
    subst hm
    exact ⟨rfl, F1, as1, he.mono g1, W1, fun F2 H2 as2 g2 W2 => k F2 H2 as2 (g1.trans g2) W2⟩
  | false => subst hm; exact k F1 H1 as1 g1 W1
theorem sw_or {q1 q2 : Bool} (ha : ST X a env μ q1 μ1) (hb : q1 = false → SW X (.BoolOp .Or (b :: es) pos) env μ1 q2 μ2) (hm : (if q1 = true then μ1 else μ2) = μ' := by exact ite_self _) :
    SW X (.BoolOp .Or (a :: b :: es) pos) env μ (q1 || q2) μ' := by
  refine pw_imp (pw_or ha (pw_when hb)) fun σ H Q ⟨F, as, he, W, k⟩ => ⟨F, as, he, W, fun F1 H1 as1 g1 W1 => ?_⟩
  cases q1 with
  | false =>
    subst hm
    exact ⟨rfl, F1, as1, he.mono g1, W1, fun F2 H2 as2 g2 W2 => k F2 H2 as2 (g1.trans g2) W2⟩
  | true => subst hm; exact k F1 H1 as1 g1 W1
theorem st_not {q : Bool} (h : ST X a env μ q μ') : ST X (.UnaryOp .Not a pos) env μ (!q) μ' :=
  PT.imp (pt_not h) fun σ H Q ⟨F, as, he, W, k⟩ => ⟨F, as, he, W, fun F1 H1 as1 g1 W1 => k F1 H1 as1 g1 W1⟩
theorem st_val {q : Bool} (h : SE X e env μ (.dat (.bool q)) μ') (hp : ∀ whole, isTrue e X.env whole = (do let v ← whole; standAt e.pos; holding [v] (truthy v)) := by intro _; rfl) : ST X e env μ q μ' :=
  PT.imp (pt_val h hp) fun σ H Q ⟨F, as, he, W, k⟩ => ⟨F, as, he, W, fun v F1 H1 as1 g1 W1 r1 => by
    cases r1
    exact ⟨q, rfl, k F1 H1 as1 g1 W1⟩⟩
theorem se_and1 {q : SV} {op : BoolOp} (h : SE X a env μ q μ') : SE X (.BoolOp op [a] pos) env μ q μ' := pe_one h
theorem se_and {q1 q2 : Bool} (ha : SE X a env μ (.dat (.bool q1)) μ1) (hb : q1 = true → SE X (.BoolOp .And (b :: es) pos) env μ1 (.dat (.bool q2)) μ2) (hm : (if q1 = true then μ2 else μ1) = μ' := by exact ite_self _) :
    SE X (.BoolOp .And (a :: b :: es) pos) env μ (.dat (.bool (q1 && q2))) μ' := by
  refine PE.imp (pe_and ha (pe_when hb)) fun σ H Q ⟨F, as, he, W, k⟩ => ⟨F, as, he, W, fun v F1 H1 as1 g1 W1 r1 => ?_⟩
  cases r1
  refine ⟨q1, rfl, ?_⟩
  cases q1 with
  | true =>
    subst hm
    exact ⟨rfl, F1, as1, he.mono g1, W1, fun v F2 H2 as2 g2 W2 r2 => k v F2 H2 as2 (g1.trans g2) W2 r2⟩
  | false => subst hm; exact k _ F1 H1 as1 g1 W1 (.bl false)
theorem se_or {q1 q2 : Bool} (ha : SE X a env μ (.dat (.bool q1)) μ1) (hb : q1 = false → SE X (.BoolOp .Or (b :: es) pos) env μ1 (.dat (.bool q2)) μ2) (hm : (if q1 = true then μ1 else μ2) = μ' := by exact ite_self _) :
    SE X (.BoolOp .Or (a :: b :: es) pos) env μ (.dat (.bool (q1 || q2))) μ' := by
  refine PE.imp (pe_or ha (pe_when hb)) fun σ H Q ⟨F, as, he, W, k⟩ => ⟨F, as, he, W, fun v F1 H1 as1 g1 W1 r1 => ?_⟩
  cases r1
  refine ⟨q1, rfl, ?_⟩
  cases q1 with
  | false =>
    subst hm
    exact ⟨rfl, F1, as1, he.mono g1, W1, fun v F2 H2 as2 g2 W2 r2 => k v F2 H2 as2 (g1.trans g2) W2 r2⟩
  | true => subst hm; exact k _ F1 H1 as1 g1 W1 (.bl true)
theorem se_notB {q : Bool} (h : SE X a env μ (.dat (.bool q)) μ') : SE X (.UnaryOp .Not a pos) env μ (.dat (.bool (!q))) μ' :=
  PE.imp (pe_not h) fun σ H Q ⟨F, as, he, W, k⟩ => ⟨F, as, he, W, fun v F1 H1 as1 g1 W1 r1 => by
    cases r1
    exact ⟨q, rfl, k _ F1 H1 as1 g1 W1 (.bl _)⟩⟩
/-- a if c else b -/
theorem se_if {q : Bool} (hc : ST X c env μ q μ1) (ha : q = true → SE X a env μ1 sv μ') (hb : q = false → SE X b env μ1 sv μ') : SE X (.IfExp c a b pos) env μ sv μ' := by
  refine PE.imp (pe_ifExp hc (pe_when ha) (pe_when hb)) fun σ H Q ⟨F, as, he, W, k⟩ => ⟨F, as, he, W, fun F1 H1 as1 g1 W1 => ?_⟩
  cases q with
  | true => exact ⟨rfl, F1, as1, he.mono g1, W1, fun v F2 H2 as2 g2 W2 r2 => k v F2 H2 as2 (g1.trans g2) W2 r2⟩
  | false => exact ⟨rfl, F1, as1, he.mono g1, W1, fun v F2 H2 as2 g2 W2 r2 => k v F2 H2 as2 (g1.trans g2) W2 r2⟩
end
end Sy

/-! Sy3: the operators on data. -/
namespace Sy
open PySem PySem.Spec PyProof.Rows L2

mutual
theorem DV.dp (K : PySem.W.Frag) {H : Hp} {v : V} {d : PyData} (h : DV H v d) (c : d.canLay0 = true) : Dp K H v d := by
  cases h with
  | non => exact .non
  | bl b => exact .bl b
  | int i => exact .int i
  | str x => exact .str x
  | lst h1 h2 => exact .lst (.inl (.inl h1)) (DVs.dp K h2 (by simpa [PyData.canLay0] using c))
  | tup h1 h2 => exact .tup (.inl (.inl h1)) (DVs.dp K h2 (by simpa [PyData.canLay0] using c))
  | dct0 h1 => simp [PyData.canLay0] at c
theorem DVs.dp (K : PySem.W.Frag) {H : Hp} {vs : List V} {ds : List PyData} (h : DVs H vs ds) (c : PyData.canLayAll0 ds = true) : DpAll K H vs ds := by
  cases h with
  | nil => exact .nil
  | cons h1 h2 =>
    simp only [PyData.canLayAll0, Bool.and_eq_true] at c
    exact .cons (DV.dp K h1 c.1) (DVs.dp K h2 c.2)
end
mutual
theorem DV.dpn (K : PySem.W.Frag) {H : Hp} {v : V} {d : PyData} (h : DV H v d) (c : d.hasDict = false) : Dp K H v d := by
  cases h with
  | non => exact .non
  | bl b => exact .bl b
  | int i => exact .int i
  | str x => exact .str x
  | lst h1 h2 => exact .lst (.inl (.inl h1)) (DVs.dpn K h2 (by simpa [PyData.hasDict] using c))
  | tup h1 h2 => exact .tup (.inl (.inl h1)) (DVs.dpn K h2 (by simpa [PyData.hasDict] using c))
  | dct0 h1 => simp [PyData.hasDict] at c
theorem DVs.dpn (K : PySem.W.Frag) {H : Hp} {vs : List V} {ds : List PyData} (h : DVs H vs ds) (c : PyData.hasDictAll ds = false) : DpAll K H vs ds := by
  cases h with
  | nil => exact .nil
  | cons h1 h2 =>
    simp only [PyData.hasDictAll, Bool.or_eq_false_iff] at c
    exact .cons (DV.dpn K h1 c.1) (DVs.dpn K h2 c.2)
end

section
variable {X : Cx}
/-! ### + -/
def addD : PyData → PyData → Option Res
  | .int a, .int b => some (.val (.int (a + b)))
  | .str a, .str b => some (.val (.str (a ++ b)))
  | .list a, .list b => some (.newL (a ++ b))
  | .tuple a, .tuple b => some (.newT (a ++ b))
  | _, _ => none
@[reducible] def addOk : PyData → PyData → Prop
  | .str a, .str b => a.length + b.length ≤ sizeLine
  | .list a, .list b => a.length + b.length ≤ sizeLine
  | .tuple a, .tuple b => a.length + b.length ≤ sizeLine
  | _, _ => True
def rStrCat : R2 := fun x y H Q => ∃ i j, x = .str i ∧ y = .str j ∧ i.length + j.length ≤ sizeLine ∧ Q (.str (i ++ j)) H
def rAddA (K : PySem.W.Frag) : R2 := fun x y H Q => (rI0 (fun i j => .int (i + j)) x y H Q ∨ rStrCat x y H Q) ∨ rCat x y H Q ∨ rCatA K x y H Q
theorem op_addA : OpR X (binaryOp .Add) (rAddA X.K) := (op_add.or op_add_str).or (op_cat.or op_catA)
theorem os_add {K : PySem.W.Frag} : OpS (rAddA K) addD addOk := by
  intro F H x y d1 d2 res Q s h1 h2 hf hk k
  cases d1 <;> cases d2 <;> simp only [addD, reduceCtorEq, Option.some.injEq] at hf <;> subst hf
  · cases h1; cases h2
    exact .inl (.inl ⟨_, _, rfl, rfl, k _ (.int _)⟩)
  · cases h1; cases h2
    exact .inl (.inr ⟨_, _, rfl, rfl, hk, k _ (.str _)⟩)
  · obtain ⟨a, vs, rfl, e1, q1⟩ := h1
    obtain ⟨b, ws, rfl, e2, q2⟩ := h2
    exact .inr (.inl ⟨a, b, vs, ws, rfl, rfl, e1, e2, by rw [q1.length, q2.length]; exact hk, fun p np => k p _ np (q1.append q2)⟩)
  · cases h1 with
    | tup e1 q1 =>
      cases h2 with
      | tup e2 q2 =>
        refine .inr (.inr ⟨_, _, _, _, rfl, rfl, .inl (.inl (s _ _ e1)), .inl (.inl (s _ _ e2)), by rw [q1.length, q2.length]; exact hk, fun z => ?_, fun _ z => ?_, fun _ _ p np => k.2 p _ np (q1.append q2)⟩)
        · subst z
          cases q1
          exact k.1 _ (.tup e2 q2)
        · subst z
          cases q2
          rw [List.append_nil] at k
          exact k.1 _ (.tup e1 q1)
/-! ### -, //, %, ** -/
def subD : PyData → PyData → Option Res
  | .int a, .int b => some (.val (.int (a - b)))
  | _, _ => none
@[reducible] def noOk : PyData → PyData → Prop := fun _ _ => True
theorem os_sub : OpS (rI0 fun i j => .int (i - j)) subD noOk := by
  intro F H x y d1 d2 res Q s h1 h2 hf hk k
  cases d1 <;> cases d2 <;> simp only [subD, reduceCtorEq, Option.some.injEq] at hf <;> subst hf
  cases h1; cases h2
  exact ⟨_, _, rfl, rfl, k _ (.int _)⟩
def fdivD : PyData → PyData → Option Res
  | .int a, .int b => some (.val (.int (a / b)))
  | _, _ => none
@[reducible] def fdivOk : PyData → PyData → Prop
  | .int _, .int b => 0 < b ∧ b < 1073741824
  | _, _ => True
theorem os_fdiv : OpS (rI CDiv fun i j => .int (i / j)) fdivD fdivOk := by
  intro F H x y d1 d2 res Q s h1 h2 hf hk k
  cases d1 <;> cases d2 <;> simp only [fdivD, reduceCtorEq, Option.some.injEq] at hf <;> subst hf
  cases h1; cases h2
  exact ⟨_, _, rfl, rfl, hk, k _ (.int _)⟩
def modD : PyData → PyData → Option Res
  | .int a, .int b => some (.val (.int (a % b)))
  | _, _ => none
@[reducible] def modOk : PyData → PyData → Prop
  | .int _, .int b => 0 < b
  | _, _ => True
theorem os_mod : OpS (rI (fun _ j => 0 < j) fun i j => .int (i % j)) modD modOk := by
  intro F H x y d1 d2 res Q s h1 h2 hf hk k
  cases d1 <;> cases d2 <;> simp only [modD, reduceCtorEq, Option.some.injEq] at hf <;> subst hf
  cases h1; cases h2
  exact ⟨_, _, rfl, rfl, hk, k _ (.int _)⟩
def powD : PyData → PyData → Option Res
  | .int a, .int b => some (.val (.int (a ^ b.toNat)))
  | _, _ => none
@[reducible] def powOk : PyData → PyData → Prop
  | .int a, .int b => 0 ≤ b ∧ b ≤ 1000000 ∧ a.natAbs < 2 ^ 64
  | _, _ => True
theorem os_pow : OpS (rI CPow fun i j => .int (i ^ j.toNat)) powD powOk := by
  intro F H x y d1 d2 res Q s h1 h2 hf hk k
  cases d1 <;> cases d2 <;> simp only [powD, reduceCtorEq, Option.some.injEq] at hf <;> subst hf
  cases h1; cases h2
  exact ⟨_, _, rfl, rfl, hk, k _ (.int _)⟩
/-! ### * -/
def rMulS : R2 := fun x y H Q => ∃ a n, x = .str a ∧ y = .int n ∧ PySem.MulOk a n ∧ Q (.str (PySem.Txt.mul a n)) H
theorem op_mulS : OpR X (binaryOp .Mult) rMulS := by
  intro pins s σ H x y v u Q I rx ry h
  obtain ⟨a, n, rfl, rfl, hok, q⟩ := h
  obtain ⟨t, rfl⟩ := rx
  obtain ⟨t', rfl⟩ := ry
  exact PySem.SB.mul hok fun t2 k => ⟨.str _, H, I.tok _, ⟨t2, rfl⟩, q⟩
def mulD : PyData → PyData → Option Res
  | .int a, .int b => some (.val (.int (a * b)))
  | .str a, .int n => some (.val (.str (PySem.Txt.mul a n)))
  | .list a, .int n => some (.newL (List.replicate n.toNat a).flatten)
  | _, _ => none
@[reducible] def mulOk : PyData → PyData → Prop
  | .int a, .int b => CMul a b
  | .str a, .int n => PySem.MulOk a n
  | .list a, .int n => -(2 ^ 63) ≤ n ∧ n < 2 ^ 63 ∧ a.length * n.toNat ≤ sizeLine
  | _, _ => True
def rMulA : R2 := fun x y H Q => rI CMul (fun i j => .int (i * j)) x y H Q ∨ rMulS x y H Q ∨ rRep x y H Q
theorem op_mulA : OpR X (binaryOp .Mult) rMulA := op_mul.or (op_mulS.or op_rep)
theorem os_mul : OpS rMulA mulD mulOk := by
  intro F H x y d1 d2 res Q s h1 h2 hf hk k
  cases d1 <;> cases d2 <;> simp only [mulD, reduceCtorEq, Option.some.injEq] at hf <;> subst hf
  · cases h1; cases h2
    exact .inl ⟨_, _, rfl, rfl, hk, k _ (.int _)⟩
  · cases h1; cases h2
    exact .inr (.inl ⟨_, _, rfl, rfl, hk, k _ (.str _)⟩)
  · obtain ⟨a, vs, rfl, e1, q1⟩ := h1
    cases h2
    obtain ⟨z1, z2, z3⟩ := hk
    exact .inr (.inr ⟨a, _, vs, rfl, rfl, e1, z1, z2, by rw [q1.length]; exact z3, fun p np => k p _ np (q1.rep _)⟩)

/-! ### comparisons -/
def eqD (d e : PyData) : Option Res := some (.val (.bool (PyData.eqv d e)))
def neD (d e : PyData) : Option Res := some (.val (.bool (!PyData.eqv d e)))
@[reducible] def eqOk (d e : PyData) : Prop := SeqAt.shaped d = true ∧ SeqAt.shaped e = true
theorem lay_of {d : PyData} (h : SeqAt.shaped d = true) : d.canLay0 = true := by
  unfold SeqAt.shaped at h
  simp only [Bool.and_eq_true] at h
  exact h.1
theorem os_eq {K : PySem.W.Frag} : OpS (rEqD K) eqD eqOk := by
  intro F H x y d1 d2 res Q s h1 h2 hf hk k
  obtain rfl := Option.some.inj hf
  exact ⟨d1, d2, (h1.dv s).dp K (lay_of hk.1), (h2.dv s).dp K (lay_of hk.2), hk.1, hk.2, k _ (.bl _)⟩
theorem os_ne {K : PySem.W.Frag} : OpS (rNeD K) neD eqOk := by
  intro F H x y d1 d2 res Q s h1 h2 hf hk k
  obtain rfl := Option.some.inj hf
  exact ⟨d1, d2, (h1.dv s).dp K (lay_of hk.1), (h2.dv s).dp K (lay_of hk.2), hk.1, hk.2, k _ (.bl _)⟩
def ltD : PyData → PyData → Option Res
  | .int a, .int b => some (.val (.bool (decide (a < b))))
  | _, _ => none
def leD : PyData → PyData → Option Res
  | .int a, .int b => some (.val (.bool (decide (a ≤ b))))
  | _, _ => none
def gtD : PyData → PyData → Option Res
  | .int a, .int b => some (.val (.bool (decide (b < a))))
  | _, _ => none
def geD : PyData → PyData → Option Res
  | .int a, .int b => some (.val (.bool (decide (b ≤ a))))
  | _, _ => none
theorem os_lt : OpS (rI0 fun i j => .bl (decide (i < j))) ltD noOk := by
  intro F H x y d1 d2 res Q s h1 h2 hf hk k
  cases d1 <;> cases d2 <;> simp only [ltD, reduceCtorEq, Option.some.injEq] at hf <;> subst hf
  cases h1; cases h2
  exact ⟨_, _, rfl, rfl, k _ (.bl _)⟩
theorem os_le : OpS (rI0 fun i j => .bl (decide (i ≤ j))) leD noOk := by
  intro F H x y d1 d2 res Q s h1 h2 hf hk k
  cases d1 <;> cases d2 <;> simp only [leD, reduceCtorEq, Option.some.injEq] at hf <;> subst hf
  cases h1; cases h2
  exact ⟨_, _, rfl, rfl, k _ (.bl _)⟩
theorem os_gt : OpS (rI0 fun i j => .bl (decide (j < i))) gtD noOk := by
  intro F H x y d1 d2 res Q s h1 h2 hf hk k
  cases d1 <;> cases d2 <;> simp only [gtD, reduceCtorEq, Option.some.injEq] at hf <;> subst hf
  cases h1; cases h2
  exact ⟨_, _, rfl, rfl, k _ (.bl _)⟩
theorem os_ge : OpS (rI0 fun i j => .bl (decide (j ≤ i))) geD noOk := by
  intro F H x y d1 d2 res Q s h1 h2 hf hk k
  cases d1 <;> cases d2 <;> simp only [geD, reduceCtorEq, Option.some.injEq] at hf <;> subst hf
  cases h1; cases h2
  exact ⟨_, _, rfl, rfl, k _ (.bl _)⟩
def isNone : PyData → Bool
  | .none => true
  | _ => false
def isD : PyData → PyData → Option Res
  | d, .none => some (.val (.bool (isNone d)))
  | _, _ => none
def isntD : PyData → PyData → Option Res
  | d, .none => some (.val (.bool (!isNone d)))
  | _, _ => none
theorem isNone_v {F H : Hp} {v : V} {d : PyData} (h : TD F H v d) : decide (v = .non) = isNone d := by
  cases d with
  | list ds => obtain ⟨a, vs, rfl, _⟩ := h; rfl
  | none => cases h; rfl
  | bool b => cases h; rfl
  | int b => cases h; rfl
  | str b => cases h; rfl
  | tuple b => cases h; rfl
  | dict b => cases h; rfl
def rIsA : R2 := fun x y H Q => y = .non ∧ Q (.bl (decide (x = .non))) H
def rIsntA : R2 := fun x y H Q => y = .non ∧ Q (.bl (!decide (x = .non))) H
theorem os_is : OpS rIsA isD noOk := by
  intro F H x y d1 d2 res Q s h1 h2 hf hk k
  cases d2 <;> simp only [isD, reduceCtorEq, Option.some.injEq] at hf <;> subst hf
  cases h2
  exact ⟨rfl, k _ (by rw [isNone_v h1]; exact .bl _)⟩
theorem os_isnt : OpS rIsntA isntD noOk := by
  intro F H x y d1 d2 res Q s h1 h2 hf hk k
  cases d2 <;> simp only [isntD, reduceCtorEq, Option.some.injEq] at hf <;> subst hf
  cases h2
  exact ⟨rfl, k _ (by rw [isNone_v h1]; exact .bl _)⟩
/-! ### subscripts -/
def ixD : PyData → PyData → Option Res
  | .list ds, .int i => (atI ds i).map Res.val
  | .tuple ds, .int i => (atI ds i).map Res.val
  | .str z, .int i => (atI z.cps.toList i).map fun c => .val (.str ⟨#[c]⟩)
  | _, _ => none
@[reducible] def ixOk : PyData → PyData → Prop
  | .str z, .int _ => z.length ≤ sizeLine
  | _, _ => True
theorem atI_dv {F : Hp} {vs : List V} {ds : List PyData} {i : Int} {d : PyData} (h : DVs F vs ds) (e : atI ds i = some d) : ∃ v, atI vs i = some v ∧ DV F v d := by
  unfold atI at e ⊢
  rw [h.length]
  cases hi : ixN ds.length i with
  | none => rw [hi] at e; exact nomatch e
  | some j => rw [hi] at e; exact h.get e
theorem os_ix {K : PySem.W.Frag} : OpS (rIx K) ixD ixOk := by
  intro F H x y d1 d2 res Q s h1 h2 hf hk k
  cases d1 <;> cases d2 <;> simp only [ixD, reduceCtorEq] at hf
  · rename_i z i
    cases e : atI z.cps.toList i with
    | none => rw [e] at hf; exact nomatch hf
    | some c =>
      rw [e] at hf
      obtain rfl := Option.some.inj hf
      cases h1; cases h2
      exact .inr (.inr ⟨_, _, c, rfl, rfl, hk, e, k _ (.str _)⟩)
  · rename_i ds i
    cases e : atI ds i with
    | none => rw [e] at hf; exact nomatch hf
    | some c =>
      rw [e] at hf
      obtain rfl := Option.some.inj hf
      obtain ⟨a, vs, rfl, e1, q1⟩ := h1
      cases h2
      obtain ⟨v, hv, dv⟩ := atI_dv q1 e
      exact .inl ⟨a, vs, _, v, rfl, rfl, .inl (.inl e1), hv, k v dv⟩
  · rename_i ds i
    cases e : atI ds i with
    | none => rw [e] at hf; exact nomatch hf
    | some c =>
      rw [e] at hf
      obtain rfl := Option.some.inj hf
      cases h2
      cases h1 with
      | tup e1 q1 =>
        obtain ⟨v, hv, dv⟩ := atI_dv q1 e
        exact .inr (.inl ⟨_, _, _, v, rfl, rfl, .inl (.inl (s _ _ e1)), hv, k v dv⟩)
/-! ### built-in calls -/
def lenD : List PyData → Option Res
  | [.list ds] => some (.val (.int ds.length))
  | [.tuple ds] => some (.val (.int ds.length))
  | [.str z] => some (.val (.int z.length))
  | _ => none
@[reducible] def lenOk : List PyData → Prop
  | [.str z] => z.length ≤ sizeLine
  | _ => True
def rLenA (K : PySem.W.Frag) : List V → Hp → VK → Prop := fun xs H Q =>
  (∃ p ys, xs = [.ref p] ∧ (SqL K H p ys ∨ SqT K H p ys) ∧ Q (.int ys.length) H) ∨ ∃ z, xs = [.str z] ∧ z.length ≤ sizeLine ∧ Q (.int z.length) H
theorem cr_len : CallR X (.builtin "len") (rLenA X.K) := call_len_seq.or call_len_str
theorem tds1 {F H : Hp} {xs : List V} {d : PyData} (h : TDs F H xs [d]) : ∃ x, xs = [x] ∧ TD F H x d := by
  cases h with
  | cons h t => cases t; exact ⟨_, rfl, h⟩
theorem cs_len {K : PySem.W.Frag} : CaS (rLenA K) lenD lenOk := by
  intro F H xs ds res Q s h hf hk k
  match ds, hf with
  | [.list ds], hf =>
    obtain rfl := Option.some.inj hf
    obtain ⟨x, rfl, a, vs, rfl, e, q⟩ := tds1 h
    exact .inl ⟨a, vs, rfl, .inl (.inl (.inl e)), by rw [q.length]; exact k _ (.int _)⟩
  | [.tuple ds], hf =>
    obtain rfl := Option.some.inj hf
    obtain ⟨x, rfl, h'⟩ := tds1 h
    cases h' with
    | tup e q => exact .inl ⟨_, _, rfl, .inr (.inl (.inl (s _ _ e))), by rw [q.length]; exact k _ (.int _)⟩
  | [.str z], hf =>
    obtain rfl := Option.some.inj hf
    obtain ⟨x, rfl, h'⟩ := tds1 h
    cases h'
    exact .inr ⟨z, rfl, hk, k _ (.int _)⟩
def intD : List PyData → Option Res
  | [.int i] => some (.val (.int i))
  | [.bool b] => some (.val (.int (if b then 1 else 0)))
  | _ => none
@[reducible] def okAll : List PyData → Prop := fun _ => True
def rInt1 : List V → Hp → VK → Prop := fun xs H Q => (∃ i, xs = [.int i] ∧ Q (.int i) H) ∨ ∃ k, xs = [.bl k] ∧ Q (.int (if k then 1 else 0)) H
theorem cs_int : CaS rInt1 intD okAll := by
  intro F H xs ds res Q s h hf hk k
  match ds, hf with
  | [.int i], hf =>
    obtain rfl := Option.some.inj hf
    obtain ⟨x, rfl, h'⟩ := tds1 h
    cases h'
    exact .inl ⟨i, rfl, k _ (.int _)⟩
  | [.bool b], hf =>
    obtain rfl := Option.some.inj hf
    obtain ⟨x, rfl, h'⟩ := tds1 h
    cases h'
    exact .inr ⟨b, rfl, k _ (.int _)⟩
def absD : List PyData → Option Res
  | [.int i] => some (.val (.int (if i < 0 then -i else i)))
  | _ => none
def rAbs1 : List V → Hp → VK → Prop := fun xs H Q => ∃ i, xs = [.int i] ∧ Q (.int (if i < 0 then -i else i)) H
theorem cs_abs : CaS rAbs1 absD okAll := by
  intro F H xs ds res Q s h hf hk k
  match ds, hf with
  | [.int i], hf =>
    obtain rfl := Option.some.inj hf
    obtain ⟨x, rfl, h'⟩ := tds1 h
    cases h'
    exact ⟨i, rfl, k _ (.int _)⟩
def tupD : List PyData → Option Res
  | [.list ds] => some (.newT ds)
  | [.tuple ds] => some (.newT ds)
  | _ => none
def rTupOf (K : PySem.W.Frag) : List V → Hp → VK → Prop := fun xs H Q =>
  ∃ p ys, xs = [.ref p] ∧ ((SqL K H p ys ∧ ∀ l, H l = none → Q (.ref l) (upd H l (.tup ys))) ∨ (SqT K H p ys ∧ Q (.ref p) H))
theorem cs_tup {K : PySem.W.Frag} : CaS (rTupOf K) tupD okAll := by
  intro F H xs ds res Q s h hf hk k
  match ds, hf with
  | [.list ds], hf =>
    obtain rfl := Option.some.inj hf
    obtain ⟨x, rfl, a, vs, rfl, e, q⟩ := tds1 h
    exact ⟨a, vs, rfl, .inl ⟨.inl (.inl e), fun l hl => k.2 l vs hl q⟩⟩
  | [.tuple ds], hf =>
    obtain rfl := Option.some.inj hf
    obtain ⟨x, rfl, h'⟩ := tds1 h
    cases h' with
    | tup e q => exact ⟨_, _, rfl, .inr ⟨.inl (.inl (s _ _ e)), k.1 _ (.tup e q)⟩⟩
def lstD : List PyData → Option Res
  | [.list ds] => some (.newL ds)
  | [.tuple ds] => some (.newL ds)
  | _ => none
def rLstOf (K : PySem.W.Frag) : List V → Hp → VK → Prop := fun xs H Q =>
  ∃ p ys, xs = [.ref p] ∧ (SqL K H p ys ∨ SqT K H p ys) ∧ ∀ l, H l = none → Q (.ref l) (upd H l (.lst ys))
theorem cs_lst {K : PySem.W.Frag} : CaS (rLstOf K) lstD okAll := by
  intro F H xs ds res Q s h hf hk k
  match ds, hf with
  | [.list ds], hf =>
    obtain rfl := Option.some.inj hf
    obtain ⟨x, rfl, a, vs, rfl, e, q⟩ := tds1 h
    exact ⟨a, vs, rfl, .inl (.inl (.inl e)), fun l hl => k l vs hl q⟩
  | [.tuple ds], hf =>
    obtain rfl := Option.some.inj hf
    obtain ⟨x, rfl, h'⟩ := tds1 h
    cases h' with
    | tup e q => exact ⟨_, _, rfl, .inr (.inl (.inl (s _ _ e))), fun l hl => k l _ hl q⟩
def reprD : List PyData → Option Res
  | [d] => some (.val (.str d.shown))
  | _ => none
@[reducible] def reprOk : List PyData → Prop
  | [d] => d.showable = true ∧ d.hasDict = false ∧ d.depth ≤ 64 ∧ d.shown.length ≤ sizeLine
  | _ => True
theorem cs_repr {K : PySem.W.Frag} : CaS (Gd.rRepr K) reprD reprOk := by
  intro F H xs ds res Q s h hf hk k
  match ds, hf with
  | [d], hf =>
    obtain rfl := Option.some.inj hf
    obtain ⟨x, rfl, h'⟩ := tds1 h
    exact ⟨x, d, rfl, (h'.dv s).dpn K hk.2.1, hk.1, hk.2.1, hk.2.2.1, hk.2.2.2, k _ (.str _)⟩
/-! ### slices -/
def cutD (ds : List PyData) (lo hi : Option Int) : List PyData := (ds.drop (HT.sIx ds.length 0 lo)).take (HT.sIx ds.length ds.length hi - HT.sIx ds.length 0 lo)
theorem DVs.cut {F : Hp} {vs : List V} {ds : List PyData} (h : DVs F vs ds) (lo hi : Option Int) : DVs F (cutV vs lo hi) (cutD ds lo hi) := by
  unfold cutV cutD
  rw [h.length]
  exact (h.drop _).take _
def slD (d : PyData) (lo hi : Option Int) : Option Res := match d with
  | .list ds => some (.newL (cutD ds lo hi))
  | .tuple ds => some (.newT (cutD ds lo hi))
  | .str z => some (.val (.str (cutS z lo hi)))
  | _ => none
@[reducible] def slOk : PyData → Prop
  | .str z => z.length ≤ sizeLine
  | _ => True
def rSlAll (K : PySem.W.Frag) : V → Option Int → Option Int → Hp → VK → Prop := fun x lo hi H Q => rSlL K x lo hi H Q ∨ rSlA K x lo hi H Q ∨ rSlS x lo hi H Q
theorem sl_all : SlR X (rSlAll X.K) := sl_list.or (sl_tupA.or sl_str)
theorem cut_all (vs : List V) (lo hi : Option Int) (h : HT.sIx vs.length 0 lo = 0 ∧ HT.sIx vs.length vs.length hi = vs.length) : cutV vs lo hi = vs := by
  unfold cutV
  rw [h.1, h.2, List.drop_zero, Nat.sub_zero, List.take_length]
theorem cut_allD (vs : List PyData) (lo hi : Option Int) (h : HT.sIx vs.length 0 lo = 0 ∧ HT.sIx vs.length vs.length hi = vs.length) : cutD vs lo hi = vs := by
  unfold cutD
  rw [h.1, h.2, List.drop_zero, Nat.sub_zero, List.take_length]
theorem sl_run {K : PySem.W.Frag} {F H : Hp} {x : V} {d : PyData} {lo hi : Option Int} {res : Res} {Q : VK} (s : Same F H) (h : TD F H x d) (hf : slD d lo hi = some res) (hk : slOk d) (k : ResK F H Q res) : rSlAll K x lo hi H Q := by
  cases d <;> simp only [slD, reduceCtorEq, Option.some.injEq] at hf <;> subst hf
  · cases h
    exact .inr (.inr ⟨_, rfl, hk, k _ (.str _)⟩)
  · obtain ⟨a, vs, rfl, e, q⟩ := h
    exact .inl ⟨a, vs, rfl, .inl (.inl e), fun p np => k p _ np (q.cut lo hi)⟩
  · cases h with
    | tup e q =>
      refine .inr (.inl ⟨_, _, rfl, .inl (.inl (s _ _ e)), fun z => ?_, fun _ p np => k.2 p _ np (q.cut lo hi)⟩)
      have z' := z
      rw [q.length] at z'
      rw [cut_allD _ lo hi z'] at k
      exact k.1 _ (.tup e q)
end
/-- an end of a slice -/
def rdO (env : En) (μ : Mu) (o : Option Int) (μ' : Mu) : TO := fun σ H Q =>
  ∃ F as, EnvOk F as env σ ∧ Wd F H as μ ∧ ∀ F' H' as', Go F H as F' H' as' → Wd F' H' as' μ' → Q o H'
section
variable {X : Cx} {env : En} {μ μ1 μ2 μ3 μ' : Mu} {sv s1 : SV} {e : Expr} {lo hi : Option Expr} {pos p2 : Pos}
def SO (X : Cx) (e : Option Expr) (env : En) (μ : Mu) (o : Option Int) (μ' : Mu) : Prop := PO X e (rdO env μ o μ')
theorem PO.imp {t t' : TO} {o : Option Expr} (h : PO X o t) (i : ∀ σ H Q, t' σ H Q → t σ H Q) : PO X o t' := by
  obtain ⟨f⟩ := h
  exact ⟨fun pins s σ H Q I q => f pins s σ H Q I (i σ H Q q)⟩
theorem so_none : SO X none env μ none μ := PO.imp po_none fun σ H Q ⟨F, as, he, W, k⟩ => k F H as (Go.refl F H as) W
theorem so_some {i : Int} (h : SE X e env μ (.dat (.int i)) μ') : SO X (some e) env μ (some i) μ' :=
  PO.imp (po_some h) fun σ H Q ⟨F, as, he, W, k⟩ => ⟨F, as, he, W, fun v F1 H1 as1 g1 W1 r1 => by
    cases r1
    exact ⟨i, rfl, k F1 H1 as1 g1 W1⟩⟩
theorem se_slice {i j : Option Int} {d : PyData} {res : Res} (he : SE X e env μ s1 μ1) (hl : SO X lo env μ1 i μ2) (hh : SO X hi env μ2 j μ3) (v1 : Sy.view μ3 s1 = some d) (hf : slD d i j = some res) (hk : slOk d) (fin : Fi res μ3 sv μ') :
    SE X (.Subscript e (.Slice lo hi none p2) pos) env μ sv μ' := by
  refine PE.imp (pe_slice sl_all he hl hh) fun σ H Q ⟨F, as, hE, W, k⟩ => ?_
  refine ⟨F, as, hE, W, fun x F1 H1 as1 g1 W1 r1 => ⟨F1, as1, hE.mono g1, W1, fun F2 H2 as2 g2 W2 => ⟨F2, as2, (hE.mono g1).mono g2, W2, fun F3 H3 as3 g3 W3 => ?_⟩⟩⟩
  refine sl_run W3.sub (W3.view (RSV.mono g3 (RSV.mono g2 r1)) v1) hf hk ?_
  exact fin.run W3 fun v F4 H4 as4 g4 W4 r4 => k v F4 H4 as4 (((g1.trans g2).trans g3).trans g4) W4 r4
end
end Sy

/-! Sy4: statements, loops, comprehensions, methods of lists. -/
namespace Sy
open PySem PySem.Spec PyProof.Rows L2

section
variable {X : Cx} {env : En} {μ μ1 μ2 μ' : Mu} {sv s1 s2 : SV} {a b c e : Expr} {st : Stmt} {rest A B : List Stmt} {R : Out → Prop} {pos p0 p1 : Pos} {x y : Str}

/-- a block that the rest follows -/
def Thn (X : Cx) (rest : List Stmt) (R : Out → Prop) : Out → Prop
  | .next env μ => SSs X rest env μ R
  | o => R o
theorem sss_nil (h : R (.next env μ)) : SSs X [] env μ R :=
  PSs.imp pss_nil fun D σ H ⟨F, as, he, W, kn, _⟩ => kn env μ σ F H as h (Go.refl F H as) he W
theorem sss_cons (h1 : SS X st env μ (Thn X rest R)) : SSs X (st :: rest) env μ R := by
  have h2 : PSs X rest (fun D σ H => ∃ env' μ', SSs X rest env' μ' R ∧ rdS env' μ' R D σ H) :=
    ⟨fun pins s σ H D I ⟨env', μ', h, q⟩ => h.run pins s σ H D I q⟩
  refine PSs.imp (pss_cons h1 h2) fun D σ H ⟨F, as, he, W, kn, kr, kb, kc⟩ => ?_
  refine ⟨F, as, he, W, fun env' μ' σ' F' H' as' h g he' W' => ⟨env', μ', h, F', as', he', W', ?_, ?_, ?_, ?_⟩, kr, kb, kc⟩
  · exact fun e2 m2 s2 F2 H2 as2 r2 g2 => kn e2 m2 s2 F2 H2 as2 r2 (g.trans g2)
  · exact fun e2 m2 s2 F2 H2 as2 r2 g2 => kr e2 m2 s2 F2 H2 as2 r2 (g.trans g2)
  · exact fun e2 m2 s2 F2 H2 as2 r2 g2 => kb e2 m2 s2 F2 H2 as2 r2 (g.trans g2)
  · exact fun e2 m2 s2 F2 H2 as2 r2 g2 => kc e2 m2 s2 F2 H2 as2 r2 (g.trans g2)
/-- name = value -/
theorem sss_set (i : Nat) (hN : X.N.Nodup) (he : SE X e env μ sv μ1) (hr : SSs X rest (env.set i (some sv)) μ1 R) (hi : X.N[i]? = some x := by rfl)
    (hx : Loc X.env.scope x := by first | exact .inl rfl | exact .inr rfl) (hs : swapsWith e (some (.Name x p0)) pos.line X.env = pure false := by rfl)
    (hf : X.fn x = true ∨ X.env.scope.names.lookup x = some .local := by first | exact .inl rfl | exact .inr rfl) : SSs X (.Assign [.Name x p0] e pos :: rest) env μ R := by
  refine sss_cons (PS.imp (ps_set hN hi hx he hs hf) fun D σ H ⟨F, as, hE, W, kn, _⟩ => ?_)
  refine ⟨F, as, hE, W, fun v F1 H1 as1 g1 W1 r1 => ?_⟩
  exact kn _ μ1 _ F1 H1 as1 hr g1 ((hE.mono g1).set r1 i) W1
theorem sss_ret (he : SE X e env μ sv μ1) (hr : R (.ret sv μ1)) : SSs X (.Return (some e) pos :: rest) env μ R := by
  refine sss_cons (PS.imp (ps_ret he) fun D σ H ⟨F, as, hE, W, _, kr, _⟩ => ?_)
  exact ⟨F, as, hE, W, fun v F1 H1 as1 g1 W1 r1 => kr sv μ1 v F1 H1 as1 hr g1 W1 r1⟩
theorem sss_expr (he : SE X e env μ sv μ1) (hr : SSs X rest env μ1 R) (hs : swapsWith e none pos.line X.env = pure false := by rfl) : SSs X (.Expr e pos :: rest) env μ R := by
  refine sss_cons (PS.imp (ps_expr he hs) fun D σ H ⟨F, as, hE, W, kn, _⟩ => ?_)
  exact ⟨F, as, hE, W, fun v F1 H1 as1 g1 W1 r1 => kn env μ1 σ F1 H1 as1 hr g1 (hE.mono g1) W1⟩
theorem sss_brk (hr : R (.brk env μ)) : SSs X (.Break pos :: rest) env μ R :=
  sss_cons (PS.imp ps_break fun D σ H ⟨F, as, hE, W, _, _, kb, _⟩ => kb env μ σ F H as hr (Go.refl F H as) hE W)
theorem sss_cont (hr : R (.cont env μ)) : SSs X (.Continue pos :: rest) env μ R :=
  sss_cons (PS.imp ps_continue fun D σ H ⟨F, as, hE, W, _, _, _, kc⟩ => kc env μ σ F H as hr (Go.refl F H as) hE W)
theorem pss_when {P : Prop} {t : TS} (h : P → PSs X A t) : PSs X A (fun D σ H => P ∧ t D σ H) := ⟨fun pins s σ H D I q => (h q.1).run pins s σ H D I q.2⟩
theorem sss_if {q : Bool} (ht : ST X c env μ q μ1) (hA : q = true → SSs X A env μ1 (Thn X rest R)) (hB : q = false → SSs X B env μ1 (Thn X rest R)) : SSs X (.If c A B pos :: rest) env μ R := by
  refine sss_cons (PS.imp (ps_if ht (pss_when hA) (pss_when hB)) fun D σ H ⟨F, as, hE, W, kn, kr, kb, kc⟩ => ?_)
  refine ⟨F, as, hE, W, fun F1 H1 as1 g1 W1 => ?_⟩
  have go : rdS env μ1 (Thn X rest R) D σ H1 := ⟨F1, as1, hE.mono g1, W1, fun e2 m2 s2 F2 H2 as2 r2 g2 => kn e2 m2 s2 F2 H2 as2 r2 (g1.trans g2), fun e2 m2 s2 F2 H2 as2 r2 g2 => kr e2 m2 s2 F2 H2 as2 r2 (g1.trans g2),
    fun e2 m2 s2 F2 H2 as2 r2 g2 => kb e2 m2 s2 F2 H2 as2 r2 (g1.trans g2), fun e2 m2 s2 F2 H2 as2 r2 g2 => kc e2 m2 s2 F2 H2 as2 r2 (g1.trans g2)⟩
  cases q with
  | true => exact ⟨rfl, go⟩
  | false => exact ⟨rfl, go⟩
/-- x, y = a, b -/
theorem sss_par (i j : Nat) {pt pt2 : Pos} {kt k2 : Nat} (hc : X.calm = true) (hN : X.N.Nodup) (ha : SA X [a, b] env μ [s1, s2] μ1) (hr : SSs X rest ((env.set i (some s1)).set j (some s2)) μ1 R)
    (hi : X.N[i]? = some x := by rfl) (hj : X.N[j]? = some y := by rfl) (hij : i ≠ j := by decide) (hx : X.env.scope.names.lookup x = some .local := by rfl) (hy : X.env.scope.names.lookup y = some .local := by rfl)
    (hw : swappedStores [.Tuple [.Name x p0, .Name y p1] kt pt] (.Tuple [a, b] k2 pt2) X.env = pure (some [x, y]) := by rfl)
    (hs : swapsWithSole [.Tuple [.Name x p0, .Name y p1] kt pt] (.Tuple [a, b] k2 pt2) pos.line X.env = pure false := by rfl) :
    SSs X (.Assign [.Tuple [.Name x p0, .Name y p1] kt pt] (.Tuple [a, b] k2 pt2) pos :: rest) env μ R := by
  refine sss_cons (PS.imp (ps_par hc hN hi hj hij hx hy ha hw hs) fun D σ H ⟨F, as, hE, W, kn, _⟩ => ?_)
  refine ⟨F, as, hE, W, fun vs F1 H1 as1 g1 W1 r1 => ?_⟩
  cases r1 with
  | cons h1 t1 =>
    cases t1 with
    | cons h2 t2 =>
      cases t2
      exact ⟨_, _, rfl, kn _ μ1 _ F1 H1 as1 hr g1 (((hE.mono g1).set h1 i).set h2 j) W1⟩
end

/-! ### targets, iterables -/
section
variable {X : Cx} {env : En} {μ μ1 μ2 μ' : Mu} {sv s1 s2 : SV} {a b c e tg iter : Expr} {rest body : List Stmt} {R : Out → Prop} {pos p0 p1 : Pos} {x y : Str}
/-- a datum goes to a target -/
def rdG (rel : PyData → En → En → Prop) : TG := fun v σ H Q =>
  ∃ d env env' F as, rel d env env' ∧ DV F v d ∧ Same F H ∧ EnvOk F as env σ ∧ ∀ σ', EnvOk F as env' σ' → Q σ' H
def SG (X : Cx) (tg : Expr) (rel : PyData → En → En → Prop) : Prop := PG X tg (rdG rel)
theorem sg_name (i : Nat) (hN : X.N.Nodup) (hi : X.N[i]? = some x := by rfl) (hx : Loc X.env.scope x := by first | exact .inl rfl | exact .inr rfl)
    (hf : X.fn x = true ∨ X.env.scope.names.lookup x = some .local := by first | exact .inl rfl | exact .inr rfl) : SG X (.Name x pos) (fun d env env' => env' = env.set i (some (.dat d))) :=
  ⟨fun pins s σ H v u Q I r ⟨d, env, env', F, as, h, dv, sm, he, k⟩ => (pg_name (i := i) hN hi hx hf).run pins s σ H v u Q I r (k _ (h ▸ he.set (sv := .dat d) dv i))⟩
theorem sg_tup2 (i j : Nat) {k : Nat} (hc : X.calm = true) (hN : X.N.Nodup) (hi : X.N[i]? = some x := by rfl) (hj : X.N[j]? = some y := by rfl) (hx : Loc X.env.scope x := by first | exact .inl rfl | exact .inr rfl) (hy : Loc X.env.scope y := by first | exact .inl rfl | exact .inr rfl)
    (hf : X.fn x = true ∨ X.env.scope.names.lookup x = some .local := by first | exact .inl rfl | exact .inr rfl) (hf2 : X.fn y = true ∨ X.env.scope.names.lookup y = some .local := by first | exact .inl rfl | exact .inr rfl) :
    SG X (.Tuple [.Name x p0, .Name y p1] k pos) (fun d env env' => ∃ d1 d2, d = .tuple [d1, d2] ∧ env' = (env.set i (some (.dat d1))).set j (some (.dat d2))) := by
  refine ⟨fun pins s σ H v u Q I r ⟨d, env, env', F, as, ⟨d1, d2, e1, e2⟩, dv, sm, he, kk⟩ => ?_⟩
  subst e1 e2
  cases dv with
  | tup e q =>
    cases q with
    | cons q1 t1 =>
      cases t1 with
      | cons q2 t2 =>
        cases t2
        refine (pg_tup hc (pgs_cons (pg_name (i := i) hN hi hx hf) (pgs_cons (pg_name (i := j) hN hj hy hf2) pgs_nil))).run pins s σ H _ u Q I r ?_
        exact ⟨_, _, rfl, .inl (.inl (sm _ _ e)), rfl, _, _, rfl, _, _, rfl, rfl, kk _ ((he.set (sv := .dat d1) q1 i).set (sv := .dat d2) q2 j)⟩

/-- what a for walks: the data ds, while S holds of the cells -/
def rdI (env : En) (μ : Mu) (ds : List PyData) (μ1 : Mu) (S : Mu → Prop) : TI := fun σ H R =>
  ∃ F as, EnvOk F as env σ ∧ Wd F H as μ ∧ ∀ J G Y F1 H1 as1, Go F H as F1 H1 as1 → Wd F1 H1 as1 μ1 → Walk J ds.length G Y →
    (∀ F2 H2 as2 μ2, Go F1 H1 as1 F2 H2 as2 → Wd F2 H2 as2 μ2 → S μ2 → G H2) →
    (∀ (i : Nat) F2 H2 as2 μ2 x H', Go F1 H1 as1 F2 H2 as2 → Wd F2 H2 as2 μ2 → S μ2 → Y i H2 x H' → i < ds.length → H' = H2 ∧ ∃ d, ds[i]? = some d ∧ DV F2 x d) → R J H1
def SI (X : Cx) (tg iter : Expr) (env : En) (μ : Mu) (ds : List PyData) (μ1 : Mu) (S : Mu → Prop) : Prop := PI X tg iter (rdI env μ ds μ1 S)
theorem PI.imp {wi wi' : TI} (h : PI X tg iter wi) (i : ∀ σ H R, wi' σ H R → wi σ H R) : PI X tg iter wi' := ⟨fun pins s σ H R I q => h.run pins s σ H R I (i σ H R q)⟩
theorem si_list {ds : List PyData} (he : SE X iter env μ sv μ1) (hv : Sy.view μ1 sv = some (.list ds)) : SI X tg iter env μ ds μ1 (fun μ2 => Sy.view μ2 sv = some (.list ds)) := by
  refine PI.imp (pi_list he) fun σ H R ⟨F, as, hE, W, k⟩ => ⟨F, as, hE, W, fun v F1 H1 as1 g1 W1 r1 => ?_⟩
  obtain ⟨a, vs, rfl, e, q⟩ := W1.view r1 hv
  have same : ∀ F2 H2 as2 μ2, Go F1 H1 as1 F2 H2 as2 → Wd F2 H2 as2 μ2 → Sy.view μ2 sv = some (.list ds) → ∃ ws, H2 a = some (.lst ws) ∧ DVs F2 ws ds := by
    intro F2 H2 as2 μ2 g2 W2 h2
    obtain ⟨a', ws, e', q1, q2⟩ := W2.view (RSV.mono g2 r1) h2
    obtain rfl := V.ref.inj e'
    exact ⟨ws, q1, q2⟩
  refine ⟨a, rfl, ⟨vs, .inl (.inl e)⟩, ?_⟩
  refine k (Itl X.K a) (fun H2 => ∃ ws, H2 a = some (.lst ws) ∧ ws.length = ds.length) (fun i H x H' => H' = H ∧ ∃ ws, H a = some (.lst ws) ∧ ws[i]? = some x) F1 H1 as1 g1 W1 ⟨?_, ?_, ?_⟩ ?_ ?_
  · exact fun i H hi ⟨ws, h1, h2⟩ => ⟨ws, ws[i]'(by omega), .inl (.inl h1), by simp [h2, hi]⟩
  · exact fun H ⟨ws, h1, h2⟩ => ⟨ws, .inl (.inl h1), by omega⟩
  · exact fun i H x H' hi ⟨ws, h1, h2⟩ y => ⟨y.1, ws, h1, y.2 ws (.inl (.inl h1))⟩
  · exact fun F2 H2 as2 μ2 g2 W2 h2 => let ⟨ws, q1, q2⟩ := same F2 H2 as2 μ2 g2 W2 h2; ⟨ws, q1, q2.length⟩
  · rintro i F2 H2 as2 μ2 x H' g2 W2 h2 ⟨rfl, ws, q1, q2⟩ hi
    obtain ⟨ws', q1', q2'⟩ := same F2 _ as2 μ2 g2 W2 h2
    rw [q1] at q1'
    obtain rfl := HO.lst.inj (Option.some.inj q1')
    exact ⟨rfl, q2'.getV q2⟩
theorem si_tup {ds : List PyData} (he : SE X iter env μ (.dat (.tuple ds)) μ1) : SI X tg iter env μ ds μ1 (fun _ => True) := by
  refine PI.imp (pi_tup he) fun σ H R ⟨F, as, hE, W, k⟩ => ⟨F, as, hE, W, fun v F1 H1 as1 g1 W1 r1 => ?_⟩
  cases r1 with
  | @tup a vs _ e q =>
    refine ⟨a, rfl, ⟨vs, .inl (.inl (W1.sub _ _ e))⟩, ?_⟩
    refine k (Itt X.K a) (fun H => SqT X.K H a vs) (YAt vs) F1 H1 as1 g1 W1 (by rw [← q.length]; exact walk_tup) ?_ ?_
    · exact fun F2 H2 as2 μ2 g2 W2 _ => .inl (.inl (W2.sub _ _ (g2.sub _ _ e)))
    · rintro i F2 H2 as2 μ2 x H' g2 W2 h2 ⟨rfl, y⟩ hi
      obtain ⟨d, h1, h2⟩ := q.getV y
      exact ⟨rfl, d, h1, DV.mono g2.sub h2⟩
def rangeD (lo : Int) (n : Nat) : List PyData := (List.range n).map fun (i : Nat) => PyData.int (lo + i)
theorem rangeD_len (lo : Int) (n : Nat) : (rangeD lo n).length = n := by unfold rangeD; simp
theorem rangeD_get {lo : Int} {n i : Nat} (h : i < n) : (rangeD lo n)[i]? = some (.int (lo + i)) := by unfold rangeD; simp [h]
theorem range_go {lo : Int} {n : Nat} {σ : L2.St} {H : Hp} {R : It → Hp → Prop} {F1 H1 : Hp} {as1 : List Addr}
    (k : ∀ J G Y, Walk J (rangeD lo n).length G Y → (∀ F2 H2 as2 μ2, Go F1 H1 as1 F2 H2 as2 → Wd F2 H2 as2 μ2 → True → G H2) →
      (∀ (i : Nat) F2 H2 as2 μ2 x H', Go F1 H1 as1 F2 H2 as2 → Wd F2 H2 as2 μ2 → True → Y i H2 x H' → i < (rangeD lo n).length → H' = H2 ∧ ∃ d, (rangeD lo n)[i]? = some d ∧ DV F2 x d) → R J H1) : R (Itr lo n) H1 := by
  refine k (Itr lo n) _ _ (by rw [rangeD_len]; exact walk_range) (fun _ _ _ _ _ _ _ => trivial) ?_
  rintro i F2 H2 as2 μ2 x H' g2 W2 h2 ⟨rfl, y⟩ hi
  rw [rangeD_len] at hi
  exact ⟨rfl, _, rangeD_get hi, y ▸ .int _⟩
theorem si_range1 {n : Int} (hm : X.mg "range" = none) (ha : SA X [a] env μ [.dat (.int n)] μ1) (hz : -(2 ^ 62) ≤ n ∧ n < 2 ^ 62) (hg : Gl X "range" := by rfl)
    (hs : starEach [a] X.env = [(false, eval a X.env)] := by rfl) : SI X tg (.Call (.Name "range" p0) [a] [] pos) env μ (rangeD 0 n.toNat) μ1 (fun _ => True) := by
  refine PI.imp (pi_range1 hg hm ha hs) fun σ H R ⟨F, as, hE, W, k⟩ => ⟨F, as, hE, W, fun vs F1 H1 as1 g1 W1 r1 => ?_⟩
  cases r1 with
  | cons r t =>
    cases t
    cases r
    exact ⟨n, rfl, hz.1, hz.2, range_go (σ := σ) (H := H) fun J G Y w h1 h2 => k J G Y F1 H1 as1 g1 W1 w h1 h2⟩
theorem si_range2 {m n : Int} (hm : X.mg "range" = none) (ha : SA X [a, b] env μ [.dat (.int m), .dat (.int n)] μ1) (hz : -(2 ^ 62) ≤ m ∧ m < 2 ^ 62 ∧ -(2 ^ 62) ≤ n ∧ n < 2 ^ 62) (hg : Gl X "range" := by rfl)
    (hs : starEach [a, b] X.env = [(false, eval a X.env), (false, eval b X.env)] := by rfl) (hs2 : starEach [b] X.env = [(false, eval b X.env)] := by rfl) :
    SI X tg (.Call (.Name "range" p0) [a, b] [] pos) env μ (rangeD m (n - m).toNat) μ1 (fun _ => True) := by
  refine PI.imp (pi_range2 hg hm ha hs hs2) fun σ H R ⟨F, as, hE, W, k⟩ => ⟨F, as, hE, W, fun vs F1 H1 as1 g1 W1 r1 => ?_⟩
  cases r1 with
  | cons r t =>
    cases t with
    | cons r' t' =>
      cases t'
      cases r
      cases r'
      exact ⟨m, n, rfl, hz, range_go (σ := σ) (H := H) fun J G Y w h1 h2 => k J G Y F1 H1 as1 g1 W1 w h1 h2⟩
def signsD (z : Str) : List PyData := z.cps.toList.map fun c => PyData.str ⟨#[c]⟩
theorem si_str {z : Str} (he : SE X iter env μ (.dat (.str z)) μ1) : SI X tg iter env μ (signsD z) μ1 (fun _ => True) := by
  refine PI.imp (pi_str he) fun σ H R ⟨F, as, hE, W, k⟩ => ⟨F, as, hE, W, fun v F1 H1 as1 g1 W1 r1 => ?_⟩
  cases r1
  have hl : (signsD z).length = z.cps.size := by unfold signsD; simp
  refine ⟨z, rfl, k _ _ _ F1 H1 as1 g1 W1 (by rw [hl]; exact walk_str) (fun _ _ _ _ _ _ _ => trivial) ?_⟩
  rintro i F2 H2 as2 μ2 x H' g2 W2 h2 ⟨rfl, c, y, rfl⟩ hi
  refine ⟨rfl, _, ?_, .str _⟩
  unfold signsD
  rw [List.getElem?_map, Array.getElem?_toList, y]
  rfl

/-- what a turn may lead to -/
def LoopR (X : Cx) (rest : List Stmt) (R : Out → Prop) (I : Nat → En → Mu → Prop) (k : Nat) : Out → Prop
  | .next env μ => I (k + 1) env μ
  | .cont env μ => I (k + 1) env μ
  | .brk env μ => SSs X rest env μ R
  | .ret sv μ => R (.ret sv μ)
def rdL (X : Cx) (body rest : List Stmt) (R : Out → Prop) (I : Nat → En → Mu → Prop) : TS := fun D σ H =>
  ∃ k env' μ, SSs X body env' μ (LoopR X rest R I k) ∧ rdS env' μ (LoopR X rest R I k) D σ H
theorem sss_for {ds : List PyData} {S : Mu → Prop} {rel : PyData → En → En → Prop} (I : Nat → En → Mu → Prop) (hp : PassesOwn (model X.prog X.w) X.A X.env X.xe) (hc : X.calm = true)
    (hi : SI X tg iter env μ ds μ1 S) (hg : SG X tg rel) (h0 : I 0 env μ1) (hS : ∀ k env μ, I k env μ → S μ)
    (hs : ∀ k d env μ, ds[k]? = some d → I k env μ → ∃ env', rel d env env' ∧ SSs X body env' μ (LoopR X rest R I k)) (hd : ∀ env μ, I ds.length env μ → SSs X rest env μ R)
    (hf : ∀ x, foldedSetIterable iter X.env x = pure x := by intro _; rfl) : SSs X (.For tg iter body [] pos :: rest) env μ R := by
  have hb : PSs X body (rdL X body rest R I) :=
    ⟨fun pins s σ H D J ⟨k, env', μ, h, q⟩ => h.run pins s σ H D J q⟩
  refine sss_cons (PS.imp (ps_for hp hc hi hg hb hf) fun D σ H ⟨F, as, hE, W, kn, kr, kb, kc⟩ => ?_)
  refine ⟨F, as, hE, W, fun J G Y F1 H1 as1 g1 W1 w hG hY => ?_⟩
  refine for_it (g := rdG rel) (tb := rdL X body rest R I) (D := D) w (fun k σ H => ∃ env μ F2 as2, I k env μ ∧ EnvOk F2 as2 env σ ∧ Wd F2 H as2 μ ∧ Go F1 H1 as1 F2 H as2) ⟨env, μ1, F1, as1, h0, hE.mono g1, W1, Go.refl _ _ _⟩ ?_ ?_ ?_
  · rintro k σ2 H2 _ ⟨env2, μ2, F2, as2, i2, e2, W2, g2⟩
    exact hG F2 H2 as2 μ2 g2 W2 (hS k env2 μ2 i2)
  · rintro k v σ2 H2 H' hk ⟨env2, μ2, F2, as2, i2, e2, W2, g2⟩ y
    obtain ⟨rfl, d, hd1, dv⟩ := hY k F2 H2 as2 μ2 v H' g2 W2 (hS k env2 μ2 i2) y hk
    obtain ⟨env3, r3, b3⟩ := hs k d env2 μ2 hd1 i2
    refine ⟨d, env2, env3, F2, as2, r3, dv, W2.sub, e2, fun σ3 e3 => ⟨k, env3, μ2, b3, F2, as2, e3, W2, ?_, ?_, ?_, ?_⟩⟩
    · exact fun e4 m4 s4 F4 H4 as4 r4 g4 q4 W4 => ⟨e4, m4, F4, as4, r4, q4, W4, g2.trans g4⟩
    · exact fun e4 m4 s4 F4 H4 as4 r4 g4 q4 W4 => kr e4 m4 s4 F4 H4 as4 r4 ((g1.trans g2).trans g4) q4 W4
    · exact fun e4 m4 s4 F4 H4 as4 r4 g4 q4 W4 => kn e4 m4 s4 F4 H4 as4 r4 ((g1.trans g2).trans g4) q4 W4
    · exact fun e4 m4 s4 F4 H4 as4 r4 g4 q4 W4 => ⟨e4, m4, F4, as4, r4, q4, W4, g2.trans g4⟩
  · rintro σ2 H2 ⟨env2, μ2, F2, as2, i2, e2, W2, g2⟩
    exact kn env2 μ2 σ2 F2 H2 as2 (hd env2 μ2 i2) (g1.trans g2) e2 W2
/-- while -/
theorem sss_while (I : Nat → En → Mu → Prop) (n : Nat) (hp : PassesOwn (model X.prog X.w) X.A X.env X.xe) (h0 : I n env μ)
    (hs : ∀ n env μ, I n env μ → ∃ q μ1, ST X c env μ q μ1 ∧ (q = true → SSs X body env μ1 (fun o => match o with
      | .next env' μ' => ∃ m, m < n ∧ I m env' μ'
      | .cont env' μ' => ∃ m, m < n ∧ I m env' μ'
      | .brk env' μ' => SSs X rest env' μ' R
      | .ret sv μ' => R (.ret sv μ'))) ∧ (q = false → SSs X rest env μ1 R)) : SSs X (.While c body [] pos :: rest) env μ R := by
  let BR : Nat → Out → Prop := fun n o => match o with
      | .next env' μ' => ∃ m, m < n ∧ I m env' μ'
      | .cont env' μ' => ∃ m, m < n ∧ I m env' μ'
      | .brk env' μ' => SSs X rest env' μ' R
      | .ret sv μ' => R (.ret sv μ')
  have hc : PT X c (fun σ H Q => ∃ env μ q μ1, ST X c env μ q μ1 ∧ rdT env μ q μ1 σ H Q) := ⟨fun pins s σ H Q J ⟨env, μ, q, μ1, h, z⟩ => h.run pins s σ H Q J z⟩
  have hb : PSs X body (fun D σ H => ∃ n env' μ, SSs X body env' μ (BR n) ∧ rdS env' μ (BR n) D σ H) := ⟨fun pins s σ H D J ⟨k, env', μ, h, q⟩ => h.run pins s σ H D J q⟩
  refine sss_cons (PS.imp (ps_while hp hc hb) fun D σ H ⟨F, as, hE, W, kn, kr, kb, kc⟩ => ?_)
  refine ⟨fun m σ2 H2 => ∃ env2 μ2 F2 as2, I m env2 μ2 ∧ EnvOk F2 as2 env2 σ2 ∧ Wd F2 H2 as2 μ2 ∧ Go F H as F2 H2 as2, ⟨n, env, μ, F, as, h0, hE, W, Go.refl _ _ _⟩, ?_⟩
  rintro m σ2 H2 ⟨env2, μ2, F2, as2, i2, e2, W2, g2⟩
  obtain ⟨q, μ3, ht, hT, hF⟩ := hs m env2 μ2 i2
  refine ⟨env2, μ2, q, μ3, ht, F2, as2, e2, W2, fun F3 H3 as3 g3 W3 => ?_⟩
  cases q with
  | true =>
    refine ⟨fun σ' H' => ∃ m', m' < m ∧ ∃ env2 μ2 F2 as2, I m' env2 μ2 ∧ EnvOk F2 as2 env2 σ' ∧ Wd F2 H' as2 μ2 ∧ Go F H as F2 H' as2, fun σ' H' h => h, ?_⟩
    refine ⟨m, env2, μ3, hT rfl, F3, as3, e2.mono g3, W3, ?_, ?_, ?_, ?_⟩
    · rintro e4 m4 s4 F4 H4 as4 ⟨m', lt, r4⟩ g4 q4 W4
      exact ⟨m', lt, e4, m4, F4, as4, r4, q4, W4, (g2.trans g3).trans g4⟩
    · exact fun e4 m4 s4 F4 H4 as4 r4 g4 q4 W4 => kr e4 m4 s4 F4 H4 as4 r4 ((g2.trans g3).trans g4) q4 W4
    · exact fun e4 m4 s4 F4 H4 as4 r4 g4 q4 W4 => kn e4 m4 s4 F4 H4 as4 r4 ((g2.trans g3).trans g4) q4 W4
    · rintro e4 m4 s4 F4 H4 as4 ⟨m', lt, r4⟩ g4 q4 W4
      exact ⟨m', lt, e4, m4, F4, as4, r4, q4, W4, (g2.trans g3).trans g4⟩
  | false => exact kn env2 μ3 σ2 F3 H3 as3 (hF rfl) (g2.trans g3) (e2.mono g3) W3
end
end Sy

/-! Sy5: comprehensions, methods of lists, contracts of defs. -/
namespace Sy
open PySem PySem.Spec PyProof.Rows L2

/-! ### an object beside the world -/
theorem Wd.off {F H : Hp} {as : List Addr} {μ : Mu} (W : Wd F H as μ) {p : Addr} {o : HO} (nF : F p = none) (na : p ∉ as) : Wd F (upd H p o) as μ := by
  refine ⟨fun b u e => ?_, W.nd, W.len, fun j a c ha hc => ?_, fun a ha => ?_⟩
  · rw [upd_ne (ne_of_none e nF)]; exact W.sub b u e
  · have hap : a ≠ p := fun z => na (by rw [← z]; exact List.mem_of_getElem? ha)
    have k := W.ok j a c ha hc
    cases c with
    | dead => trivial
    | lst ds =>
      obtain ⟨k1, vs, k2, k3⟩ := k
      exact ⟨k1, vs, by rw [upd_ne hap]; exact k2, k3⟩
  · have hap : a ≠ p := fun z => na (by rw [← z]; exact ha)
    rw [upd_ne hap]
    exact W.seen a ha
theorem Go.off {F H F' H' : Hp} {as as' : List Addr} (g : Go F H as F' H' as') {p : Addr} {o : HO} (np : H p = none) : Go F H as F' (upd H' p o) as' :=
  ⟨fun a u h na => by rw [upd_ne (ne_of_none h np)]; exact g.keep a u h na, fun a h => by
    by_cases ha : a = p
    · rw [ha]; exact np
    · rw [upd_ne ha] at h; exact g.dom a h, g.sub, g.new, g.pre⟩
theorem Go.apart {F H F' H' : Hp} {as as' : List Addr} (g : Go F H as F' H' as') {p : Addr} {o : HO} (hp : H p = some o) (nF : F p = none) (na : p ∉ as) : H' p = some o ∧ F' p = none ∧ p ∉ as' := by
  refine ⟨g.keep p o hp na, ?_, ?_⟩
  · cases q : F' p with
    | none => rfl
    | some u =>
      rcases g.new p nF (by rw [q]; exact fun z => nomatch z) with z | z
      · rw [hp] at z; cases z
      · exact absurd z na
  · obtain ⟨more, e, n⟩ := g.pre
    rw [e]
    intro z
    rcases List.mem_append.mp z with z | z
    · exact na z
    · rw [n p z] at hp; cases hp
def era (H : Hp) (p : Addr) : Hp := fun b => if b = p then none else H b
theorem era_same {H : Hp} {p : Addr} : era H p p = none := if_pos rfl
theorem era_ne {H : Hp} {p b : Addr} (h : b ≠ p) : era H p b = H b := if_neg h
theorem era_upd {H : Hp} {p : Addr} {o : HO} (h : H p = some o) : upd (era H p) p o = H := by
  funext b
  by_cases hb : b = p
  · rw [hb, upd_same, h]
  · rw [upd_ne hb, era_ne hb]
theorem Wd.era {F H : Hp} {as : List Addr} {μ : Mu} (W : Wd F H as μ) {p : Addr} (nF : F p = none) (na : p ∉ as) : Wd F (Sy.era H p) as μ := by
  refine ⟨fun b u e => ?_, W.nd, W.len, fun j a c ha hc => ?_, fun a ha => ?_⟩
  · rw [era_ne (ne_of_none e nF)]; exact W.sub b u e
  · have hap : a ≠ p := fun z => na (by rw [← z]; exact List.mem_of_getElem? ha)
    have k := W.ok j a c ha hc
    cases c with
    | dead => trivial
    | lst ds =>
      obtain ⟨k1, vs, k2, k3⟩ := k
      exact ⟨k1, vs, by rw [era_ne hap]; exact k2, k3⟩
  · have hap : a ≠ p := fun z => na (by rw [← z]; exact ha)
    rw [era_ne hap]
    exact W.seen a ha
theorem Go.era {F H F' H' : Hp} {as as' : List Addr} (g : Go F H as F' H' as') {p : Addr} (np : H p = none) : Go F H as F' (Sy.era H' p) as' :=
  ⟨fun a u h na => by rw [era_ne (ne_of_none h np)]; exact g.keep a u h na, fun a h => by
    by_cases ha : a = p
    · rw [ha]; exact np
    · rw [era_ne ha] at h; exact g.dom a h, g.sub, g.new, g.pre⟩
theorem Wd.nofree {F H : Hp} {as : List Addr} {μ : Mu} (W : Wd F H as μ) {p : Addr} (np : H p = none) : F p = none ∧ p ∉ as := by
  refine ⟨?_, fun z => W.seen p z np⟩
  cases q : F p with
  | none => rfl
  | some u => rw [W.sub p u q] at np; cases np
theorem EnvOk.set0 {F : Hp} {as : List Addr} {env : En} {σ : L2.St} (h : EnvOk F as env σ) (i : Nat) : EnvOk F as (env.set i none) (σ.set i none) := by
  refine ⟨by rw [List.length_set, List.length_set, h.1], fun k sv' e => ?_⟩
  rw [List.getElem?_set] at e ⊢
  by_cases hk : i = k
  · subst hk
    rw [if_pos rfl] at e
    split at e
    · exact nomatch e
    · exact nomatch e
  · rw [if_neg hk] at e ⊢
    exact h.2 k sv' e

/-! ### comprehensions -/
/-- in every block of the comprehension -/
def AllB (X : Cx) (scope : Scope) (P : Cx → Prop) : Prop := ∀ (s : Shared) (H : Hp) (C : Addr) (cl : List (Str × Addr)) (fp : List Addr), P (X.blk s H scope (compEnvC scope cl C X.env) fp)
def STs (X : Cx) (ifs : List Expr) (env : En) (μ : Mu) (b : Bool) (μ' : Mu) : Prop := PTs X ifs (rdT env μ b μ')
section
variable {X : Cx} {env : En} {μ μ1 μ2 μ' : Mu} {sv s1 s2 : SV} {a b c e elt iter : Expr} {ifs : List Expr} {rest : List Stmt} {R : Out → Prop} {pos p0 p1 spos : Pos} {x y : Str} {scope : Scope} {ds out : List PyData} {S : Mu → Prop}
theorem sts_nil : STs X [] env μ true μ := ⟨fun pins s σ H Q I ⟨F, as, he, W, k⟩ => pts_nil.run pins s σ H Q I (k F H as (Go.refl F H as) W)⟩
theorem sts_one {q : Bool} (h : ST X c env μ q μ') : STs X [c] env μ q μ' := pts_one h
/-- one turn of a comprehension -/
def Turn1 (X : Cx) (scope : Scope) (elt : Expr) (ifs : List Expr) (env : En) (I : Nat → List PyData → Mu → Prop) (i k : Nat) (d : PyData) (acc : List PyData) (m : Mu) : Prop :=
  ∃ q m1, AllB X scope (fun B => STs B ifs (env.set i (some (.dat d))) m q m1) ∧
    (q = true → ∃ d' m2, I (k + 1) (acc ++ [d']) m2 ∧ AllB X scope fun B => SE B elt (env.set i (some (.dat d))) m1 (.dat d') m2) ∧ (q = false → I (k + 1) acc m1)
def rdTT (X : Cx) (scope : Scope) (ifs : List Expr) : TT := fun σ H Q => ∃ env m q m1, AllB X scope (fun B => STs B ifs env m q m1) ∧ rdT env m q m1 σ H Q
def rdEE (X : Cx) (scope : Scope) (elt : Expr) : TE := fun σ H Q => ∃ env m sv m1, AllB X scope (fun B => SE B elt env m sv m1) ∧ rdE env m sv m1 σ H Q
theorem lc_read (i : Nat) (I : Nat → List PyData → Mu → Prop) (hz : ds.length ≤ sizeLine) (h0 : I 0 [] μ1) (hS : ∀ k acc m, I k acc m → S m)
    (hs : ∀ k d acc m, ds[k]? = some d → I k acc m → Turn1 X scope elt ifs env I i k d acc m) (hd : ∀ acc m, I ds.length acc m → acc = out ∧ m = μ2) (fin : Fi (.newL out) μ2 sv μ') :
    ∀ σ H Q, rdE env μ sv μ' σ H Q → tLc (rdI env μ ds μ1 S) (gName i) (rdTT X scope ifs) (rdEE X scope elt) [i] σ H Q := by
  intro σ H Q ⟨F, as, hE, W, k⟩
  refine ⟨F, as, hE, W, fun J G Y F1 H1 as1 g1 W1 w hG hY D nD => ?_⟩
  have nH : H D = none := g1.dom D nD
  refine lc_it (g := gName i) (tt := rdTT X scope ifs) (te := rdEE X scope elt) w (fun k H2 => ∃ acc m F2 as2 vs, I k acc m ∧ acc.length ≤ k ∧ Wd F2 H2 as2 m ∧ Go F1 H1 as1 F2 H2 as2 ∧ H2 D = some (.lst vs) ∧ F2 D = none ∧ D ∉ as2 ∧ DVs F2 vs acc) ?_ ?_ ?_ ?_
  · obtain ⟨f1, f2⟩ := W1.nofree nD
    exact ⟨[], μ1, F1, as1, [], h0, Nat.le_refl _, W1.off f1 f2, (Go.refl _ _ _).off nD, upd_same, f1, f2, .nil⟩
  · rintro k2 H2 _ ⟨acc, m, F2, as2, vs, i2, l2, W2, g2, hD, nF, na, dv⟩
    exact hG F2 H2 as2 m g2 W2 (hS k2 acc m i2)
  · rintro k2 v H2 H' hk ⟨acc, m, F2, as2, vs, i2, l2, W2, g2, hD, nF, na, dv⟩ y
    obtain ⟨rfl, d, hd1, dvd⟩ := hY k2 F2 H2 as2 m v H' g2 W2 (hS k2 acc m i2) y hk
    obtain ⟨q, m1, ht, hT, hF⟩ := hs k2 d acc m hd1 i2
    have env2 : EnvOk F2 as2 (env.set i (some (.dat d))) ((wipe σ [i]).set i (some v)) := by
      have e1 := ((hE.mono g1).mono g2).set (sv := .dat d) dvd i
      show EnvOk F2 as2 _ ((σ.set i none).set i (some v))
      rw [List.set_set]
      exact e1
    refine ⟨?_, env.set i (some (.dat d)), m, q, m1, ht, F2, as2, env2, W2, fun F3 H3 as3 g3 W3 => ?_⟩
    · show ((σ.set i none).set i (some v)).set i none = σ.set i none
      rw [List.set_set, List.set_set]
    · obtain ⟨hD3, nF3, na3⟩ := g3.apart hD nF na
      cases q with
      | true =>
        obtain ⟨d', m2, i3, he⟩ := hT rfl
        refine ⟨env.set i (some (.dat d)), m1, .dat d', m2, he, F3, as3, env2.mono g3, W3, fun u F4 H4 as4 g4 W4 r4 => ?_⟩
        obtain ⟨hD4, nF4, na4⟩ := g4.apart hD3 nF3 na3
        refine ⟨vs, hD4, ?_, acc ++ [d'], m2, F4, as4, vs ++ [u], i3, ?_, W4.off nF4 na4, ((g2.trans g3).trans g4).off nD, upd_same, nF4, na4, ?_⟩
        · rw [dv.length]; omega
        · rw [List.length_append]
          show acc.length + 1 ≤ k2 + 1
          omega
        · exact ((dv.mono g3.sub).mono g4.sub).append (.cons r4 .nil)
      | false => exact ⟨acc, m1, F3, as3, vs, hF rfl, by omega, W3, g2.trans g3, hD3, nF3, na3, dv.mono g3.sub⟩
  · rintro H2 ⟨acc, m, F2, as2, vs, i2, l2, W2, g2, hD, nF, na, dv⟩
    obtain ⟨rfl, rfl⟩ := hd acc m i2
    have r := fin.run (W2.era nF na) (Q := Q) fun v F3 H3 as3 g3 W3 r3 => k v F3 H3 as3 ((g1.trans (g2.era nD)).trans g3) W3 r3
    have z := r D vs era_same dv
    rw [era_upd hD] at z
    exact z
theorem se_lc (i : Nat) (I : Nat → List PyData → Mu → Prop) (hc : X.calm = true) (hN : X.N.Nodup) (hi : SI X (.Name x p1) iter env μ ds μ1 S) (ok : BlkOk X.N X.env.scope scope [(x, i)]) (hz : ds.length ≤ sizeLine) (h0 : I 0 [] μ1) (hS : ∀ k acc m, I k acc m → S m)
    (hs : ∀ k d acc m, ds[k]? = some d → I k acc m → Turn1 X scope elt ifs env I i k d acc m) (hd : ∀ acc m, I ds.length acc m → acc = out ∧ m = μ2) (fin : Fi (.newL out) μ2 sv μ')
    (hn : X.N[i]? = some x := by rfl) (hl : AllB X scope (fun B => Loc B.env.scope x) := by intro _ _ _ _ _; first | exact .inl rfl | exact .inr rfl)
    (hfn : AllB X scope (fun B => B.fn x = true ∨ B.env.scope.names.lookup x = some .local) := by intro _ _ _ _ _; first | exact .inl rfl | exact .inr rfl)
    (hf : ∀ x, foldedSetIterable iter X.env x = pure x := by intro _; rfl) : SE X (.ListComp elt [⟨.Name x p1, iter, ifs, 0⟩] scope pos) env μ sv μ' := by
  refine PE.imp (pe_lc (own := [(x, i)]) (g := gName i) (tt := rdTT X scope ifs) (te := rdEE X scope elt) hc hN hi ok ?_ ?_ ?_ hf) (lc_read i I hz h0 hS hs hd fin)
  · exact fun s H C cl fp => pg_name hN hn (hl s H C cl fp) (hfn s H C cl fp)
  · exact fun s H C cl fp => ⟨fun pins s2 σ H2 Q J ⟨env, m, q, m1, h, z⟩ => (h s H C cl fp).run pins s2 σ H2 Q J z⟩
  · exact fun s H C cl fp => ⟨fun pins s2 σ H2 Q J ⟨env, m, q, m1, h, z⟩ => (h s H C cl fp).run pins s2 σ H2 Q J z⟩
/-- name = [..] -/
theorem sss_setLc (j : Nat) (i : Nat) (I : Nat → List PyData → Mu → Prop) (hc : X.calm = true) (hN : X.N.Nodup) (hi : SI X (.Name x p1) iter env μ ds μ1 S) (ok : BlkOk X.N X.env.scope scope [(x, i)]) (hz : ds.length ≤ sizeLine) (h0 : I 0 [] μ1) (hS : ∀ k acc m, I k acc m → S m)
    (hs : ∀ k d acc m, ds[k]? = some d → I k acc m → Turn1 X scope elt ifs env I i k d acc m) (hd : ∀ acc m, I ds.length acc m → acc = out ∧ m = μ2) (fin : Fi (.newL out) μ2 sv μ')
    (hsw : swapsWith (.ListComp elt [⟨.Name x p1, iter, ifs, 0⟩] scope pos) (some (.Name y p0)) spos.line X.env = pure true) (hr : SSs X rest (env.set j (some sv)) μ' R)
    (hy : X.N[j]? = some y := by rfl) (hyl : X.env.scope.names.lookup y = some .local := by rfl)
    (hn : X.N[i]? = some x := by rfl) (hl : AllB X scope (fun B => Loc B.env.scope x) := by intro _ _ _ _ _; first | exact .inl rfl | exact .inr rfl)
    (hfn : AllB X scope (fun B => B.fn x = true ∨ B.env.scope.names.lookup x = some .local) := by intro _ _ _ _ _; first | exact .inl rfl | exact .inr rfl)
    (hf : ∀ x, foldedSetIterable iter X.env x = pure x := by intro _; rfl) : SSs X (.Assign [.Name y p0] (.ListComp elt [⟨.Name x p1, iter, ifs, 0⟩] scope pos) spos :: rest) env μ R := by
  refine sss_cons (PS.imp (ps_setLc (i := j) (own := [(x, i)]) (g := gName i) (tt := rdTT X scope ifs) (te := rdEE X scope elt) hc hN hy hyl hsw hi ok ?_ ?_ ?_ hf) fun D σ H ⟨F, as, hE, W, kn, _⟩ => ?_)
  · exact fun s H C cl fp => pg_name hN hn (hl s H C cl fp) (hfn s H C cl fp)
  · exact fun s H C cl fp => ⟨fun pins s2 σ H2 Q J ⟨env, m, q, m1, h, z⟩ => (h s H C cl fp).run pins s2 σ H2 Q J z⟩
  · exact fun s H C cl fp => ⟨fun pins s2 σ H2 Q J ⟨env, m, q, m1, h, z⟩ => (h s H C cl fp).run pins s2 σ H2 Q J z⟩
  · refine lc_read i I hz h0 hS hs hd fin σ H _ ⟨F, as, hE, W, fun v F1 H1 as1 g1 W1 r1 => ?_⟩
    exact kn _ μ' _ F1 H1 as1 hr g1 ((hE.mono g1).set r1 j) W1

/-! ### methods of lists -/
theorem cell_at {F H : Hp} {as : List Addr} {j : Nat} {a : Addr} (W : Wd F H as μ) (ha : as[j]? = some a) (hj : μ[j]? = some (.lst ds)) : F a = none ∧ ∃ vs, H a = some (.lst vs) ∧ DVs F vs ds := W.ok j a _ ha hj
theorem se_append {j : Nat} {d : PyData} {apos : Pos} (ho : SE X a env μ (.cell j) μ1) (hv : SE X e env μ1 (.dat d) μ2) (h1 : ∃ ds0, μ1[j]? = some (.lst ds0)) (hj : μ2[j]? = some (.lst ds)) (hz : ds.length < sizeLine)
    (hbase : attributeBase a "append" X.env (eval a X.env) = eval a X.env := by rfl) (hline : (apos.endLine == pos.line) = true := by rfl)
    (hs : starEach [e] X.env = [(false, eval e X.env)] := by rfl) : SE X (.Call (.Attribute a "append" apos) [e] [] pos) env μ (.dat .none) (μ2.set j (.lst (ds ++ [d]))) := by
  refine PE.imp (pe_bm PySem.F.plainAttrs_list PySem.F.slot_list_append PySem.F.type_list_append mt_append ho (pa_cons hv pa_nil hs) hbase (by rw [hs]; rfl) hline hs (by rfl)) fun σ H Q ⟨F, as, hE, W, k⟩ => ?_
  refine ⟨F, as, hE, W, fun v F1 H1 as1 g1 W1 ⟨p, hp, ev⟩ => ?_⟩
  subst ev
  obtain ⟨ds0, h1⟩ := h1
  obtain ⟨_, vs0, q0, _⟩ := cell_at W1 hp h1
  refine ⟨.inl ⟨rfl, vs0, .inl (.inl q0)⟩, F1, as1, hE.mono g1, W1, fun u F2 H2 as2 g2 W2 r2 => ?_⟩
  obtain ⟨_, vs, q, dv⟩ := cell_at W2 (g2.at hp) hj
  have z := W2.setC (g2.at hp) hj (dv.append (.cons r2 .nil))
  exact ⟨p, vs, u, rfl, rfl, q, by rw [dv.length]; exact hz, k _ _ _ as2 ((g1.trans g2).trans z.2) z.1 .non⟩
theorem se_reverse {j : Nat} {apos : Pos} (ho : SE X a env μ (.cell j) μ1) (hj : μ1[j]? = some (.lst ds))
    (hbase : attributeBase a "reverse" X.env (eval a X.env) = eval a X.env := by rfl) (hline : (apos.endLine == pos.line) = true := by rfl) : SE X (.Call (.Attribute a "reverse" apos) [] [] pos) env μ (.dat .none) (μ1.set j (.lst ds.reverse)) := by
  refine PE.imp (pe_bm0 PySem.F.plainAttrs_list PySem.F.slot_list_reverse PySem.F.type_list_reverse mt_reverse ho hbase hline) fun σ H Q ⟨F, as, hE, W, k⟩ => ?_
  refine ⟨F, as, hE, W, fun v F1 H1 as1 g1 W1 ⟨p, hp, ev⟩ => ?_⟩
  subst ev
  obtain ⟨_, vs, q, dv⟩ := cell_at W1 hp hj
  have z := W1.setC hp hj dv.reverse
  exact ⟨.inl ⟨rfl, vs, .inl (.inl q)⟩, p, vs, rfl, rfl, q, k _ _ _ as1 (g1.trans z.2) z.1 .non⟩
theorem se_clear {j : Nat} {apos : Pos} (ho : SE X a env μ (.cell j) μ1) (hj : μ1[j]? = some (.lst ds))
    (hbase : attributeBase a "clear" X.env (eval a X.env) = eval a X.env := by rfl) (hline : (apos.endLine == pos.line) = true := by rfl) : SE X (.Call (.Attribute a "clear" apos) [] [] pos) env μ (.dat .none) (μ1.set j (.lst [])) := by
  refine PE.imp (pe_bm0 PySem.F.plainAttrs_list PySem.F.slot_list_clear PySem.F.type_list_clear mt_clear ho hbase hline) fun σ H Q ⟨F, as, hE, W, k⟩ => ?_
  refine ⟨F, as, hE, W, fun v F1 H1 as1 g1 W1 ⟨p, hp, ev⟩ => ?_⟩
  subst ev
  obtain ⟨_, vs, q, dv⟩ := cell_at W1 hp hj
  have z := W1.setC (ds := []) (vs := []) hp hj .nil
  exact ⟨.inl ⟨rfl, vs, .inl (.inl q)⟩, p, vs, rfl, rfl, q, k _ _ _ as1 (g1.trans z.2) z.1 .non⟩
theorem se_pop {j : Nat} {d : PyData} {apos : Pos} (ho : SE X a env μ (.cell j) μ1) (hj : μ1[j]? = some (.lst ds)) (hd : ds[ds.length - 1]? = some d)
    (hbase : attributeBase a "pop" X.env (eval a X.env) = eval a X.env := by rfl) (hline : (apos.endLine == pos.line) = true := by rfl) : SE X (.Call (.Attribute a "pop" apos) [] [] pos) env μ (.dat d) (μ1.set j (.lst ds.dropLast)) := by
  refine PE.imp (pe_bm0 PySem.F.plainAttrs_list PySem.F.slot_list_pop PySem.F.type_list_pop mt_pop ho hbase hline) fun σ H Q ⟨F, as, hE, W, k⟩ => ?_
  refine ⟨F, as, hE, W, fun v F1 H1 as1 g1 W1 ⟨p, hp, ev⟩ => ?_⟩
  subst ev
  obtain ⟨_, vs, q, dv⟩ := cell_at W1 hp hj
  obtain ⟨u, hu, du⟩ := dv.get hd
  have z := W1.setC hp hj dv.dropLast
  exact ⟨.inl ⟨rfl, vs, .inl (.inl q)⟩, p, vs, u, rfl, rfl, q, by rw [dv.length]; exact hu, k _ _ _ as1 (g1.trans z.2) z.1 du⟩
theorem se_insert {j : Nat} {i : Int} {d : PyData} {apos : Pos} (ho : SE X a env μ (.cell j) μ1) (ha : SA X [b, e] env μ1 [.dat (.int i), .dat d] μ2) (h1 : ∃ ds0, μ1[j]? = some (.lst ds0)) (hj : μ2[j]? = some (.lst ds)) (hz : ds.length < sizeLine) (hi : 0 ≤ i ∧ i < 2 ^ 63)
    (hbase : attributeBase a "insert" X.env (eval a X.env) = eval a X.env := by rfl) (hline : (apos.endLine == pos.line) = true := by rfl)
    (hs : starEach [b, e] X.env = [(false, eval b X.env), (false, eval e X.env)] := by rfl) (hs1 : starEach [e] X.env = [(false, eval e X.env)] := by rfl) :
    SE X (.Call (.Attribute a "insert" apos) [b, e] [] pos) env μ (.dat .none) (μ2.set j (.lst (ds.take i.toNat ++ [d] ++ ds.drop i.toNat))) := by
  refine PE.imp (pe_bm PySem.F.plainAttrs_list PySem.F.slot_list_insert PySem.F.type_list_insert mt_insert ho ha hbase (by rw [hs]; rfl) hline (by rw [hs, hs1]) (by rw [hs1]; rfl)) fun σ H Q ⟨F, as, hE, W, k⟩ => ?_
  refine ⟨F, as, hE, W, fun v F1 H1 as1 g1 W1 ⟨p, hp, ev⟩ => ?_⟩
  subst ev
  obtain ⟨ds0, h1⟩ := h1
  obtain ⟨_, vs0, q0, _⟩ := cell_at W1 hp h1
  refine ⟨.inl ⟨rfl, vs0, .inl (.inl q0)⟩, F1, as1, hE.mono g1, W1, fun us F2 H2 as2 g2 W2 r2 => ?_⟩
  cases r2 with
  | cons r t =>
    cases t with
    | cons r' t' =>
      cases t'
      cases r
      obtain ⟨_, vs, q, dv⟩ := cell_at W2 (g2.at hp) hj
      have z := W2.setC (g2.at hp) hj (((dv.take i.toNat).append (.cons r' .nil)).append (dv.drop i.toNat))
      exact ⟨p, vs, i, _, rfl, rfl, q, by rw [dv.length]; exact hz, hi.1, hi.2, k _ _ _ as2 ((g1.trans g2).trans z.2) z.1 .non⟩
end
end Sy

/-! Sy6: contracts of defs, calls. -/
namespace Sy
open PySem PySem.Spec PyProof.Rows L2

/-- what a def promises: from arguments and cells to a value and cells -/
def spC (C : List SV → Mu → SV → Mu → Prop) : Sp := fun vs H Q _ => ∃ F as args μ sv μ', C args μ sv μ' ∧ RAll F as args vs ∧ Wd F H as μ ∧
  ∀ v F' H' as', Go F H as F' H' as' → Wd F' H' as' μ' → RSV F' as' sv v → Q v H'

/-- from a body's end to the promise: local cells are dropped, a local list goes out -/
inductive Ret : SV → Mu → SV → Mu → Prop
  | same {sv : SV} {μ : Mu} : Ret sv μ sv μ
  | drop {d : PyData} {μ ext : Mu} : Ret (.dat d) (μ ++ ext) (.dat d) μ
  | frz {j : Nat} {ds : List PyData} {μ ext : Mu} : (μ ++ ext)[j]? = some (.lst ds) → μ.length ≤ j → Ret (.cell j) (μ ++ ext) (.dat (.list ds)) μ
  | fresh {j : Nat} {ds : List PyData} {μ ext : Mu} : (μ ++ ext)[j]? = some (.lst ds) → μ.length ≤ j → Ret (.cell j) (μ ++ ext) (.cell μ.length) (μ ++ [.lst ds])

theorem take_at {α : Type} {l : List α} {n j : Nat} {x : α} (h : (l.take n)[j]? = some x) : l[j]? = some x ∧ j < n := by
  rw [List.getElem?_take] at h
  split at h
  · exact ⟨h, by assumption⟩
  · exact nomatch h
theorem Wd.cut {F H : Hp} {as : List Addr} {μ ext : Mu} (W : Wd F H as (μ ++ ext)) : Wd F H (as.take μ.length) μ := by
  refine ⟨W.sub, List.Sublist.nodup (List.take_sublist _ _) W.nd, ?_, fun j a c ha hc => ?_, fun a ha => W.seen a (List.mem_of_mem_take ha)⟩
  · have := W.len
    rw [List.length_append] at this
    rw [List.length_take]
    omega
  · obtain ⟨h1, h2⟩ := take_at ha
    exact W.ok j a c h1 (by rw [List.getElem?_append_left h2]; exact hc)
theorem Go.cut {F H F' H' : Hp} {as as' : List Addr} (g : Go F H as F' H' as') {n : Nat} (h : as.length ≤ n) : Go F H as F' H' (as'.take n) := by
  obtain ⟨more, e, nw⟩ := g.pre
  refine ⟨g.keep, g.dom, g.sub, g.new, more.take (n - as.length), ?_, fun a ha => nw a (List.mem_of_mem_take ha)⟩
  rw [e, List.take_append, List.take_of_length_le h]
/-- a local cell becomes stable -/
theorem Wd.frz {F H : Hp} {as : List Addr} {μ ext : Mu} {j : Nat} {a : Addr} {ds : List PyData} (W : Wd F H as (μ ++ ext)) (ha : as[j]? = some a) (hj : (μ ++ ext)[j]? = some (.lst ds)) (hl : μ.length ≤ j) :
    ∃ vs, H a = some (.lst vs) ∧ F a = none ∧ Wd (upd F a (.lst vs)) H (as.take μ.length) μ ∧ DV (upd F a (.lst vs)) (.ref a) (.list ds) ∧ Same F (upd F a (.lst vs)) := by
  obtain ⟨nF, vs, hv, dv⟩ := W.ok j a _ ha hj
  have sF : Same F (upd F a (.lst vs)) := fun b u e => by rw [upd_ne (ne_of_none e nF)]; exact e
  refine ⟨vs, hv, nF, ⟨fun b u e => ?_, W.cut.nd, W.cut.len, fun k b c hb hc => ?_, W.cut.seen⟩, .lst upd_same (dv.mono sF), sF⟩
  · by_cases hb : b = a
    · subst hb; rw [upd_same] at e; rw [hv]; exact e
    · rw [upd_ne hb] at e; exact W.sub b u e
  · have kk := W.cut.ok k b c hb hc
    have hba : b ≠ a := fun z => by
      subst z
      have h1 := (take_at hb)
      have := nodup_inj W.nd h1.1 ha
      omega
    cases c with
    | dead => trivial
    | lst es =>
      obtain ⟨k1, ws, k2, k3⟩ := kk
      exact ⟨by rw [upd_ne hba]; exact k1, ws, k2, k3.mono sF⟩
theorem Ret.run {sv2 sv : SV} {μ2 μ' μ0 : Mu} (r : Ret sv2 μ2 sv μ') {F H F2 H2 : Hp} {as as2 : List Addr} {v : V} (W0 : Wd F H as μ0) (hl : μ0.length ≤ μ'.length) (hc : ∀ j, sv = .cell j → μ0.length ≤ j) (g : Go F H as F2 H2 as2) (W : Wd F2 H2 as2 μ2) (rv : RSV F2 as2 sv2 v) : ∃ F3 as3, Go F H as F3 H2 as3 ∧ Wd F3 H2 as3 μ' ∧ RSV F3 as3 sv v := by
  have l0 := W0.len
  cases r with
  | same => exact ⟨F2, as2, g, W, rv⟩
  | drop => exact ⟨F2, _, g.cut (by omega), W.cut, rv⟩
  | @frz j ds _ ext hj hle =>
    obtain ⟨a, ha, rfl⟩ := rv
    obtain ⟨vs, hv, nF, W3, d3, sF⟩ := W.frz ha hj hle
    have gc := g.cut (n := μ'.length) (by omega)
    refine ⟨_, _, ⟨gc.keep, gc.dom, gc.sub.trans sF, fun b h h' => ?_, gc.pre⟩, W3, d3⟩
    by_cases hb : b = a
    · subst hb
      obtain ⟨more, e, nw⟩ := g.pre
      rw [e, List.getElem?_append_right (by omega)] at ha
      exact .inl (nw b (List.mem_of_getElem? ha))
    · rw [upd_ne hb] at h'; exact g.new b h h'
  | @fresh j ds μ ext hj hle =>
    obtain ⟨a, ha, rfl⟩ := rv
    obtain ⟨nF, vs, hv, dv⟩ := W.ok j a _ ha hj
    have hlen : (as2.take μ.length).length = μ.length := W.cut.len
    have hm : μ0.length ≤ μ.length := hc _ rfl
    have gc := g.cut (n := μ.length) (by omega)
    obtain ⟨more, e, nw⟩ := gc.pre
    obtain ⟨more2, e2, nw2⟩ := g.pre
    have na : a ∉ as2.take μ.length := fun z => by
      obtain ⟨k, hk⟩ := List.getElem?_of_mem z
      have h1 := take_at hk
      have := nodup_inj W.nd h1.1 ha
      omega
    have fresh0 : H a = none := by
      have ha' := ha
      rw [e2, List.getElem?_append_right (by omega)] at ha'
      exact nw2 a (List.mem_of_getElem? ha')
    refine ⟨F2, as2.take μ.length ++ [a], ⟨gc.keep, gc.dom, gc.sub, gc.new, more ++ [a], by rw [e, List.append_assoc], fun b hb => ?_⟩, ⟨W.sub, ?_, by rw [List.length_append, List.length_append, hlen]; rfl, fun k b c hb hk => ?_, fun b hb => ?_⟩, a, ?_, rfl⟩
    · rcases List.mem_append.mp hb with z | z
      · exact nw b z
      · rw [List.mem_singleton.mp z]; exact fresh0
    · rw [List.nodup_append]
      exact ⟨W.cut.nd, by simp, fun b hb b' hb' z => na (by rw [List.mem_singleton.mp hb'] at z; rw [← z]; exact hb)⟩
    · by_cases hk2 : k < μ.length
      · rw [List.getElem?_append_left (by omega)] at hb
        rw [List.getElem?_append_left hk2] at hk
        exact W.cut.ok k b c hb hk
      · rw [List.getElem?_append_right (by omega)] at hb hk
        rw [hlen] at hb
        have e0 : k - μ.length = 0 := by
          have := (List.getElem?_eq_some_iff.mp hb).1
          simp at this
          omega
        rw [e0] at hb hk
        simp at hb hk
        subst hb hk
        exact ⟨nF, vs, hv, dv⟩
    · rcases List.mem_append.mp hb with z | z
      · exact W.cut.seen b z
      · rw [List.mem_singleton.mp z, hv]; exact fun q => nomatch q
    · rw [List.getElem?_append_right (by omega), hlen, Nat.sub_self]; rfl
/-- the outcomes that make a promise true -/
def RetTo (sv : SV) (μ' : Mu) : Out → Prop
  | .ret s2 m2 => Ret s2 m2 sv μ'
  | .next _ m2 => Ret (.dat .none) m2 sv μ'
  | _ => False
theorem env_start {F : Hp} {as : List Addr} : ∀ {args : List SV} {vs : List V}, RAll F as args vs → ∀ n : Nat, EnvOk F as (args.map some ++ List.replicate (n - args.length) none) (vs.map some ++ List.replicate (n - vs.length) none) := by
  intro args vs r n
  have hl : args.length = vs.length := Paired.length r
  refine ⟨by simp [hl], fun i sv e => ?_⟩
  by_cases hi : i < args.length
  · rw [List.getElem?_append_left (by simpa using hi), List.getElem?_map] at e
    cases ea : args[i]? with
    | none => rw [ea] at e; exact nomatch e
    | some s =>
      rw [ea] at e
      obtain rfl : s = sv := Option.some.inj (Option.some.inj e)
      have : ∀ {l : List SV} {k : List V} {i : Nat}, RAll F as l k → l[i]? = some s → ∃ v, k[i]? = some v ∧ RSV F as s v := by
        intro l k i h
        induction h generalizing i with
        | nil => intro z; simp at z
        | cons h1 h2 ih =>
          intro z
          cases i with
          | zero => simp at z; subst z; exact ⟨_, rfl, h1⟩
          | succ i => obtain ⟨v, q1, q2⟩ := ih (i := i) (by simpa using z); exact ⟨v, by simpa using q1, q2⟩
      obtain ⟨v, q1, q2⟩ := this r ea
      refine ⟨v, ?_, q2⟩
      rw [List.getElem?_append_left (by simpa [← hl] using hi), List.getElem?_map, q1]
      rfl
  · rw [List.getElem?_append_right (by simpa using hi)] at e
    rw [List.getElem?_replicate] at e
    split at e
    · exact nomatch e
    · exact nomatch e
/-- the arity, and no cell is lost -/
def CtOk (C : List SV → Mu → SV → Mu → Prop) (n : Nat) : Prop := ∀ args μ sv μ', C args μ sv μ' → args.length = n ∧ μ.length ≤ μ'.length ∧ ∀ j, sv = .cell j → μ.length ≤ j
section
variable {w : World} {P : Program} {base : Heap} {mg : Str → Option Value} {K : PySem.W.Frag}
abbrev bodyX (P : Program) (w : World) (K : PySem.W.Frag) (mg : Str → Option Value) (base : Heap) (N : List Str) (qual : Str) (st : Stmt) (f : Addr) (cdv : Value) (A : Around) (outer : List Env) (s : Shared) (H : Hp) (E : XK) : Cx :=
  (cxOf CX0 P w K mg base N qual (defScope st) f cdv A outer s H E).nox
theorem body_run {X : Cx} {body : List Stmt} {N ps : List Str} {C : List SV → Mu → SV → Mu → Prop} {vs : List V} {H : Hp} {Q : VK} {E : XK} (ct : CtOk C ps.length) (h : spC C vs H Q E)
    (hb : ∀ args μ sv μ', C args μ sv μ' → SSs X body (args.map some ++ List.replicate (N.length - args.length) none) μ (RetTo sv μ')) :
    ∃ t, PSs X body t ∧ t { nx := fun _ H' => Q .non H', rt := Q } (start N vs) H := by
  obtain ⟨F, as, args, μ, sv, μ', hC, r, W, k⟩ := h
  obtain ⟨c1, c2, c3⟩ := ct _ _ _ _ hC
  refine ⟨_, hb args μ sv μ' hC, F, as, env_start r N.length, W, ?_, ?_, ?_, ?_⟩
  · intro env2 m2 σ2 F2 H2 as2 h2 g2 e2 W2
    obtain ⟨F3, as3, g3, W3, r3⟩ := Ret.run h2 W c2 c3 g2 W2 .non
    exact k _ F3 H2 as3 g3 W3 r3
  · intro s2 m2 v F2 H2 as2 h2 g2 W2 r2
    obtain ⟨F3, as3, g3, W3, r3⟩ := Ret.run h2 W c2 c3 g2 W2 r2
    exact k _ F3 H2 as3 g3 W3 r3
  · exact fun _ _ _ _ _ _ h => h.elim
  · exact fun _ _ _ _ _ _ h => h.elim
theorem okC {x qual : Str} {st : Stmt} {f : Addr} {fd : FuncData} {N ps : List Str} {k : Nat} {C : List SV → Mu → SV → Mu → Prop} (F : Fun K x qual st f fd) (S : FnScope N ps (defScope st)) (ct : CtOk C ps.length)
    (hb : ∀ (cdv : Value) (A : Around) (outer : List Env) (s : Shared) (H : Hp) (E : XK), Room k (A.deeper (envOfC qual (defScope st) s.heap.objs.size f cdv)) → ∀ args μ sv μ', C args μ sv μ' →
      SSs (bodyX P w K mg base N qual st f cdv A outer s H E) (defBody st) (args.map some ++ List.replicate (N.length - args.length) none) μ (RetTo sv μ')) : FnOk P w K mg base CX0 (k + 1) f fd ps (spC C) := by
  refine F.ok S (fun vs H Q E ⟨F, as, args, μ, sv, μ', hC, r, _⟩ => ?_) fun cdv A outer s H vs Q E hr h => body_run ct h (hb cdv A outer s H E hr)
  rw [← (ct _ _ _ _ hC).1]
  exact (Paired.length r).symm
theorem okCG {x qual : Str} {st : Stmt} {f : Addr} {fd : FuncData} {N ps : List Str} {k : Nat} {C : List SV → Mu → SV → Mu → Prop} (F : Fun K x qual st f fd) (S : FnScope N ps (defScope st)) (ct : CtOk C ps.length)
    (hb : ∀ (cdv : Value) (A : Around) (outer : List Env) (s : Shared) (H : Hp) (E : XK), A.guards = some [] → Room k (A.deeper (envOfC qual (defScope st) s.heap.objs.size f cdv)) → ∀ args μ sv μ', C args μ sv μ' →
      SSs (bodyX P w K mg base N qual st f cdv A outer s H E) (defBody st) (args.map some ++ List.replicate (N.length - args.length) none) μ (RetTo sv μ')) : Gd.FnG P w K mg base CX0 (k + 1) f fd ps (spC C) := by
  refine Gd.okG F S (fun vs H Q E ⟨F, as, args, μ, sv, μ', hC, r, _⟩ => ?_) fun cdv A outer s H vs Q E gA hr h => body_run ct h (hb cdv A outer s H E gA hr)
  rw [← (ct _ _ _ _ hC).1]
  exact (Paired.length r).symm
/-- a def of the module by its name -/
structure FnS (P : Program) (w : World) (K : PySem.W.Frag) (mg : Str → Option Value) (base : Heap) (k : Nat) (x : Str) (C : List SV → Mu → SV → Mu → Prop) : Prop where
  ex : ∃ f fd ps, FnOk P w K mg base CX0 k f fd ps (spC C) ∧ mg x = some (.ref f) ∧ PySem.W.keepIn K (.ref f) = true ∧ Binds K fd ps []
structure FnSG (P : Program) (w : World) (K : PySem.W.Frag) (mg : Str → Option Value) (base : Heap) (k : Nat) (x : Str) (C : List SV → Mu → SV → Mu → Prop) : Prop where
  ex : ∃ f fd ps, Gd.FnG P w K mg base CX0 k f fd ps (spC C) ∧ mg x = some (.ref f) ∧ PySem.W.keepIn K (.ref f) = true ∧ Binds K fd ps []
theorem FnS.g {k : Nat} {x : Str} {C : List SV → Mu → SV → Mu → Prop} (h : FnS P w K mg base k x C) : FnSG P w K mg base k x C :=
  let ⟨f, fd, ps, h1, h2⟩ := h.ex; ⟨f, fd, ps, Gd.FnG.of h1, h2⟩
end
section
variable {X : Cx} {env : En} {μ μ1 μ' : Mu} {sv : SV} {e : Expr} {es : List Expr} {svs : List SV} {pos p0 : Pos} {x : Str} {k j : Nat} {C : List SV → Mu → SV → Mu → Prop}
theorem call_read {t : TA} (ht : t = rdA env μ svs μ1) (hC : C svs μ1 sv μ') : ∀ σ H Q, rdE env μ sv μ' σ H Q → tCall (spC C) [] E0 t σ H Q := by
  subst ht
  intro σ H Q ⟨F, as, hE, W, k⟩
  refine ⟨F, as, hE, W, fun vs F1 H1 as1 g1 W1 r1 => ?_⟩
  show spC C (vs ++ []) H1 Q E0
  rw [List.append_nil]
  exact ⟨F1, as1, svs, μ1, sv, μ', hC, r1, W1, fun v F2 H2 as2 g2 W2 r2 => k v F2 H2 as2 (g1.trans g2) W2 r2⟩
theorem se_call (F : FnS X.prog X.w X.K X.mg X.base k x C) (hr : Room j X.A) (ha : SA X (e :: es) env μ svs μ1) (hC : C svs μ1 sv μ') (hkj : k ≤ j := by decide) (hg : Gl X x := by rfl) (hdb : (x == ("__debug__" : Str)) = false := by decide)
    (he : starEach (e :: es) X.env = (false, eval e X.env) :: starEach es X.env := by rfl) (hpl : (backTo pos (starEach es X.env)).any (·.1) = false := by rfl) : SE X (.Call (.Name x p0) (e :: es) [] pos) env μ sv μ' := by
  obtain ⟨f, fd, ps, h1, h2, h3, h4⟩ := F.ex
  exact PE.imp (pe_call h1 (hr.mono hkj) hg h2 h3 h4 .nil pass0 ha hdb he hpl) (call_read rfl hC)
theorem se_callG (F : FnSG X.prog X.w X.K X.mg X.base k x C) (gX : X.A.guards = some []) (hr : Room j X.A) (ha : SA X (e :: es) env μ svs μ1) (hC : C svs μ1 sv μ') (hkj : k ≤ j := by decide) (hg : Gl X x := by rfl) (hdb : (x == ("__debug__" : Str)) = false := by decide)
    (he : starEach (e :: es) X.env = (false, eval e X.env) :: starEach es X.env := by rfl) (hpl : (backTo pos (starEach es X.env)).any (·.1) = false := by rfl) : SE X (.Call (.Name x p0) (e :: es) [] pos) env μ sv μ' := by
  obtain ⟨f, fd, ps, h1, h2, h3, h4⟩ := F.ex
  exact PE.imp (Gd.pe_callG h1 gX (hr.mono hkj) hg h2 h3 h4 .nil pass0 ha hdb he hpl) (call_read rfl hC)
end
end Sy

/-! Sy7: the rules in short. -/
namespace Sy
open PySem PySem.Spec PyProof.Rows L2

/-- the built-in names that the module leaves alone -/
structure Bi (mg : Str → Option Value) : Prop where
  len : mg "len" = none
  int : mg "int" = none
  abs : mg "abs" = none
  tuple : mg "tuple" = none
  list : mg "list" = none
  repr : mg "repr" = none
  range : mg "range" = none
section
variable {X : Cx} {env : En} {μ μ1 μ2 μ3 μ' : Mu} {sv s1 s2 s3 : SV} {a b c e : Expr} {es : List Expr} {svs : List SV} {pos p0 p2 : Pos} {k : Nat} {d1 d2 : PyData} {ds : List PyData} {res : Res} {q : Bool}
theorem e_add (ha : SE X a env μ s1 μ1) (hb : SE X b env μ1 s2 μ2) (v1 : Sy.view μ2 s1 = some d1 := by rfl) (v2 : Sy.view μ2 s2 = some d2 := by rfl) (hf : addD d1 d2 = some res := by rfl) (hk : addOk d1 d2 := by first | trivial | assumption | omega | decide | (show Str.length _ ≤ sizeLine; decide))
    (fin : Fi res μ2 sv μ' := by first | exact Sy.Fi.val | exact Sy.Fi.dat | exact Sy.Fi.tup) : SE X (.BinOp a .Add b pos) env μ sv μ' := se_bin op_addA os_add ha hb v1 v2 hf hk fin
theorem e_sub (ha : SE X a env μ s1 μ1) (hb : SE X b env μ1 s2 μ2) (v1 : Sy.view μ2 s1 = some d1 := by rfl) (v2 : Sy.view μ2 s2 = some d2 := by rfl) (hf : subD d1 d2 = some res := by rfl) (hk : noOk d1 d2 := by first | trivial | assumption | omega | decide | (show Str.length _ ≤ sizeLine; decide))
    (fin : Fi res μ2 sv μ' := by exact Sy.Fi.val) : SE X (.BinOp a .Sub b pos) env μ sv μ' := se_bin op_sub os_sub ha hb v1 v2 hf hk fin
theorem e_mul (ha : SE X a env μ s1 μ1) (hb : SE X b env μ1 s2 μ2) (v1 : Sy.view μ2 s1 = some d1 := by rfl) (v2 : Sy.view μ2 s2 = some d2 := by rfl) (hf : mulD d1 d2 = some res := by rfl) (hk : mulOk d1 d2 := by first | exact Or.inr ⟨by decide, by decide⟩ | exact Or.inl ⟨by decide, by decide⟩ | assumption | trivial)
    (fin : Fi res μ2 sv μ' := by first | exact Sy.Fi.val | exact Sy.Fi.dat) : SE X (.BinOp a .Mult b pos) env μ sv μ' := se_bin op_mulA os_mul ha hb v1 v2 hf hk fin
theorem e_fdiv (ha : SE X a env μ s1 μ1) (hb : SE X b env μ1 s2 μ2) (v1 : Sy.view μ2 s1 = some d1 := by rfl) (v2 : Sy.view μ2 s2 = some d2 := by rfl) (hf : fdivD d1 d2 = some res := by rfl) (hk : fdivOk d1 d2 := by first | trivial | assumption | omega | decide | (show Str.length _ ≤ sizeLine; decide))
    (fin : Fi res μ2 sv μ' := by exact Sy.Fi.val) : SE X (.BinOp a .FloorDiv b pos) env μ sv μ' := se_bin op_fdiv os_fdiv ha hb v1 v2 hf hk fin
theorem e_mod (ha : SE X a env μ s1 μ1) (hb : SE X b env μ1 s2 μ2) (v1 : Sy.view μ2 s1 = some d1 := by rfl) (v2 : Sy.view μ2 s2 = some d2 := by rfl) (hf : modD d1 d2 = some res := by rfl) (hk : modOk d1 d2 := by first | trivial | assumption | omega | decide | (show Str.length _ ≤ sizeLine; decide))
    (fin : Fi res μ2 sv μ' := by exact Sy.Fi.val) : SE X (.BinOp a .Mod b pos) env μ sv μ' := se_bin op_mod os_mod ha hb v1 v2 hf hk fin
theorem e_pow (ha : SE X a env μ s1 μ1) (hb : SE X b env μ1 s2 μ2) (v1 : Sy.view μ2 s1 = some d1 := by rfl) (v2 : Sy.view μ2 s2 = some d2 := by rfl) (hf : powD d1 d2 = some res := by rfl) (hk : powOk d1 d2 := by first | trivial | assumption | omega | decide | (show Str.length _ ≤ sizeLine; decide))
    (fin : Fi res μ2 sv μ' := by exact Sy.Fi.val) : SE X (.BinOp a .Pow b pos) env μ sv μ' := se_bin op_pow os_pow ha hb v1 v2 hf hk fin
theorem e_eq (hr : Room k X.A) (ha : SE X a env μ s1 μ1) (hb : SE X b env μ1 s2 μ2) (v1 : Sy.view μ2 s1 = some d1 := by rfl) (v2 : Sy.view μ2 s2 = some d2 := by rfl) (hk : eqOk d1 d2 := by first | trivial | assumption | omega | decide | (show Str.length _ ≤ sizeLine; decide)) :
    SE X (.Compare a [.Eq] [b] pos) env μ (.dat (.bool (PyData.eqv d1 d2))) μ2 := se_cmp (op_eqD hr.units) os_eq (nomark _) ha hb v1 v2 rfl hk Fi.val
theorem t_eq (hr : Room k X.A) (ha : SE X a env μ s1 μ1) (hb : SE X b env μ1 s2 μ2) (v1 : Sy.view μ2 s1 = some d1 := by rfl) (v2 : Sy.view μ2 s2 = some d2 := by rfl) (hk : eqOk d1 d2 := by first | trivial | assumption | omega | decide | (show Str.length _ ≤ sizeLine; decide)) :
    ST X (.Compare a [.Eq] [b] pos) env μ (PyData.eqv d1 d2) μ2 := st_cmp (op_eqD hr.units) os_eq (nomark _) ha hb v1 v2 rfl hk
theorem e_ne (hr : Room k X.A) (ha : SE X a env μ s1 μ1) (hb : SE X b env μ1 s2 μ2) (v1 : Sy.view μ2 s1 = some d1 := by rfl) (v2 : Sy.view μ2 s2 = some d2 := by rfl) (hk : eqOk d1 d2 := by first | trivial | assumption | omega | decide | (show Str.length _ ≤ sizeLine; decide)) :
    SE X (.Compare a [.NotEq] [b] pos) env μ (.dat (.bool (!PyData.eqv d1 d2))) μ2 := se_cmp (op_neD hr.units) os_ne (nomark _) ha hb v1 v2 rfl hk Fi.val
theorem t_ne (hr : Room k X.A) (ha : SE X a env μ s1 μ1) (hb : SE X b env μ1 s2 μ2) (v1 : Sy.view μ2 s1 = some d1 := by rfl) (v2 : Sy.view μ2 s2 = some d2 := by rfl) (hk : eqOk d1 d2 := by first | trivial | assumption | omega | decide | (show Str.length _ ≤ sizeLine; decide)) :
    ST X (.Compare a [.NotEq] [b] pos) env μ (!PyData.eqv d1 d2) μ2 := st_cmp (op_neD hr.units) os_ne (nomark _) ha hb v1 v2 rfl hk
variable {i j : Int}
theorem e_lt (ha : SE X a env μ (.dat (.int i)) μ1) (hb : SE X b env μ1 (.dat (.int j)) μ2) : SE X (.Compare a [.Lt] [b] pos) env μ (.dat (.bool (decide (i < j)))) μ2 := se_cmp op_lt os_lt (nomark _) ha hb rfl rfl rfl trivial Fi.val
theorem e_le (ha : SE X a env μ (.dat (.int i)) μ1) (hb : SE X b env μ1 (.dat (.int j)) μ2) : SE X (.Compare a [.LtE] [b] pos) env μ (.dat (.bool (decide (i ≤ j)))) μ2 := se_cmp op_le os_le (nomark _) ha hb rfl rfl rfl trivial Fi.val
theorem e_gt (ha : SE X a env μ (.dat (.int i)) μ1) (hb : SE X b env μ1 (.dat (.int j)) μ2) : SE X (.Compare a [.Gt] [b] pos) env μ (.dat (.bool (decide (j < i)))) μ2 := se_cmp op_gt os_gt (nomark _) ha hb rfl rfl rfl trivial Fi.val
theorem e_ge (ha : SE X a env μ (.dat (.int i)) μ1) (hb : SE X b env μ1 (.dat (.int j)) μ2) : SE X (.Compare a [.GtE] [b] pos) env μ (.dat (.bool (decide (j ≤ i)))) μ2 := se_cmp op_ge os_ge (nomark _) ha hb rfl rfl rfl trivial Fi.val
theorem t_lt (ha : SE X a env μ (.dat (.int i)) μ1) (hb : SE X b env μ1 (.dat (.int j)) μ2) : ST X (.Compare a [.Lt] [b] pos) env μ (decide (i < j)) μ2 := st_cmp op_lt os_lt (nomark _) ha hb rfl rfl rfl trivial
theorem t_le (ha : SE X a env μ (.dat (.int i)) μ1) (hb : SE X b env μ1 (.dat (.int j)) μ2) : ST X (.Compare a [.LtE] [b] pos) env μ (decide (i ≤ j)) μ2 := st_cmp op_le os_le (nomark _) ha hb rfl rfl rfl trivial
theorem t_gt (ha : SE X a env μ (.dat (.int i)) μ1) (hb : SE X b env μ1 (.dat (.int j)) μ2) : ST X (.Compare a [.Gt] [b] pos) env μ (decide (j < i)) μ2 := st_cmp op_gt os_gt (nomark _) ha hb rfl rfl rfl trivial
theorem t_ge (ha : SE X a env μ (.dat (.int i)) μ1) (hb : SE X b env μ1 (.dat (.int j)) μ2) : ST X (.Compare a [.GtE] [b] pos) env μ (decide (j ≤ i)) μ2 := st_cmp op_ge os_ge (nomark _) ha hb rfl rfl rfl trivial
/-- ints compared -/
theorem t_eqI (hr : Room k X.A) (ha : SE X a env μ (.dat (.int i)) μ1) (hb : SE X b env μ1 (.dat (.int j)) μ2) : ST X (.Compare a [.Eq] [b] pos) env μ (i == j) μ2 :=
  st_cmp (op_eqD hr.units) os_eq (nomark _) ha hb rfl rfl rfl ⟨rfl, rfl⟩
theorem t_neI (hr : Room k X.A) (ha : SE X a env μ (.dat (.int i)) μ1) (hb : SE X b env μ1 (.dat (.int j)) μ2) : ST X (.Compare a [.NotEq] [b] pos) env μ (!(i == j)) μ2 :=
  st_cmp (op_neD hr.units) os_ne (nomark _) ha hb rfl rfl rfl ⟨rfl, rfl⟩
theorem e_eqI (hr : Room k X.A) (ha : SE X a env μ (.dat (.int i)) μ1) (hb : SE X b env μ1 (.dat (.int j)) μ2) : SE X (.Compare a [.Eq] [b] pos) env μ (.dat (.bool (i == j))) μ2 :=
  se_cmp (op_eqD hr.units) os_eq (nomark _) ha hb rfl rfl rfl ⟨rfl, rfl⟩ Fi.val
theorem e_ix (ha : SE X a env μ s1 μ1) (hb : SE X b env μ1 s2 μ2) (v1 : Sy.view μ2 s1 = some d1 := by rfl) (v2 : Sy.view μ2 s2 = some d2 := by rfl) (hf : ixD d1 d2 = some res := by rfl) (hk : ixOk d1 d2 := by first | trivial | assumption | omega | decide | (show Str.length _ ≤ sizeLine; decide))
    (fin : Fi res μ2 sv μ' := by exact Sy.Fi.val) (hp : PlainIx b := by exact fun _ _ => rfl) : SE X (.Subscript a b pos) env μ sv μ' := se_ix ix_seq os_ix hp ha hb v1 v2 hf hk fin
/-- texts compared -/
theorem e_eqS {x y : Str} (ha : SE X a env μ (.dat (.str x)) μ1) (hb : SE X b env μ1 (.dat (.str y)) μ2) : SE X (.Compare a [.Eq] [b] pos) env μ (.dat (.bool (decide (x = y)))) μ2 := by
  refine PE.imp (pe_cmpR op_eq ha hb (nomark _)) fun σ H Q ⟨F, as, he, W, k⟩ => ⟨F, as, he, W, fun u F1 H1 as1 g1 W1 r1 => ⟨F1, as1, he.mono g1, W1, fun v F2 H2 as2 g2 W2 r2 => ?_⟩⟩
  cases r1
  cases r2
  refine ⟨rfl, k _ F2 H2 as2 (g1.trans g2) W2 ?_⟩
  have e : decide (V.str x = V.str y) = decide (x = y) := by simp
  rw [e]
  exact .bl _
theorem e_neS {x y : Str} (ha : SE X a env μ (.dat (.str x)) μ1) (hb : SE X b env μ1 (.dat (.str y)) μ2) : SE X (.Compare a [.NotEq] [b] pos) env μ (.dat (.bool (!decide (x = y)))) μ2 := by
  refine PE.imp (pe_cmpR op_ne ha hb (nomark _)) fun σ H Q ⟨F, as, he, W, k⟩ => ⟨F, as, he, W, fun u F1 H1 as1 g1 W1 r1 => ⟨F1, as1, he.mono g1, W1, fun v F2 H2 as2 g2 W2 r2 => ?_⟩⟩
  cases r1
  cases r2
  refine ⟨rfl, k _ F2 H2 as2 (g1.trans g2) W2 ?_⟩
  have e : decide (V.str x = V.str y) = decide (x = y) := by simp
  rw [e]
  exact .bl _
theorem t_eqS {x y : Str} (ha : SE X a env μ (.dat (.str x)) μ1) (hb : SE X b env μ1 (.dat (.str y)) μ2) : ST X (.Compare a [.Eq] [b] pos) env μ (decide (x = y)) μ2 := by
  refine PT.imp (pt_cmpR op_eq ha hb (nomark _)) fun σ H Q ⟨F, as, he, W, k⟩ => ⟨F, as, he, W, fun u F1 H1 as1 g1 W1 r1 => ⟨F1, as1, he.mono g1, W1, fun v F2 H2 as2 g2 W2 r2 => ?_⟩⟩
  cases r1
  cases r2
  exact ⟨rfl, decide (x = y), by simp, k F2 H2 as2 (g1.trans g2) W2⟩
theorem t_neS {x y : Str} (ha : SE X a env μ (.dat (.str x)) μ1) (hb : SE X b env μ1 (.dat (.str y)) μ2) : ST X (.Compare a [.NotEq] [b] pos) env μ (!decide (x = y)) μ2 := by
  refine PT.imp (pt_cmpR op_ne ha hb (nomark _)) fun σ H Q ⟨F, as, he, W, k⟩ => ⟨F, as, he, W, fun u F1 H1 as1 g1 W1 r1 => ⟨F1, as1, he.mono g1, W1, fun v F2 H2 as2 g2 W2 r2 => ?_⟩⟩
  cases r1
  cases r2
  exact ⟨rfl, !decide (x = y), by simp, k F2 H2 as2 (g1.trans g2) W2⟩
theorem e_neg (ha : SE X a env μ (.dat (.int i)) μ1) : SE X (.UnaryOp .USub a pos) env μ (.dat (.int (-i))) μ1 :=
  PE.imp (pe_un un_neg ha) fun σ H Q ⟨F, as, he, W, k⟩ => ⟨F, as, he, W, fun x F1 H1 as1 g1 W1 r1 => by
    cases r1
    exact ⟨i, rfl, k _ F1 H1 as1 g1 W1 (.int _)⟩⟩
theorem e_sl {i j : Option Int} {lo hi : Option Expr} (he : SE X e env μ s1 μ1) (hl : SO X lo env μ1 i μ2) (hh : SO X hi env μ2 j μ3) (v1 : Sy.view μ3 s1 = some d1 := by rfl) (hk : slOk d1 := by first | trivial | assumption | omega | decide | (show Str.length _ ≤ sizeLine; decide)) (hf : slD d1 i j = some res := by rfl)
    (fin : Fi res μ3 sv μ' := by first | exact Sy.Fi.val | exact Sy.Fi.dat | exact Sy.Fi.tup) : SE X (.Subscript e (.Slice lo hi none p2) pos) env μ sv μ' := se_slice he hl hh v1 hf hk fin
theorem e_l (ha : SA X es env μ svs μ1) (hd : datsOf svs = some ds := by rfl) (hz : ds.length ≤ sizeLine := by first | decide | (simp only [List.length_cons, List.length_nil]; decide) | assumption) : SE X (.List es pos) env μ (.dat (.list ds)) μ1 := se_list ha (datsOf_eq hd) hz Fi.dat
theorem e_lC (ha : SA X es env μ svs μ1) (hd : datsOf svs = some ds := by rfl) (hz : ds.length ≤ sizeLine := by first | decide | (simp only [List.length_cons, List.length_nil]; decide) | assumption) : SE X (.List es pos) env μ (.cell μ1.length) (μ1 ++ [.lst ds]) := se_list ha (datsOf_eq hd) hz Fi.cell
theorem e_t {n : Nat} (ha : SA X es env μ svs μ1) (hd : datsOf svs = some ds := by rfl) (hz : ds.length ≤ sizeLine := by first | decide | (simp only [List.length_cons, List.length_nil]; decide) | assumption) : SE X (.Tuple es n pos) env μ (.dat (.tuple ds)) μ1 := se_tuple ha (datsOf_eq hd) hz
theorem e_len (B : Bi X.mg) (ha : SA X [e] env μ [s1] μ1) (v1 : Sy.view μ1 s1 = some d1 := by rfl) (hk : lenOk [d1] := by first | trivial | assumption | omega | decide | (show Str.length _ ≤ sizeLine; decide)) (hf : lenD [d1] = some res := by rfl) (fin : Fi res μ1 sv μ' := by exact Sy.Fi.val) (hg : Gl X "len" := by rfl)
    (he : starEach [e] X.env = (false, eval e X.env) :: starEach [] X.env := by rfl) : SE X (.Call (.Name "len" p0) [e] [] pos) env μ sv μ' :=
  se_callB cr_len cs_len B.len PySem.boot_len ha (by simp [viewAll, v1]) hf hk fin hg (by decide) (by decide) he rfl
theorem e_int (B : Bi X.mg) (ha : SA X [e] env μ [s1] μ1) (v1 : Sy.view μ1 s1 = some d1 := by rfl) (hf : intD [d1] = some res := by rfl) (fin : Fi res μ1 sv μ' := by exact Sy.Fi.val) (hg : Gl X "int" := by rfl)
    (he : starEach [e] X.env = (false, eval e X.env) :: starEach [] X.env := by rfl) : SE X (.Call (.Name "int" p0) [e] [] pos) env μ sv μ' :=
  se_callTy call_int1 cs_int B.int (by decide +kernel) ha (by simp [viewAll, v1]) hf trivial fin hg (by decide) (by decide) he rfl
theorem e_abs (B : Bi X.mg) (ha : SA X [e] env μ [s1] μ1) (v1 : Sy.view μ1 s1 = some d1 := by rfl) (hf : absD [d1] = some res := by rfl) (fin : Fi res μ1 sv μ' := by exact Sy.Fi.val) (hg : Gl X "abs" := by rfl)
    (he : starEach [e] X.env = (false, eval e X.env) :: starEach [] X.env := by rfl) : SE X (.Call (.Name "abs" p0) [e] [] pos) env μ sv μ' :=
  se_callB call_abs cs_abs B.abs (by decide +kernel) ha (by simp [viewAll, v1]) hf trivial fin hg (by decide) (by decide) he rfl
theorem e_tup (B : Bi X.mg) (ha : SA X [e] env μ [s1] μ1) (v1 : Sy.view μ1 s1 = some d1 := by rfl) (hf : tupD [d1] = some res := by rfl) (fin : Fi res μ1 sv μ' := by exact Sy.Fi.tup) (hg : Gl X "tuple" := by rfl)
    (he : starEach [e] X.env = (false, eval e X.env) :: starEach [] X.env := by rfl) : SE X (.Call (.Name "tuple" p0) [e] [] pos) env μ sv μ' :=
  se_callTy call_tuple_of cs_tup B.tuple (by decide +kernel) ha (by simp [viewAll, v1]) hf trivial fin hg (by decide) (by decide) he rfl
theorem e_lst (B : Bi X.mg) (ha : SA X [e] env μ [s1] μ1) (v1 : Sy.view μ1 s1 = some d1 := by rfl) (hf : lstD [d1] = some res := by rfl) (fin : Fi res μ1 sv μ' := by exact Sy.Fi.dat) (hg : Gl X "list" := by rfl)
    (he : starEach [e] X.env = (false, eval e X.env) :: starEach [] X.env := by rfl) : SE X (.Call (.Name "list" p0) [e] [] pos) env μ sv μ' :=
  se_callTy call_list_of cs_lst B.list (by decide +kernel) ha (by simp [viewAll, v1]) hf trivial fin hg (by decide) (by decide) he rfl
theorem e_repr (B : Bi X.mg) (gX : X.A.guards = some []) (hr : Room k X.A) (ha : SA X [e] env μ [s1] μ1) (v1 : Sy.view μ1 s1 = some d1 := by rfl) (hk : reprOk [d1] := by first | trivial | assumption | omega | decide | (show Str.length _ ≤ sizeLine; decide)) (hg : Gl X "repr" := by rfl)
    (he : starEach [e] X.env = (false, eval e X.env) :: starEach [] X.env := by rfl) : SE X (.Call (.Name "repr" p0) [e] [] pos) env μ (.dat (.str d1.shown)) μ1 :=
  se_callB (Gd.cr_repr gX (by have := hr.un; omega)) cs_repr B.repr (by decide +kernel) ha (by simp [viewAll, v1]) rfl hk Fi.val hg (by decide) (by decide) he rfl
theorem a1 (h : SE X e env μ sv μ1) (hs : starEach [e] X.env = (false, eval e X.env) :: starEach [] X.env := by rfl) : SA X [e] env μ [sv] μ1 := sa_cons h sa_nil hs
theorem a2 {e2 : Expr} (h : SE X e env μ s1 μ1) (h2 : SE X e2 env μ1 s2 μ2) (hs : starEach [e, e2] X.env = (false, eval e X.env) :: starEach [e2] X.env := by rfl) (hs2 : starEach [e2] X.env = (false, eval e2 X.env) :: starEach [] X.env := by rfl) :
    SA X [e, e2] env μ [s1, s2] μ2 := sa_cons h (sa_cons h2 sa_nil hs2) hs
end
end Sy

/-! Sy8: stores by place. -/
namespace Sy
open PySem PySem.Spec PyProof.Rows L2
section
variable {X : Cx} {env : En} {μ μ1 μ2 μ3 μ' : Mu} {sv s1 s2 s3 : SV} {a b c e : Expr} {rest : List Stmt} {R : Out → Prop} {ds : List PyData} {d : PyData} {pos p0 tpos : Pos} {j n : Nat}
def rGetL (K : PySem.W.Frag) : R2 := fun o i H Q => ∃ p xs k v, o = .ref p ∧ i = .int (k : Nat) ∧ SqL K H p xs ∧ xs[k]? = some v ∧ Q v H
theorem get_list : PGet X (rGetL X.K) := by
  intro pins s σ H o i ov iv Q I ro ri h
  obtain ⟨p, xs, k, v, rfl, rfl, hq, hk, q⟩ := h
  cases ro
  obtain ⟨t, rfl⟩ := ri
  obtain ⟨its, r, hl, hz⟩ := I.list hq
  obtain ⟨u, hu, ru⟩ := r.get hk
  have hlt := (List.getElem?_eq_some_iff.mp hu).1
  have hn := line63
  have hrl := r.length
  refine wpAny_getItem_list hl.isList (by omega) (by omega) (x := u) (by simpa using hu) ⟨v, H, I, ru, q⟩
/-- x[n] = e, x a cell -/
theorem sss_setIx (n : Nat) (he : SE X e env μ (.dat d) μ1) (ho : SE X a env μ1 (.cell j) μ2) (hi : SE X b env μ2 (.dat (.int (n : Int))) μ3) (hj : μ3[j]? = some (.lst ds)) (hn : n < ds.length) (hr : SSs X rest env (μ3.set j (.lst (ds.set n d))) R)
    (hs : swapsWithSole [.Subscript a b p0] e pos.line X.env = pure false := by rfl) (hw : swappedStores [.Subscript a b p0] e X.env = pure none := by rfl)
    (h1 : (assignEach [.Subscript a b p0] X.env).map (·.2) = [assign (.Subscript a b p0) X.env] := by rfl)
    (ha : ∀ v, assign (.Subscript a b p0) X.env v = (do
      let ov ← holding [v] (eval a X.env)
      let iv ← holding [v, ov] (eval b X.env)
      standAt p0
      holding [v, ov, iv] (setItem ov iv v)
      release [v, ov, iv] []) := by intro _; rfl) : SSs X (.Assign [.Subscript a b p0] e pos :: rest) env μ R := by
  refine sss_cons (PS.imp (ps_asg he (pg_sub ho hi set_list ha) hs hw h1) fun D σ H ⟨F, as, hE, W, kn, _⟩ => ?_)
  refine ⟨F, as, hE, W, fun v F1 H1 as1 g1 W1 r1 => ⟨F1, as1, hE.mono g1, W1, fun o F2 H2 as2 g2 W2 r2 => ⟨F2, as2, (hE.mono g1).mono g2, W2, fun i F3 H3 as3 g3 W3 r3 => ?_⟩⟩⟩
  obtain ⟨p, hp, rfl⟩ := r2
  cases r3
  obtain ⟨_, vs, q, dv⟩ := cell_at W3 (g3.at hp) hj
  have z := W3.setC (g3.at hp) hj (dv.set (DV.mono g3.sub (DV.mono g2.sub r1)) n)
  have g := (g1.trans g2).trans g3
  refine ⟨p, vs, n, n, rfl, rfl, q, ?_, kn env _ σ _ _ as3 hr (g.trans z.2) (((hE.mono g1).mono g2).mono g3 |>.mono z.2) z.1⟩
  unfold ixN
  rw [if_pos (Int.natCast_nonneg n), if_pos (by rw [dv.length]; omega)]
  rfl
/-- x[n] += e, ints -/
theorem sss_augIx (n : Nat) {i k : Int} (ho : SE X a env μ (.cell j) μ1) (hi : SE X b env μ1 (.dat (.int (n : Int))) μ2) (hj : μ2[j]? = some (.lst ds)) (hd : ds[n]? = some (.int i)) (he : SE X e env μ2 (.dat (.int k)) μ2) (hr : SSs X rest env (μ2.set j (.lst (ds.set n (.int (i + k))))) R)
    (ha : ∀ ov iv new, augStore b ov iv new = (do holding [new, ov, iv] (setItem ov iv new); release [new, ov, iv] []; pure .next) := by intros; rfl) : SSs X (.AugAssign (.Subscript a b tpos) .Add e pos :: rest) env μ R := by
  refine sss_cons (PS.imp (ps_augS ho hi get_list he ip_add set_list ha) fun D σ H ⟨F, as, hE, W, kn, _⟩ => ?_)
  refine ⟨F, as, hE, W, fun o F1 H1 as1 g1 W1 r1 => ⟨F1, as1, hE.mono g1, W1, fun v F2 H2 as2 g2 W2 r2 => ?_⟩⟩
  obtain ⟨p, hp, rfl⟩ := r1
  cases r2
  obtain ⟨_, vs, q, dv⟩ := cell_at W2 (g2.at hp) hj
  obtain ⟨u, hu, du⟩ := dv.get hd
  cases du
  refine ⟨p, vs, n, _, rfl, rfl, .inl (.inl q), hu, F2, as2, (hE.mono g1).mono g2, W2, fun y F3 H3 as3 g3 W3 r3 => ?_⟩
  cases r3
  obtain ⟨_, vs3, q3, dv3⟩ := cell_at W3 (g3.at (g2.at hp)) hj
  have z := W3.setC (g3.at (g2.at hp)) hj (dv3.set (.int (i + k)) n)
  have g := (g1.trans g2).trans g3
  refine ⟨i, k, rfl, rfl, p, vs3, n, n, rfl, rfl, q3, ?_, kn env _ σ _ _ as3 hr (g.trans z.2) ((((hE.mono g1).mono g2).mono g3).mono z.2) z.1⟩
  have hlt := (List.getElem?_eq_some_iff.mp hd).1
  unfold ixN
  rw [if_pos (Int.natCast_nonneg n), if_pos (by rw [dv3.length]; omega)]
  rfl
/-- the last cell -/
theorem at_last (m : Mu) (c : Cell) : (m ++ [c])[m.length]? = some c := by simp
end
end Sy

/-! Sy9: outcomes that are told by a property alone. -/
namespace Sy
open PySem PySem.Spec PyProof.Rows L2

def rdEn (env : En) (μ : Mu) (P : SV → Mu → Prop) : TE := fun σ H Q =>
  ∃ F as, EnvOk F as env σ ∧ Wd F H as μ ∧ ∀ sv μ' v F' H' as', P sv μ' → Go F H as F' H' as' → Wd F' H' as' μ' → RSV F' as' sv v → Q v H'
def rdAn (env : En) (μ : Mu) (P : List SV → Mu → Prop) : TA := fun σ H Q =>
  ∃ F as, EnvOk F as env σ ∧ Wd F H as μ ∧ ∀ svs μ' vs F' H' as', P svs μ' → Go F H as F' H' as' → Wd F' H' as' μ' → RAll F' as' svs vs → Q vs H'
def SEn (X : Cx) (e : Expr) (env : En) (μ : Mu) (P : SV → Mu → Prop) : Prop := PE X e (rdEn env μ P)
def SAn (X : Cx) (es : List Expr) (env : En) (μ : Mu) (P : List SV → Mu → Prop) : Prop := PA X es (rdAn env μ P)
/-- what a def promises, by a property of what comes out -/
def spN (Pre : List SV → Mu → Prop) (Post : List SV → Mu → SV → Mu → Prop) : Sp := fun vs H Q _ => ∃ F as args μ, Pre args μ ∧ RAll F as args vs ∧ Wd F H as μ ∧
  ∀ sv μ' v F' H' as', Post args μ sv μ' → Go F H as F' H' as' → Wd F' H' as' μ' → RSV F' as' sv v → Q v H'
section
variable {X : Cx} {env : En} {μ μ1 μ2 μ' : Mu} {sv s1 s2 : SV} {svs : List SV} {a b c e elt iter : Expr} {es ifs : List Expr} {rest body : List Stmt} {R : Out → Prop} {pos p0 p1 spos : Pos} {x y : Str} {scope : Scope} {ds : List PyData} {S : Mu → Prop}
  {P P' : SV → Mu → Prop} {PA : List SV → Mu → Prop}
theorem SE.n (h : SE X e env μ sv μ') : SEn X e env μ (fun s m => s = sv ∧ m = μ') :=
  PE.imp h fun σ H Q ⟨F, as, he, W, k⟩ => ⟨F, as, he, W, fun v F' H' as' g W' r => k _ _ v F' H' as' ⟨rfl, rfl⟩ g W' r⟩
theorem SEn.imp (h : SEn X e env μ P) (i : ∀ s m, P s m → P' s m) : SEn X e env μ P' :=
  PE.imp h fun σ H Q ⟨F, as, he, W, k⟩ => ⟨F, as, he, W, fun s m v F' H' as' p g W' r => k s m v F' H' as' (i s m p) g W' r⟩
theorem SE.p (h : SE X e env μ sv μ') (hp : P sv μ') : SEn X e env μ P := h.n.imp fun _ _ ⟨h1, h2⟩ => h1 ▸ h2 ▸ hp
theorem SA.n (h : SA X es env μ svs μ') : SAn X es env μ (fun s m => s = svs ∧ m = μ') :=
  Sy.PA.imp h fun σ H Q ⟨F, as, he, W, k⟩ => ⟨F, as, he, W, fun v F' H' as' g W' r => k _ _ v F' H' as' ⟨rfl, rfl⟩ g W' r⟩
theorem SAn.imp {PA' : List SV → Mu → Prop} (h : SAn X es env μ PA) (i : ∀ s m, PA s m → PA' s m) : SAn X es env μ PA' :=
  Sy.PA.imp h fun σ H Q ⟨F, as, he, W, k⟩ => ⟨F, as, he, W, fun s m v F' H' as' p g W' r => k s m v F' H' as' (i s m p) g W' r⟩
/-- first an expression, then the other arguments -/
theorem san_cons {PA : SV → List SV → Mu → Prop} (he : SEn X e env μ P) (ht : ∀ s m, P s m → SAn X es env m (PA s)) (hs : starEach (e :: es) X.env = (false, eval e X.env) :: starEach es X.env := by rfl) :
    SAn X (e :: es) env μ (fun svs m => ∃ s r, svs = s :: r ∧ PA s r m) := by
  have h2 : L2.PA X es (fun σ H Q => ∃ s m, SAn X es env m (PA s) ∧ rdAn env m (PA s) σ H Q) := ⟨fun pos pins s σ H Q I ⟨s0, m, h, q⟩ => h.run pos pins s σ H Q I q⟩
  refine Sy.PA.imp (pa_cons he h2 hs) fun σ H Q ⟨F, as, hE, W, k⟩ => ⟨F, as, hE, W, fun s m v F1 H1 as1 p g1 W1 r1 => ?_⟩
  refine ⟨s, m, ht s m p, F1, as1, hE.mono g1, W1, fun svs m2 vs F2 H2 as2 p2 g2 W2 r2 => ?_⟩
  exact k (s :: svs) m2 _ F2 H2 as2 ⟨s, svs, rfl, p2⟩ (g1.trans g2) W2 (.cons (RSV.mono g2 r1) r2)
theorem san_nil : SAn X [] env μ (fun svs m => svs = [] ∧ m = μ) := SA.n sa_nil
/-- statements -/
theorem sss_setN (i : Nat) (hN : X.N.Nodup) (he : SEn X e env μ P) (hr : ∀ sv m, P sv m → SSs X rest (env.set i (some sv)) m R) (hi : X.N[i]? = some x := by rfl)
    (hx : Loc X.env.scope x := by first | exact .inl rfl | exact .inr rfl) (hs : swapsWith e (some (.Name x p0)) pos.line X.env = pure false := by rfl)
    (hf : X.fn x = true ∨ X.env.scope.names.lookup x = some .local := by first | exact .inl rfl | exact .inr rfl) : SSs X (.Assign [.Name x p0] e pos :: rest) env μ R := by
  refine sss_cons (PS.imp (ps_set hN hi hx he hs hf) fun D σ H ⟨F, as, hE, W, kn, _⟩ => ?_)
  refine ⟨F, as, hE, W, fun s m v F1 H1 as1 p g1 W1 r1 => ?_⟩
  exact kn _ m _ F1 H1 as1 (hr s m p) g1 ((hE.mono g1).set r1 i) W1
theorem sss_retN (he : SEn X e env μ P) (hr : ∀ sv m, P sv m → R (.ret sv m)) : SSs X (.Return (some e) pos :: rest) env μ R := by
  refine sss_cons (PS.imp (ps_ret he) fun D σ H ⟨F, as, hE, W, _, kr, _⟩ => ?_)
  exact ⟨F, as, hE, W, fun s m v F1 H1 as1 p g1 W1 r1 => kr s m v F1 H1 as1 (hr s m p) g1 W1 r1⟩
theorem sss_exprN (he : SEn X e env μ P) (hr : ∀ sv m, P sv m → SSs X rest env m R) (hs : swapsWith e none pos.line X.env = pure false := by rfl) : SSs X (.Expr e pos :: rest) env μ R := by
  refine sss_cons (PS.imp (ps_expr he hs) fun D σ H ⟨F, as, hE, W, kn, _⟩ => ?_)
  exact ⟨F, as, hE, W, fun s m v F1 H1 as1 p g1 W1 r1 => kn env m σ F1 H1 as1 (hr s m p) g1 (hE.mono g1) W1⟩
theorem sss_parN (i j : Nat) {pt pt2 : Pos} {kt k2 : Nat} (hc : X.calm = true) (hN : X.N.Nodup) (ha : SAn X [a, b] env μ PA) (hr : ∀ s1 s2 m, PA [s1, s2] m → SSs X rest ((env.set i (some s1)).set j (some s2)) m R)
    (hi : X.N[i]? = some x := by rfl) (hj : X.N[j]? = some y := by rfl) (hij : i ≠ j := by decide) (hx : X.env.scope.names.lookup x = some .local := by rfl) (hy : X.env.scope.names.lookup y = some .local := by rfl)
    (hw : swappedStores [.Tuple [.Name x p0, .Name y p1] kt pt] (.Tuple [a, b] k2 pt2) X.env = pure (some [x, y]) := by rfl)
    (hs : swapsWithSole [.Tuple [.Name x p0, .Name y p1] kt pt] (.Tuple [a, b] k2 pt2) pos.line X.env = pure false := by rfl)
    (h2 : ∀ svs m, PA svs m → svs.length = 2 := by first | (rintro _ _ ⟨_, _, rfl, _, _, rfl, rfl, _⟩; rfl) | (rintro _ _ ⟨rfl, _⟩; rfl)) :
    SSs X (.Assign [.Tuple [.Name x p0, .Name y p1] kt pt] (.Tuple [a, b] k2 pt2) pos :: rest) env μ R := by
  refine sss_cons (PS.imp (ps_par hc hN hi hj hij hx hy ha hw hs) fun D σ H ⟨F, as, hE, W, kn, _⟩ => ?_)
  refine ⟨F, as, hE, W, fun svs m vs F1 H1 as1 p g1 W1 r1 => ?_⟩
  match svs, h2 svs m p with
  | [s1, s2], _ =>
    cases r1 with
    | cons h1 t1 =>
      cases t1 with
      | cons h2 t2 =>
        cases t2
        exact ⟨_, _, rfl, kn _ m _ F1 H1 as1 (hr s1 s2 m p) g1 (((hE.mono g1).set h1 i).set h2 j) W1⟩
/-- built-in calls over data that is told by a property -/
theorem callN_run {t : TA} {r : List V → Hp → VK → Prop} {f : List PyData → Option Res} {ok : List PyData → Prop} (hs : CaS r f ok) (ht : t = rdAn env μ PA)
    (hp : ∀ svs m, PA svs m → ∃ ds res s m', viewAll m svs = some ds ∧ f ds = some res ∧ ok ds ∧ Fi res m s m' ∧ P s m') : ∀ σ H Q, rdEn env μ P σ H Q → tCB r t σ H Q := by
  subst ht
  intro σ H Q ⟨F, as, he, W, k⟩
  refine ⟨F, as, he, W, fun svs m xs F1 H1 as1 p g1 W1 r1 => ?_⟩
  obtain ⟨ds, res, s, m', h1, h2, h3, h4, h5⟩ := hp svs m p
  refine hs F1 H1 xs ds res Q W1.sub (W1.views r1 h1) h2 h3 ?_
  exact h4.run W1 fun v F3 H3 as3 g3 W3 r3 => k s m' v F3 H3 as3 h5 (g1.trans g3) W3 r3
theorem sen_tup (B : Bi X.mg) (ha : SEn X e env μ (fun s m => ∃ ds, s = .dat (.list ds) ∧ P (.dat (.tuple ds)) m)) (hg : Gl X "tuple" := by rfl) (he : starEach [e] X.env = (false, eval e X.env) :: starEach [] X.env := by rfl) :
    SEn X (.Call (.Name "tuple" p0) [e] [] pos) env μ P := by
  refine PE.imp (pe_callTy call_tuple_of hg B.tuple (by decide +kernel) (san_cons ha (PA := fun s r m => r = [] ∧ ∃ ds, s = .dat (.list ds) ∧ P (.dat (.tuple ds)) m) (fun s m h => san_nil.imp fun r m2 ⟨h1, h2⟩ => ⟨h1, h2 ▸ h⟩) he) (by decide) (by decide) he rfl)
    (callN_run cs_tup rfl fun svs m ⟨s, r, e1, e2, ds, e3, hp⟩ => ?_)
  subst e2 e3 e1
  exact ⟨[.list ds], .newT ds, _, m, rfl, rfl, trivial, Fi.tup, hp⟩
/-- a comprehension whose elements are told by a property -/
def TurnN (X : Cx) (scope : Scope) (elt : Expr) (ifs : List Expr) (env : En) (I : Nat → List PyData → Mu → Prop) (i k : Nat) (d : PyData) (acc : List PyData) (m : Mu) : Prop :=
  ∃ q m1, AllB X scope (fun B => STs B ifs (env.set i (some (.dat d))) m q m1) ∧
    (q = true → AllB X scope fun B => SEn B elt (env.set i (some (.dat d))) m1 (fun s m2 => ∃ d', s = .dat d' ∧ I (k + 1) (acc ++ [d']) m2)) ∧ (q = false → I (k + 1) acc m1)
def rdEEn (X : Cx) (scope : Scope) (elt : Expr) : TE := fun σ H Q => ∃ env m P, AllB X scope (fun B => SEn B elt env m P) ∧ rdEn env m P σ H Q
theorem lcN_read (i : Nat) (I : Nat → List PyData → Mu → Prop) (hz : ds.length ≤ sizeLine) (h0 : I 0 [] μ1) (hS : ∀ k acc m, I k acc m → S m)
    (hs : ∀ k d acc m, ds[k]? = some d → I k acc m → TurnN X scope elt ifs env I i k d acc m) (hd : ∀ acc m, I ds.length acc m → ∃ s m', Fi (.newL acc) m s m' ∧ P s m') :
    ∀ σ H Q, rdEn env μ P σ H Q → tLc (rdI env μ ds μ1 S) (gName i) (rdTT X scope ifs) (rdEEn X scope elt) [i] σ H Q := by
  intro σ H Q ⟨F, as, hE, W, k⟩
  refine ⟨F, as, hE, W, fun J G Y F1 H1 as1 g1 W1 w hG hY D nD => ?_⟩
  have nH : H D = none := g1.dom D nD
  refine lc_it (g := gName i) (tt := rdTT X scope ifs) (te := rdEEn X scope elt) w (fun k H2 => ∃ acc m F2 as2 vs, I k acc m ∧ acc.length ≤ k ∧ Wd F2 H2 as2 m ∧ Go F1 H1 as1 F2 H2 as2 ∧ H2 D = some (.lst vs) ∧ F2 D = none ∧ D ∉ as2 ∧ DVs F2 vs acc) ?_ ?_ ?_ ?_
  · obtain ⟨f1, f2⟩ := W1.nofree nD
    exact ⟨[], μ1, F1, as1, [], h0, Nat.le_refl _, W1.off f1 f2, (Go.refl _ _ _).off nD, upd_same, f1, f2, .nil⟩
  · rintro k2 H2 _ ⟨acc, m, F2, as2, vs, i2, l2, W2, g2, hD, nF, na, dv⟩
    exact hG F2 H2 as2 m g2 W2 (hS k2 acc m i2)
  · rintro k2 v H2 H' hk ⟨acc, m, F2, as2, vs, i2, l2, W2, g2, hD, nF, na, dv⟩ y
    obtain ⟨rfl, d, hd1, dvd⟩ := hY k2 F2 H2 as2 m v H' g2 W2 (hS k2 acc m i2) y hk
    obtain ⟨q, m1, ht, hT, hF⟩ := hs k2 d acc m hd1 i2
    have env2 : EnvOk F2 as2 (env.set i (some (.dat d))) ((wipe σ [i]).set i (some v)) := by
      have e1 := ((hE.mono g1).mono g2).set (sv := .dat d) dvd i
      show EnvOk F2 as2 _ ((σ.set i none).set i (some v))
      rw [List.set_set]
      exact e1
    refine ⟨?_, env.set i (some (.dat d)), m, q, m1, ht, F2, as2, env2, W2, fun F3 H3 as3 g3 W3 => ?_⟩
    · show ((σ.set i none).set i (some v)).set i none = σ.set i none
      rw [List.set_set, List.set_set]
    · obtain ⟨hD3, nF3, na3⟩ := g3.apart hD nF na
      cases q with
      | true =>
        refine ⟨env.set i (some (.dat d)), m1, _, hT rfl, F3, as3, env2.mono g3, W3, fun s m2 u F4 H4 as4 ⟨d', e', i3⟩ g4 W4 r4 => ?_⟩
        subst e'
        obtain ⟨hD4, nF4, na4⟩ := g4.apart hD3 nF3 na3
        refine ⟨vs, hD4, ?_, acc ++ [d'], m2, F4, as4, vs ++ [u], i3, ?_, W4.off nF4 na4, ((g2.trans g3).trans g4).off nD, upd_same, nF4, na4, ?_⟩
        · rw [dv.length]; omega
        · rw [List.length_append]
          show acc.length + 1 ≤ k2 + 1
          omega
        · exact ((dv.mono g3.sub).mono g4.sub).append (.cons r4 .nil)
      | false => exact ⟨acc, m1, F3, as3, vs, hF rfl, by omega, W3, g2.trans g3, hD3, nF3, na3, dv.mono g3.sub⟩
  · rintro H2 ⟨acc, m, F2, as2, vs, i2, l2, W2, g2, hD, nF, na, dv⟩
    obtain ⟨s, m', fin, hP⟩ := hd acc m i2
    have r := fin.run (W2.era nF na) (Q := Q) fun v F3 H3 as3 g3 W3 r3 => k s m' v F3 H3 as3 hP ((g1.trans (g2.era nD)).trans g3) W3 r3
    have z := r D vs era_same dv
    rw [era_upd hD] at z
    exact z
theorem sen_lc (i : Nat) (I : Nat → List PyData → Mu → Prop) (hc : X.calm = true) (hN : X.N.Nodup) (hi : SI X (.Name x p1) iter env μ ds μ1 S) (ok : BlkOk X.N X.env.scope scope [(x, i)]) (hz : ds.length ≤ sizeLine) (h0 : I 0 [] μ1) (hS : ∀ k acc m, I k acc m → S m)
    (hs : ∀ k d acc m, ds[k]? = some d → I k acc m → TurnN X scope elt ifs env I i k d acc m) (hd : ∀ acc m, I ds.length acc m → ∃ s m', Fi (.newL acc) m s m' ∧ P s m')
    (hn : X.N[i]? = some x := by rfl) (hl : AllB X scope (fun B => Loc B.env.scope x) := by intro _ _ _ _ _; first | exact .inl rfl | exact .inr rfl)
    (hfn : AllB X scope (fun B => B.fn x = true ∨ B.env.scope.names.lookup x = some .local) := by intro _ _ _ _ _; first | exact .inl rfl | exact .inr rfl)
    (hf : ∀ x, foldedSetIterable iter X.env x = pure x := by intro _; rfl) : SEn X (.ListComp elt [⟨.Name x p1, iter, ifs, 0⟩] scope pos) env μ P := by
  refine PE.imp (pe_lc (own := [(x, i)]) (g := gName i) (tt := rdTT X scope ifs) (te := rdEEn X scope elt) hc hN hi ok ?_ ?_ ?_ hf) (lcN_read i I hz h0 hS hs hd)
  · exact fun s H C cl fp => pg_name hN hn (hl s H C cl fp) (hfn s H C cl fp)
  · exact fun s H C cl fp => ⟨fun pins s2 σ H2 Q J ⟨env, m, q, m1, h, z⟩ => (h s H C cl fp).run pins s2 σ H2 Q J z⟩
  · exact fun s H C cl fp => ⟨fun pins s2 σ H2 Q J ⟨env, m, q, h, z⟩ => (h s H C cl fp).run pins s2 σ H2 Q J z⟩
/-- name = [..] -/
theorem sss_setLcN (j : Nat) (i : Nat) (I : Nat → List PyData → Mu → Prop) (hc : X.calm = true) (hN : X.N.Nodup) (hi : SI X (.Name x p1) iter env μ ds μ1 S) (ok : BlkOk X.N X.env.scope scope [(x, i)]) (hz : ds.length ≤ sizeLine) (h0 : I 0 [] μ1) (hS : ∀ k acc m, I k acc m → S m)
    (hs : ∀ k d acc m, ds[k]? = some d → I k acc m → TurnN X scope elt ifs env I i k d acc m) (hd : ∀ acc m, I ds.length acc m → ∃ s m', Fi (.newL acc) m s m' ∧ P s m')
    (hsw : swapsWith (.ListComp elt [⟨.Name x p1, iter, ifs, 0⟩] scope pos) (some (.Name y p0)) spos.line X.env = pure true) (hr : ∀ s m, P s m → SSs X rest (env.set j (some s)) m R)
    (hy : X.N[j]? = some y := by rfl) (hyl : X.env.scope.names.lookup y = some .local := by rfl)
    (hn : X.N[i]? = some x := by rfl) (hl : AllB X scope (fun B => Loc B.env.scope x) := by intro _ _ _ _ _; first | exact .inl rfl | exact .inr rfl)
    (hfn : AllB X scope (fun B => B.fn x = true ∨ B.env.scope.names.lookup x = some .local) := by intro _ _ _ _ _; first | exact .inl rfl | exact .inr rfl)
    (hf : ∀ x, foldedSetIterable iter X.env x = pure x := by intro _; rfl) : SSs X (.Assign [.Name y p0] (.ListComp elt [⟨.Name x p1, iter, ifs, 0⟩] scope pos) spos :: rest) env μ R := by
  refine sss_cons (PS.imp (ps_setLc (i := j) (own := [(x, i)]) (g := gName i) (tt := rdTT X scope ifs) (te := rdEEn X scope elt) hc hN hy hyl hsw hi ok ?_ ?_ ?_ hf) fun D σ H ⟨F, as, hE, W, kn, _⟩ => ?_)
  · exact fun s H C cl fp => pg_name hN hn (hl s H C cl fp) (hfn s H C cl fp)
  · exact fun s H C cl fp => ⟨fun pins s2 σ H2 Q J ⟨env, m, q, m1, h, z⟩ => (h s H C cl fp).run pins s2 σ H2 Q J z⟩
  · exact fun s H C cl fp => ⟨fun pins s2 σ H2 Q J ⟨env, m, q, h, z⟩ => (h s H C cl fp).run pins s2 σ H2 Q J z⟩
  · refine lcN_read i I hz h0 hS hs hd σ H _ ⟨F, as, hE, W, fun s m v F1 H1 as1 p g1 W1 r1 => ?_⟩
    exact kn _ m _ F1 H1 as1 (hr s m p) g1 ((hE.mono g1).set r1 j) W1
end

/-! ### contracts by properties -/
def RetN (Post : SV → Mu → Prop) : Out → Prop := fun o => ∃ sv μ', RetTo sv μ' o ∧ Post sv μ'
def CtN (Pre : List SV → Mu → Prop) (Post : List SV → Mu → SV → Mu → Prop) (n : Nat) : Prop := (∀ args μ, Pre args μ → args.length = n) ∧ ∀ args μ sv μ', Pre args μ → Post args μ sv μ' → μ.length ≤ μ'.length ∧ ∀ j, sv = .cell j → μ.length ≤ j
section
variable {w : World} {P : Program} {base : Heap} {mg : Str → Option Value} {K : PySem.W.Frag} {Pre : List SV → Mu → Prop} {Post : List SV → Mu → SV → Mu → Prop}
theorem bodyN_run {X : Cx} {body : List Stmt} {N ps : List Str} {vs : List V} {H : Hp} {Q : VK} {E : XK} (ct : CtN Pre Post ps.length) (h : spN Pre Post vs H Q E)
    (hb : ∀ args μ, Pre args μ → SSs X body (args.map some ++ List.replicate (N.length - args.length) none) μ (RetN (Post args μ))) :
    ∃ t, PSs X body t ∧ t { nx := fun _ H' => Q .non H', rt := Q } (start N vs) H := by
  obtain ⟨F, as, args, μ, hC, r, W, k⟩ := h
  refine ⟨_, hb args μ hC, F, as, env_start r N.length, W, ?_, ?_, ?_, ?_⟩
  · rintro env2 m2 σ2 F2 H2 as2 ⟨sv, μ', h2, hp⟩ g2 e2 W2
    obtain ⟨c2, c3⟩ := ct.2 _ _ _ _ hC hp
    obtain ⟨F3, as3, g3, W3, r3⟩ := Ret.run h2 W c2 c3 g2 W2 .non
    exact k _ _ _ F3 H2 as3 hp g3 W3 r3
  · rintro s2 m2 v F2 H2 as2 ⟨sv, μ', h2, hp⟩ g2 W2 r2
    obtain ⟨c2, c3⟩ := ct.2 _ _ _ _ hC hp
    obtain ⟨F3, as3, g3, W3, r3⟩ := Ret.run h2 W c2 c3 g2 W2 r2
    exact k _ _ _ F3 H2 as3 hp g3 W3 r3
  · rintro _ _ _ _ _ _ ⟨_, _, h, _⟩
    exact h.elim
  · rintro _ _ _ _ _ _ ⟨_, _, h, _⟩
    exact h.elim
theorem okN {x qual : Str} {st : Stmt} {f : Addr} {fd : FuncData} {N ps : List Str} {k : Nat} (F : Fun K x qual st f fd) (S : FnScope N ps (defScope st)) (ct : CtN Pre Post ps.length)
    (hb : ∀ (cdv : Value) (A : Around) (outer : List Env) (s : Shared) (H : Hp) (E : XK), Room k (A.deeper (envOfC qual (defScope st) s.heap.objs.size f cdv)) → ∀ args μ, Pre args μ →
      SSs (bodyX P w K mg base N qual st f cdv A outer s H E) (defBody st) (args.map some ++ List.replicate (N.length - args.length) none) μ (RetN (Post args μ))) : FnOk P w K mg base CX0 (k + 1) f fd ps (spN Pre Post) := by
  refine F.ok S (fun vs H Q E ⟨F, as, args, μ, hC, r, _⟩ => ?_) fun cdv A outer s H vs Q E hr h => bodyN_run ct h (hb cdv A outer s H E hr)
  rw [← ct.1 _ _ hC]
  exact (Paired.length r).symm
theorem okNG {x qual : Str} {st : Stmt} {f : Addr} {fd : FuncData} {N ps : List Str} {k : Nat} (F : Fun K x qual st f fd) (S : FnScope N ps (defScope st)) (ct : CtN Pre Post ps.length)
    (hb : ∀ (cdv : Value) (A : Around) (outer : List Env) (s : Shared) (H : Hp) (E : XK), A.guards = some [] → Room k (A.deeper (envOfC qual (defScope st) s.heap.objs.size f cdv)) → ∀ args μ, Pre args μ →
      SSs (bodyX P w K mg base N qual st f cdv A outer s H E) (defBody st) (args.map some ++ List.replicate (N.length - args.length) none) μ (RetN (Post args μ))) : Gd.FnG P w K mg base CX0 (k + 1) f fd ps (spN Pre Post) := by
  refine Gd.okG F S (fun vs H Q E ⟨F, as, args, μ, hC, r, _⟩ => ?_) fun cdv A outer s H vs Q E gA hr h => bodyN_run ct h (hb cdv A outer s H E gA hr)
  rw [← ct.1 _ _ hC]
  exact (Paired.length r).symm
structure FnN (P : Program) (w : World) (K : PySem.W.Frag) (mg : Str → Option Value) (base : Heap) (k : Nat) (x : Str) (Pre : List SV → Mu → Prop) (Post : List SV → Mu → SV → Mu → Prop) : Prop where
  ex : ∃ f fd ps, FnOk P w K mg base CX0 k f fd ps (spN Pre Post) ∧ mg x = some (.ref f) ∧ PySem.W.keepIn K (.ref f) = true ∧ Binds K fd ps []
structure FnNG (P : Program) (w : World) (K : PySem.W.Frag) (mg : Str → Option Value) (base : Heap) (k : Nat) (x : Str) (Pre : List SV → Mu → Prop) (Post : List SV → Mu → SV → Mu → Prop) : Prop where
  ex : ∃ f fd ps, Gd.FnG P w K mg base CX0 k f fd ps (spN Pre Post) ∧ mg x = some (.ref f) ∧ PySem.W.keepIn K (.ref f) = true ∧ Binds K fd ps []
end
section
variable {X : Cx} {env : En} {μ : Mu} {e : Expr} {es : List Expr} {pos p0 : Pos} {x : Str} {k j : Nat} {Pre : List SV → Mu → Prop} {Post : List SV → Mu → SV → Mu → Prop} {PA : List SV → Mu → Prop} {P : SV → Mu → Prop}
theorem callN_read {t : TA} (ht : t = rdAn env μ PA) (hC : ∀ svs m, PA svs m → Pre svs m ∧ ∀ s m', Post svs m s m' → P s m') : ∀ σ H Q, rdEn env μ P σ H Q → tCall (spN Pre Post) [] E0 t σ H Q := by
  subst ht
  intro σ H Q ⟨F, as, hE, W, k⟩
  refine ⟨F, as, hE, W, fun svs m vs F1 H1 as1 p g1 W1 r1 => ?_⟩
  show spN Pre Post (vs ++ []) H1 Q E0
  rw [List.append_nil]
  obtain ⟨h1, h2⟩ := hC svs m p
  exact ⟨F1, as1, svs, m, h1, r1, W1, fun s m' v F2 H2 as2 q g2 W2 r2 => k s m' v F2 H2 as2 (h2 s m' q) (g1.trans g2) W2 r2⟩
theorem sen_call (F : FnN X.prog X.w X.K X.mg X.base k x Pre Post) (hr : Room j X.A) (ha : SAn X (e :: es) env μ PA) (hC : ∀ svs m, PA svs m → Pre svs m ∧ ∀ s m', Post svs m s m' → P s m') (hkj : k ≤ j := by decide) (hg : Gl X x := by rfl) (hdb : (x == ("__debug__" : Str)) = false := by decide)
    (he : starEach (e :: es) X.env = (false, eval e X.env) :: starEach es X.env := by rfl) (hpl : (backTo pos (starEach es X.env)).any (·.1) = false := by rfl) : SEn X (.Call (.Name x p0) (e :: es) [] pos) env μ P := by
  obtain ⟨f, fd, ps, h1, h2, h3, h4⟩ := F.ex
  exact PE.imp (pe_call h1 (hr.mono hkj) hg h2 h3 h4 .nil pass0 ha hdb he hpl) (callN_read rfl hC)
theorem sen_callG (F : FnNG X.prog X.w X.K X.mg X.base k x Pre Post) (gX : X.A.guards = some []) (hr : Room j X.A) (ha : SAn X (e :: es) env μ PA) (hC : ∀ svs m, PA svs m → Pre svs m ∧ ∀ s m', Post svs m s m' → P s m') (hkj : k ≤ j := by decide) (hg : Gl X x := by rfl) (hdb : (x == ("__debug__" : Str)) = false := by decide)
    (he : starEach (e :: es) X.env = (false, eval e X.env) :: starEach es X.env := by rfl) (hpl : (backTo pos (starEach es X.env)).any (·.1) = false := by rfl) : SEn X (.Call (.Name x p0) (e :: es) [] pos) env μ P := by
  obtain ⟨f, fd, ps, h1, h2, h3, h4⟩ := F.ex
  exact PE.imp (Gd.pe_callG h1 gX (hr.mono hkj) hg h2 h3 h4 .nil pass0 ha hdb he hpl) (callN_read rfl hC)
/-- the common case: plain arguments -/
theorem c_call {svs : List SV} {m : Mu} (F : FnN X.prog X.w X.K X.mg X.base k x Pre Post) (hr : Room j X.A) (ha : SA X (e :: es) env μ svs m) (hC : Pre svs m) (hkj : k ≤ j := by decide) (hg : Gl X x := by rfl) (hdb : (x == ("__debug__" : Str)) = false := by decide)
    (he : starEach (e :: es) X.env = (false, eval e X.env) :: starEach es X.env := by rfl) (hpl : (backTo pos (starEach es X.env)).any (·.1) = false := by rfl) : SEn X (.Call (.Name x p0) (e :: es) [] pos) env μ (Post svs m) :=
  sen_call F hr ha.n (fun _ _ ⟨h1, h2⟩ => by subst h1 h2; exact ⟨hC, fun _ _ h => h⟩) hkj hg hdb he hpl
theorem c_callG {svs : List SV} {m : Mu} (F : FnNG X.prog X.w X.K X.mg X.base k x Pre Post) (gX : X.A.guards = some []) (hr : Room j X.A) (ha : SA X (e :: es) env μ svs m) (hC : Pre svs m) (hkj : k ≤ j := by decide) (hg : Gl X x := by rfl) (hdb : (x == ("__debug__" : Str)) = false := by decide)
    (he : starEach (e :: es) X.env = (false, eval e X.env) :: starEach es X.env := by rfl) (hpl : (backTo pos (starEach es X.env)).any (·.1) = false := by rfl) : SEn X (.Call (.Name x p0) (e :: es) [] pos) env μ (Post svs m) :=
  sen_callG F gX hr ha.n (fun _ _ ⟨h1, h2⟩ => by subst h1 h2; exact ⟨hC, fun _ _ h => h⟩) hkj hg hdb he hpl
end
end Sy

/-! Sy10: x, y = a tuple. -/
namespace Sy
open PySem PySem.Spec PyProof.Rows L2
section
variable {X : Cx} {env : En} {μ μ1 : Mu} {e : Expr} {rest : List Stmt} {R : Out → Prop} {pos p0 p1 pt : Pos} {x y : Str} {P : SV → Mu → Prop}
theorem sss_tup2N (i j : Nat) {kt : Nat} (hc : X.calm = true) (hN : X.N.Nodup) (he : SEn X e env μ P) (hr : ∀ sv m, P sv m → ∃ d1 d2, sv = .dat (.tuple [d1, d2]) ∧ SSs X rest ((env.set i (some (.dat d1))).set j (some (.dat d2))) m R)
    (hi : X.N[i]? = some x := by rfl) (hj : X.N[j]? = some y := by rfl) (hx : Loc X.env.scope x := by first | exact .inl rfl | exact .inr rfl) (hy : Loc X.env.scope y := by first | exact .inl rfl | exact .inr rfl)
    (hf : X.fn x = true ∨ X.env.scope.names.lookup x = some .local := by first | exact .inl rfl | exact .inr rfl) (hf2 : X.fn y = true ∨ X.env.scope.names.lookup y = some .local := by first | exact .inl rfl | exact .inr rfl)
    (hs : swapsWithSole [.Tuple [.Name x p0, .Name y p1] kt pt] e pos.line X.env = pure false := by rfl) (hw : swappedStores [.Tuple [.Name x p0, .Name y p1] kt pt] e X.env = pure none := by rfl)
    (h1 : (assignEach [.Tuple [.Name x p0, .Name y p1] kt pt] X.env).map (·.2) = [assign (.Tuple [.Name x p0, .Name y p1] kt pt) X.env] := by rfl) :
    SSs X (.Assign [.Tuple [.Name x p0, .Name y p1] kt pt] e pos :: rest) env μ R := by
  refine sss_cons (PS.imp (ps_asg he (pg_tup hc (pgs_cons (pg_name (i := i) hN hi hx hf) (pgs_cons (pg_name (i := j) hN hj hy hf2) pgs_nil))) hs hw h1) fun D σ H ⟨F, as, hE, W, kn, _⟩ => ?_)
  refine ⟨F, as, hE, W, fun sv m v F1 H1 as1 p g1 W1 r1 => ?_⟩
  obtain ⟨d1, d2, rfl, hq⟩ := hr sv m p
  cases r1 with
  | tup e q =>
    cases q with
    | cons q1 t1 =>
      cases t1 with
      | cons q2 t2 =>
        cases t2
        exact ⟨_, _, rfl, .inl (.inl (W1.sub _ _ e)), rfl, _, _, rfl, _, _, rfl, rfl, kn _ m _ F1 H1 as1 hq g1 (((hE.mono g1).set (sv := .dat d1) q1 i).set (sv := .dat d2) q2 j) W1⟩
theorem sss_tup2 (i j : Nat) {kt : Nat} {d1 d2 : PyData} (hc : X.calm = true) (hN : X.N.Nodup) (he : SE X e env μ (.dat (.tuple [d1, d2])) μ1) (hr : SSs X rest ((env.set i (some (.dat d1))).set j (some (.dat d2))) μ1 R)
    (hi : X.N[i]? = some x := by rfl) (hj : X.N[j]? = some y := by rfl) (hx : Loc X.env.scope x := by first | exact .inl rfl | exact .inr rfl) (hy : Loc X.env.scope y := by first | exact .inl rfl | exact .inr rfl)
    (hf : X.fn x = true ∨ X.env.scope.names.lookup x = some .local := by first | exact .inl rfl | exact .inr rfl) (hf2 : X.fn y = true ∨ X.env.scope.names.lookup y = some .local := by first | exact .inl rfl | exact .inr rfl)
    (hs : swapsWithSole [.Tuple [.Name x p0, .Name y p1] kt pt] e pos.line X.env = pure false := by rfl) (hw : swappedStores [.Tuple [.Name x p0, .Name y p1] kt pt] e X.env = pure none := by rfl)
    (h1 : (assignEach [.Tuple [.Name x p0, .Name y p1] kt pt] X.env).map (·.2) = [assign (.Tuple [.Name x p0, .Name y p1] kt pt) X.env] := by rfl) :
    SSs X (.Assign [.Tuple [.Name x p0, .Name y p1] kt pt] e pos :: rest) env μ R :=
  sss_tup2N i j hc hN he.n (fun _ _ ⟨h, h'⟩ => ⟨d1, d2, h, h' ▸ hr⟩) hi hj hx hy hf hf2 hs hw h1
end
end Sy

set_option maxHeartbeats 2000000
/-! SyT: tuple * int. -/
namespace Sy
open PySem PySem.Spec PyProof.Rows L2
theorem tup_mul1 (l : Addr) (items : Array Value) (n : Nat) (sl : Array (Option Value)) (dd : Option Addr) (u : Tok) :
    Meets (Builtin.«tuple.__mul__» ⟨[.ref l, .int 1 u], []⟩) (fun _ R s => s.heap.get? l = some { cls := .type "tuple", dict := dd, data := .seq items n, slots := sl } ∧ R (.ok (.ret (.ref l))) s) :=
  .of_wp fun prog w A R s h => by
    obtain ⟨hp, g, d, tk, os⟩ := s
    obtain ⟨hl, h⟩ := h
    have f1 := AutoSeq1.idx_int
    wp_walk using wpAny_loadPart' hl
    exact ⟨_, rfl, h⟩
section
variable {X : Cx}
def rRep1 (K : PySem.W.Frag) : R2 := fun x y H Q => ∃ l xs, x = .ref l ∧ y = .int 1 ∧ SqT K H l xs ∧ Q (.ref l) H
theorem op_rep1 : OpR X (binaryOp .Mult) (rRep1 X.K) := by
  intro pins s σ H x y v u Q I rx ry h
  obtain ⟨l, xs, rfl, rfl, hT, q⟩ := h
  cases rx
  obtain ⟨t, rfl⟩ := ry
  obtain ⟨its, r, ⟨⟨cls, dd, data, sl⟩, ho, hc, n, hd⟩, hs⟩ := I.tuple hT
  simp only at hc hd
  subst hc hd
  refine wpAny_binaryOp_repeat_ref (T := "tuple") (U := "int") (by decide) ⟨_, ho, rfl⟩ (fun s' => typeIs_int s' 1 t) noFill_tuple_mul F.fills_int_mul F.slot_int_rmul repeat_tuple F.slot_int_index.lookup
    (call_meets F.slot_int_rmul (typeIs_int s 1 t) F.entry_int_rmul (F.args_int_rmul_2 _ _) (int_rmul_tuple 1 t l its.toArray n dd sl)
      ⟨ho, rfl, ⟨_, ho, rfl⟩, call_meets F.slot_tuple_mul ⟨_, ho, rfl⟩ F.entry_tuple_mul (F.args_tuple_mul_2 _ _) (tup_mul1 l its.toArray n sl dd t) ⟨ho, ?_⟩⟩)
  exact ⟨.ref l, H, I, rfl, q⟩
def mulTD : PyData → PyData → Option Res
  | .tuple a, .int n => some (.newT (List.replicate n.toNat a).flatten)
  | _, _ => none
@[reducible] def mulTOk : PyData → PyData → Prop
  | .tuple a, .int n => a ≠ [] ∧ 1 ≤ n ∧ n ≤ 1000 ∧ a.length ≤ 1000
  | _, _ => True
def rMulT (K : PySem.W.Frag) : R2 := fun x y H Q => rRep1 K x y H Q ∨ rRepT K x y H Q
theorem op_mulT : OpR X (binaryOp .Mult) (rMulT X.K) := op_rep1.or op_repT
theorem os_mulT {K : PySem.W.Frag} : OpS (rMulT K) mulTD mulTOk := by
  intro F H x y d1 d2 res Q s h1 h2 hf hk k
  cases d1 <;> cases d2 <;> simp only [mulTD, reduceCtorEq, Option.some.injEq] at hf <;> subst hf
  rename_i ds n
  cases h2
  cases h1 with
  | tup e q =>
    obtain ⟨z0, z1, z2, z3⟩ := hk
    by_cases hn : n = 1
    · subst hn
      refine .inl ⟨_, _, rfl, rfl, .inl (.inl (s _ _ e)), k.1 _ ?_⟩
      have e1 : (List.replicate (1 : Int).toNat ds).flatten = ds := by
        show (List.replicate 1 ds).flatten = ds
        simp
      rw [e1]
      exact .tup e q
    · exact .inr ⟨_, n, _, rfl, rfl, .inl (.inl (s _ _ e)), fun z => z0 (by have := q.length; rw [z] at this; exact List.eq_nil_of_length_eq_zero this.symm), by omega, z2, by rw [q.length]; exact z3, fun p np => k.2 p _ np (q.rep _)⟩
variable {env : En} {μ μ1 μ2 μ' : Mu} {sv s1 s2 : SV} {a b : Expr} {pos : Pos} {d1 d2 : PyData} {res : Res}
theorem e_mulT (ha : SE X a env μ s1 μ1) (hb : SE X b env μ1 s2 μ2) (v1 : Sy.view μ2 s1 = some d1 := by rfl) (v2 : Sy.view μ2 s2 = some d2 := by rfl) (hf : mulTD d1 d2 = some res := by rfl) (hk : mulTOk d1 d2 := by first | assumption | trivial)
    (fin : Fi res μ2 sv μ' := by exact Sy.Fi.tup) : SE X (.BinOp a .Mult b pos) env μ sv μ' := se_bin op_mulT os_mulT ha hb v1 v2 hf hk fin
end
end Sy

/-! Sy11: an if whose two ways meet; a tuple of things told by a property. -/
namespace Sy
open PySem PySem.Spec PyProof.Rows L2
section
variable {X : Cx} {env : En} {μ μ1 : Mu} {c : Expr} {es : List Expr} {A B rest sts : List Stmt} {R R1 R2 : Out → Prop} {pos : Pos} {P : SV → Mu → Prop} {PA : List SV → Mu → Prop}
theorem SSs.mono (h : SSs X sts env μ R1) (i : ∀ o, R1 o → R2 o) : SSs X sts env μ R2 :=
  PSs.imp h fun D σ H ⟨F, as, he, W, kn, kr, kb, kc⟩ => ⟨F, as, he, W, fun e m s F' H' as' r => kn e m s F' H' as' (i _ r), fun e m s F' H' as' r => kr e m s F' H' as' (i _ r), fun e m s F' H' as' r => kb e m s F' H' as' (i _ r), fun e m s F' H' as' r => kc e m s F' H' as' (i _ r)⟩
def JR (J : En → Mu → Prop) (R : Out → Prop) : Out → Prop
  | .next env μ => J env μ
  | o => R o
theorem JR.thn {J : En → Mu → Prop} (hJ : ∀ env μ, J env μ → SSs X rest env μ R) : ∀ o, JR J R o → Thn X rest R o
  | .next env μ, h => hJ env μ h
  | .ret _ _, h => h
  | .brk _ _, h => h
  | .cont _ _, h => h
theorem sss_ifJ {q : Bool} (J : En → Mu → Prop) (ht : ST X c env μ q μ1) (hA : q = true → SSs X A env μ1 (JR J R)) (hB : q = false → SSs X B env μ1 (JR J R)) (hJ : ∀ env μ, J env μ → SSs X rest env μ R) : SSs X (.If c A B pos :: rest) env μ R :=
  sss_if ht (fun h => (hA h).mono (JR.thn hJ)) (fun h => (hB h).mono (JR.thn hJ))
theorem sen_t {j : Nat} (ha : SAn X es env μ PA) (h : ∀ svs m, PA svs m → ∃ ds, svs = ds.map SV.dat ∧ ds.length ≤ sizeLine ∧ P (.dat (.tuple ds)) m) : SEn X (.Tuple es j pos) env μ P := by
  refine PE.imp (pe_tup ha) fun σ H Q ⟨F, as, he, W, k⟩ => ⟨F, as, he, W, fun svs m xs F1 H1 as1 p g1 W1 r1 => ?_⟩
  obtain ⟨ds, rfl, hz, hp⟩ := h svs m p
  have dv := RAll.dvs (H := H1) r1
  exact ⟨by rw [dv.length]; exact hz, fun p np => (Fi.tup.run W1 fun v F3 H3 as3 g3 W3 r3 => k _ m v F3 H3 as3 hp (g1.trans g3) W3 r3).2 p xs np dv⟩
end
end Sy

/-! LC1: the laws' bag: its mathematics. -/
namespace Lw
open PySem Sy

/-- the laws' bag -/
structure Bag where
  a : Int
  seed : Int
  i : Int
  cells : List Int
def bagD (s : Bag) : List PyData := [.int s.a, .int s.seed, .int s.i, .list (s.cells.map PyData.int)]
def bagC (s : Bag) : Cell := .lst (bagD s)
structure Good (s : Bag) : Prop where
  a0 : 0 ≤ s.a
  s0 : 0 ≤ s.seed
  s1 : s.seed < 2147483647
  i0 : 0 ≤ s.i
def cellOf (s : Bag) : Int := if s.i < s.cells.length then s.cells.getD s.i.toNat 0 else 0
def fill (s : Bag) : Bag := if s.a = 0 then
    ⟨if 1000000000000000000 ≤ cellOf s then cellOf s else 0, (s.seed * 48271 + (cellOf s % 2147483647 + 7919 * (s.i + 1))) % 2147483647, s.i + 1, s.cells⟩
  else s
def takeV (s : Bag) (n : Int) : Int := if 0 < (fill s).a then (fill s).a % n else ((fill s).seed * 48271 + 11) % 2147483647 / 64 % n
def takeS (s : Bag) (n : Int) : Bag := if 0 < (fill s).a then { fill s with a := (fill s).a / n } else { fill s with seed := ((fill s).seed * 48271 + 11) % 2147483647 }
theorem fill_good {s : Bag} (h : Good s) : Good (fill s) := by
  unfold fill
  split
  · refine ⟨?_, Int.emod_nonneg _ (by decide), Int.emod_lt_of_pos _ (by decide), ?_⟩
    · show 0 ≤ if 1000000000000000000 ≤ cellOf s then cellOf s else 0
      split <;> omega
    · show 0 ≤ s.i + 1
      have := h.i0
      omega
  · exact h
theorem takeS_good {s : Bag} {n : Int} (h : Good s) (hn : 0 < n) : Good (takeS s n) := by
  have f := fill_good h
  unfold takeS
  split
  · exact ⟨Int.ediv_nonneg f.a0 (Int.le_of_lt hn), f.s0, f.s1, f.i0⟩
  · exact ⟨f.a0, Int.emod_nonneg _ (by decide), Int.emod_lt_of_pos _ (by decide), f.i0⟩
theorem takeV_nonneg {s : Bag} {n : Int} (hn : 0 < n) : 0 ≤ takeV s n := by
  unfold takeV
  split <;> exact Int.emod_nonneg _ (by omega)
theorem takeV_lt {s : Bag} {n : Int} (hn : 0 < n) : takeV s n < n := by
  unfold takeV
  split <;> exact Int.emod_lt_of_pos _ hn
/-- take's promise: the bag is the first cell -/
def CTake : List SV → Mu → SV → Mu → Prop := fun args μ sv μ' => ∃ s n m, args = [.cell 0, .dat (.int n)] ∧ μ = bagC s :: m ∧ Good s ∧ 0 < n ∧ n < 1073741824 ∧ sv = .dat (.int (takeV s n)) ∧ μ' = bagC (takeS s n) :: m
theorem ct_take : CtOk CTake 2 := by
  rintro _ _ _ _ ⟨s, n, m, rfl, rfl, _, _, _, rfl, rfl⟩
  exact ⟨rfl, Nat.le_refl _, fun j e => nomatch e⟩
end Lw

/-! LC2: data that can be compared and shown. -/
namespace Lw
open PySem Sy L2

/-- data that == and repr take: how deep at most, how long its text at most -/
structure Ok (d : PyData) (h n : Nat) : Prop where
  lay : d.canLay0 = true
  shw : d.showable = true
  dep : d.depth ≤ h
  txt : d.shown.length ≤ n
theorem Ok.mono {d : PyData} {h n h' n' : Nat} (o : Ok d h n) (a : h ≤ h') (b : n ≤ n') : Ok d h' n' := ⟨o.lay, o.shw, Nat.le_trans o.dep a, Nat.le_trans o.txt b⟩
theorem str_len_append (a b : Str) : (a ++ b).length = a.length + b.length := by
  show (a.cps ++ b.cps).size = a.cps.size + b.cps.size
  exact Array.size_append
theorem Ok.none : Ok .none 0 4 := ⟨rfl, rfl, Nat.le_refl _, by decide⟩
theorem Ok.bool (b : Bool) : Ok (.bool b) 0 5 := by cases b <;> exact ⟨rfl, rfl, Nat.le_refl _, by decide⟩
theorem Ok.str {x : Str} (h : PyData.strOk x = true) {n : Nat} (hn : x.length ≤ n) : Ok (.str x) 0 (10 * n + 2) := by
  refine ⟨by simpa [PyData.canLay0] using h, rfl, Nat.le_refl _, ?_⟩
  have k := StrLaws.reprText_len x fun c hc => by
    have := h
    unfold PyData.strOk at this
    rw [Array.all_eq_true'] at this
    have z := of_decide_eq_true (this c (Array.mem_toList_iff.mp hc))
    omega
  show (reprText x).length ≤ _
  omega
theorem textFrom_le : ∀ (ts : List Str) (k : Nat) (acc : Str), (textFrom k acc ts).length ≤ acc.length + piled ts
  | [], k, acc => Nat.le_refl _
  | t :: r, k, acc => by
    have ih := textFrom_le r (k + 1) (acc ++ (if k > 0 then ", " else "" : String) ++ t)
    rw [str_len_append, str_len_append] at ih
    rw [piled_cons]
    have : (Str.ofString (if k > 0 then ", " else "" : String)).length ≤ 2 := by split <;> decide
    show (textFrom (k + 1) (acc ++ (if k > 0 then ", " else "" : String) ++ t) r).length ≤ _
    omega
theorem piled_le {n : Nat} : ∀ {ts : List Str}, (∀ t ∈ ts, t.length ≤ n) → piled ts ≤ ts.length * (n + 2)
  | [], _ => Nat.zero_le _
  | t :: r, h => by
    have ih := piled_le (ts := r) fun t ht => h t (List.mem_cons_of_mem _ ht)
    have := h t List.mem_cons_self
    rw [piled_cons, List.length_cons, Nat.succ_mul]
    omega
theorem shownAll_len : ∀ ds : List PyData, (PyData.shownAll ds).length = ds.length
  | [] => rfl
  | d :: ds => by simp [PyData.shownAll, shownAll_len ds]
theorem shownAll_le {n : Nat} : ∀ {ds : List PyData}, (∀ d ∈ ds, d.shown.length ≤ n) → ∀ t ∈ PyData.shownAll ds, t.length ≤ n
  | [], _, t, ht => by simp [PyData.shownAll] at ht
  | d :: ds, h, t, ht => by
    simp only [PyData.shownAll, List.mem_cons] at ht
    rcases ht with rfl | ht
    · exact h d List.mem_cons_self
    · exact shownAll_le (ds := ds) (fun d hd => h d (List.mem_cons_of_mem _ hd)) t ht
theorem all_lay {h n : Nat} : ∀ {ds : List PyData}, (∀ d ∈ ds, Ok d h n) → PyData.canLayAll0 ds = true ∧ PyData.showableAll ds = true ∧ PyData.depthAll ds ≤ h
  | [], _ => ⟨rfl, rfl, Nat.zero_le _⟩
  | d :: ds, k => by
    obtain ⟨h1, h2, h3⟩ := all_lay (ds := ds) fun d hd => k d (List.mem_cons_of_mem _ hd)
    have o := k d List.mem_cons_self
    refine ⟨by simp only [PyData.canLayAll0, o.lay, h1, Bool.and_self], by simp only [PyData.showableAll, o.shw, h2, Bool.and_self], ?_⟩
    show max d.depth (PyData.depthAll ds) ≤ h
    have := o.dep
    omega
theorem Ok.list {ds : List PyData} {h n : Nat} (k : ∀ d ∈ ds, Ok d h n) {m : Nat} (hm : ds.length ≤ m) : Ok (.list ds) (h + 1) (m * (n + 2) + 2) := by
  obtain ⟨h1, h2, h3⟩ := all_lay k
  refine ⟨h1, h2, Nat.succ_le_succ h3, ?_⟩
  show (textFrom 0 "[" (PyData.shownAll ds) ++ Str.ofString "]").length ≤ _
  rw [str_len_append]
  have a := textFrom_le (PyData.shownAll ds) 0 "["
  have b := piled_le (shownAll_le fun d hd => (k d hd).txt)
  rw [shownAll_len] at b
  have c : (Str.ofString "[").length = 1 := by decide
  have d : (Str.ofString "]").length = 1 := by decide
  have e : ds.length * (n + 2) ≤ m * (n + 2) := Nat.mul_le_mul_right _ hm
  omega
theorem Ok.tuple {ds : List PyData} {h n : Nat} (k : ∀ d ∈ ds, Ok d h n) {m : Nat} (hm : ds.length ≤ m) : Ok (.tuple ds) (h + 1) (m * (n + 2) + 3) := by
  obtain ⟨h1, h2, h3⟩ := all_lay k
  refine ⟨h1, h2, Nat.succ_le_succ h3, ?_⟩
  show (Str.ofString "(" ++ Str.join ", " (PyData.shownAll ds) ++ (Str.ofString (if (PyData.shownAll ds).length == 1 then ",)" else ")" : String))).length ≤ _
  rw [str_len_append, str_len_append]
  have b := piled_le (shownAll_le fun d hd => (k d hd).txt)
  rw [shownAll_len] at b
  have c : (Str.ofString "(").length = 1 := by decide
  have d : (Str.ofString (if (PyData.shownAll ds).length == 1 then ",)" else ")" : String)).length ≤ 2 := by split <;> decide
  have e : ds.length * (n + 2) ≤ m * (n + 2) := Nat.mul_le_mul_right _ hm
  by_cases hz : PyData.shownAll ds = []
  · rw [hz]
    have f : (Str.join (Str.ofString ", ") []).length = 0 := by decide
    rw [hz] at d
    omega
  · have := join_length_add (PyData.shownAll ds) hz
    omega
theorem Ok.mem {ds : List PyData} {h n : Nat} (o : Ok (.list ds) h n) : True := trivial
mutual
theorem noDict : ∀ {d : PyData}, d.canLay0 = true → d.hasDict = false
  | .none, _ => rfl
  | .bool _, _ => rfl
  | .int _, _ => rfl
  | .str _, _ => rfl
  | .list ds, h => noDicts (ds := ds) h
  | .tuple ds, h => noDicts (ds := ds) h
  | .dict _, h => nomatch h
theorem noDicts : ∀ {ds : List PyData}, PyData.canLayAll0 ds = true → PyData.hasDictAll ds = false
  | [], _ => rfl
  | d :: ds, h => by
    simp only [PyData.canLayAll0, Bool.and_eq_true] at h
    simp only [PyData.hasDictAll, noDict h.1, noDicts h.2, Bool.or_self]
end
theorem Ok.shaped {d : PyData} {h n : Nat} (o : Ok d h n) (hh : h ≤ 64 := by decide) : SeqAt.shaped d = true := by
  unfold SeqAt.shaped
  rw [o.lay, decide_eq_true (Nat.le_trans o.dep hh)]
  rfl
theorem Ok.repr {d : PyData} {h n : Nat} (o : Ok d h n) (hn : n ≤ sizeLine) (hh : h ≤ 64 := by decide) : reprOk [d] :=
  ⟨o.shw, noDict o.lay, Nat.le_trans o.dep hh, Nat.le_trans o.txt hn⟩
theorem eq_of {d e : PyData} {h n h' n' : Nat} (o : Ok d h n) (o' : Ok e h' n') (hh : h ≤ 64 := by decide) (hh' : h' ≤ 64 := by decide) : eqOk d e := ⟨o.shaped hh, o'.shaped hh'⟩
/-! ### names -/
abbrev nameD (n : List Str) : PyData := .tuple (n.map PyData.str)
theorem eqvAll_strs : ∀ a b : List Str, PyData.eqvAll (a.map PyData.str) (b.map PyData.str) = decide (a = b)
  | [], [] => rfl
  | [], _ :: _ => rfl
  | _ :: _, [] => rfl
  | x :: a, y :: b => by
    show (PyData.eqv (.str x) (.str y) && PyData.eqvAll (a.map PyData.str) (b.map PyData.str)) = _
    rw [eqvAll_strs a b]
    show ((x == y) && decide (a = b)) = _
    by_cases h1 : x = y
    · by_cases h2 : a = b
      · simp [h1, h2]
      · simp [h1, h2]
    · simp [h1]
theorem eqv_name (a b : List Str) : PyData.eqv (nameD a) (nameD b) = decide (a = b) := eqvAll_strs a b
theorem strs_inj {a b : List Str} (h : a.map PyData.str = b.map PyData.str) : a = b := by
  have e1 := eqvAll_strs a b
  have e2 := eqvAll_strs b b
  rw [h, e2, decide_eq_true rfl] at e1
  exact of_decide_eq_true e1.symm
/-- a label as the laws have them -/
structure Lab (x : Str) : Prop where
  let_ : ∀ c ∈ x.cps.toList, 97 ≤ c ∧ c ≤ 122
  pos : 1 ≤ x.length
  len : x.length ≤ 16
theorem Lab.ok {x : Str} (h : Lab x) : PyData.strOk x = true := by
  unfold PyData.strOk
  rw [Array.all_eq_true']
  intro c hc
  have := h.let_ c (Array.mem_toList_iff.mpr hc)
  exact decide_eq_true (by omega)
theorem Lab.append {x y : Str} (h : Lab x) (h' : Lab y) (hl : x.length + y.length ≤ 16) : Lab (x ++ y) := by
  refine ⟨fun c hc => ?_, by rw [str_len_append]; have := h.pos; omega, by rw [str_len_append]; exact hl⟩
  have : c ∈ (x.cps ++ y.cps).toList := hc
  rw [Array.toList_append] at this
  rcases List.mem_append.mp this with z | z
  · exact h.let_ c z
  · exact h'.let_ c z
structure Nm (n : List Str) (k : Nat) : Prop where
  lab : ∀ x ∈ n, Lab x
  len : n.length ≤ k
theorem Nm.okD {n : List Str} {k : Nat} (h : Nm n k) : Ok (nameD n) 1 (k * 164 + 3) :=
  Ok.tuple (h := 0) (n := 162) (fun d hd => by
    obtain ⟨x, hx, rfl⟩ := List.mem_map.mp hd
    exact (Ok.str (h.lab x hx).ok (h.lab x hx).len)) (by rw [List.length_map]; exact h.len)
theorem Nm.drop {n : List Str} {k : Nat} (h : Nm n k) (i : Nat) : Nm (n.drop i) k := ⟨fun x hx => h.lab x (List.mem_of_mem_drop hx), by rw [List.length_drop]; have := h.len; omega⟩
theorem Nm.take {n : List Str} {k : Nat} (h : Nm n k) (i : Nat) : Nm (n.take i) k := ⟨fun x hx => h.lab x (List.mem_of_mem_take hx), by rw [List.length_take]; have := h.len; omega⟩
theorem Nm.append {n m : List Str} {k j : Nat} (h : Nm n k) (h' : Nm m j) : Nm (n ++ m) (k + j) := ⟨fun x hx => (List.mem_append.mp hx).elim (h.lab x) (h'.lab x), by rw [List.length_append]; have := h.len; have := h'.len; omega⟩
theorem Nm.mono {n : List Str} {k j : Nat} (h : Nm n k) (e : k ≤ j) : Nm n j := ⟨h.lab, Nat.le_trans h.len e⟩
theorem Nm.nil {k : Nat} : Nm [] k := ⟨fun x hx => (nomatch hx), Nat.zero_le _⟩
/-! ### cuts -/
theorem cutD_from {ds : List PyData} {i : Int} (h : 0 ≤ i) : cutD ds (some i) none = ds.drop i.toNat := by
  unfold cutD
  obtain ⟨n, rfl⟩ := Int.eq_ofNat_of_zero_le h
  rw [show HT.sIx ds.length 0 (some (n : Int)) = min n ds.length from HT.sIx_nat _ _ _, HT.sIx_none]
  show (ds.drop (min n ds.length)).take (ds.length - min n ds.length) = ds.drop n
  by_cases hn : n ≤ ds.length
  · rw [Nat.min_eq_left hn, List.take_of_length_le (by rw [List.length_drop]; exact Nat.le_refl _)]
  · rw [Nat.min_eq_right (by omega), List.drop_eq_nil_of_le (Nat.le_refl _), List.drop_eq_nil_of_le (by omega)]
    simp
theorem cutD_to {ds : List PyData} {i : Int} (h : 0 ≤ i) : cutD ds none (some i) = ds.take i.toNat := by
  unfold cutD
  obtain ⟨n, rfl⟩ := Int.eq_ofNat_of_zero_le h
  rw [show HT.sIx ds.length ds.length (some (n : Int)) = min n ds.length from HT.sIx_nat _ _ _, HT.sIx_none, List.drop_zero, Nat.sub_zero]
  show ds.take (min n ds.length) = ds.take n
  by_cases hn : n ≤ ds.length
  · rw [Nat.min_eq_left hn]
  · rw [Nat.min_eq_right (by omega), List.take_length, List.take_of_length_le (by omega)]
/-! ### a place in a list -/
theorem ixD_at {ds : List PyData} {i : Int} {d : PyData} (h0 : 0 ≤ i) (h : ds[i.toNat]? = some d) : ixD (.list ds) (.int i) = some (.val d) := by
  have h2 := (List.getElem?_eq_some_iff.mp h).1
  show (atI ds i).map Res.val = _
  unfold atI ixN
  rw [if_pos h0, if_pos (by omega)]
  show (ds[i.toNat]?).map Res.val = _
  rw [h]
  rfl
theorem ixD_atT {ds : List PyData} {i : Int} {d : PyData} (h0 : 0 ≤ i) (h : ds[i.toNat]? = some d) : ixD (.tuple ds) (.int i) = some (.val d) := ixD_at h0 h
theorem ixD_atS {z : Str} {i : Int} {c : Nat} (h0 : 0 ≤ i) (h : z.cps.toList[i.toNat]? = some c) : ixD (.str z) (.int i) = some (.val (.str ⟨#[c]⟩)) := by
  have h2 := (List.getElem?_eq_some_iff.mp h).1
  show (atI z.cps.toList i).map _ = _
  unfold atI ixN
  rw [if_pos h0, if_pos (by omega)]
  show (z.cps.toList[i.toNat]?).map _ = _
  rw [h]
  rfl
theorem ixD_ints {ns : List Int} {i : Int} (h0 : 0 ≤ i) (h1 : i < ns.length) : ixD (.list (ns.map PyData.int)) (.int i) = some (.val (.int (ns.getD i.toNat 0))) := by
  refine ixD_at h0 ?_
  have h2 : i.toNat < ns.length := by omega
  rw [List.getElem?_map, List.getElem?_eq_getElem h2, List.getD_eq_getElem?_getD, List.getElem?_eq_getElem h2]
  rfl
/-! ### contracts of what draws from the bag -/
def BPre (A : List SV → Prop) : List SV → Mu → Prop := fun args μ => ∃ s m r, args = .cell 0 :: r ∧ μ = bagC s :: m ∧ Good s ∧ A r
def BPost (R : List SV → SV → Prop) : List SV → Mu → SV → Mu → Prop := fun args μ sv μ' => ∃ r s m s', args = .cell 0 :: r ∧ μ = bagC s :: m ∧ Good s' ∧ μ' = bagC s' :: m ∧ R r sv
theorem ct_bag {A : List SV → Prop} {R : List SV → SV → Prop} {n : Nat} (h1 : ∀ r, A r → r.length + 1 = n) (h2 : ∀ r sv j, R r sv → sv ≠ .cell j) : CtN (BPre A) (BPost R) n := by
  refine ⟨?_, ?_⟩
  · rintro _ _ ⟨s, m, r, rfl, rfl, _, a⟩
    exact h1 r a
  · rintro _ _ _ _ _ ⟨r, s, m, s', rfl, rfl, _, rfl, hr⟩
    exact ⟨Nat.le_refl _, fun j e => absurd e (h2 r _ j hr)⟩
section
variable {X : Cx} {env : En} {μ : Mu} {e : Expr} {es : List Expr} {pos p0 : Pos} {x : Str} {k j : Nat} {A : List SV → Prop} {R : List SV → SV → Prop} {r : List SV} {s : Bag} {m : Mu}
theorem b_call (F : FnN X.prog X.w X.K X.mg X.base k x (BPre A) (BPost R)) (hr : Room j X.A) (ha : SA X (e :: es) env μ (.cell 0 :: r) (bagC s :: m)) (hs : Good s) (hA : A r) (hkj : k ≤ j := by decide) (hg : Gl X x := by rfl) (hdb : (x == ("__debug__" : Str)) = false := by decide)
    (he : starEach (e :: es) X.env = (false, eval e X.env) :: starEach es X.env := by rfl) (hpl : (backTo pos (starEach es X.env)).any (·.1) = false := by rfl) :
    SEn X (.Call (.Name x p0) (e :: es) [] pos) env μ (fun sv μ' => ∃ s', Good s' ∧ μ' = bagC s' :: m ∧ R r sv) := by
  refine (c_call F hr ha ⟨s, m, r, rfl, rfl, hs, hA⟩ hkj hg hdb he hpl).imp ?_
  rintro sv μ' ⟨r', s1, m1, s', e1, e2, g, e3, h⟩
  cases e1
  obtain rfl := (List.cons.inj e2).2
  exact ⟨s', g, e3, h⟩
/-- take(bag, n) -/
theorem e_take {n : Int} (F : FnS X.prog X.w X.K X.mg X.base k "_law_take" CTake) (hr : Room j X.A) (ha : SA X (e :: es) env μ [.cell 0, .dat (.int n)] (bagC s :: m)) (hs : Good s) (hn : 0 < n ∧ n < 1073741824 := by omega) (hkj : k ≤ j := by decide) (hg : Gl X "_law_take" := by rfl)
    (he : starEach (e :: es) X.env = (false, eval e X.env) :: starEach es X.env := by rfl) (hpl : (backTo pos (starEach es X.env)).any (·.1) = false := by rfl) :
    SE X (.Call (.Name "_law_take" p0) (e :: es) [] pos) env μ (.dat (.int (takeV s n))) (bagC (takeS s n) :: m) :=
  se_call F hr ha ⟨s, n, m, rfl, rfl, hs, hn.1, hn.2, rfl, rfl⟩ hkj hg (by decide) he hpl
end
theorem at_draw {ds : List PyData} {b : Bag} (h : ds ≠ []) : ∃ d, d ∈ ds ∧ ds[(takeV b (ds.length : Int)).toNat]? = some d := by
  have hl : 0 < ds.length := List.length_pos_iff.mpr h
  have h1 := takeV_nonneg (s := b) (n := (ds.length : Int)) (by omega)
  have h2 := takeV_lt (s := b) (n := (ds.length : Int)) (by omega)
  have h3 : (takeV b (ds.length : Int)).toNat < ds.length := by omega
  exact ⟨_, List.getElem_mem h3, List.getElem?_eq_getElem h3⟩
theorem ret_same {s1 s2 : SV} {m1 m2 : Mu} (h : s1 = s2) (h' : m1 = m2) : Ret s1 m1 s2 m2 := by subst h h'; exact Ret.same
end Lw

/-! LC3: contracts of the laws' helpers and of the names' defs. -/
namespace Lw
open PySem PySem.Spec PyProof.Rows L2 Sy
section
variable {w : World} {P : Program} {base : Heap} {mg : Str → Option Value} {K : PySem.W.Frag}
/-! #### alike, pick, labels, word -/
def CAlike : List SV → Mu → SV → Mu → Prop := fun args μ sv μ' => ∃ s1 s2 d h n, args = [s1, s2] ∧ Sy.view μ s1 = some d ∧ Sy.view μ s2 = some d ∧ Ok d h n ∧ h ≤ 64 ∧ n ≤ sizeLine ∧ sv = .dat (.bool true) ∧ μ' = μ
theorem ct_alike : CtOk CAlike 2 := by
  rintro _ _ _ _ ⟨s1, s2, d, h, n, rfl, _, _, _, _, _, rfl, rfl⟩
  exact ⟨rfl, Nat.le_refl _, fun j e => nomatch e⟩
def APick : List SV → Prop := fun r => ∃ ds, r = [.dat (.list ds)] ∧ ds ≠ [] ∧ ds.length < 1073741824
def RPick : List SV → SV → Prop := fun r sv => ∃ ds d, r = [.dat (.list ds)] ∧ d ∈ ds ∧ sv = .dat d
theorem ct_pick : CtN (BPre APick) (BPost RPick) 2 := ct_bag (by rintro _ ⟨ds, rfl, _⟩; rfl) (by rintro _ _ j ⟨ds, d, _, _, rfl⟩ e; exact nomatch e)
/-! #### labels -/
def ALabels : List SV → Prop := fun r => ∃ n : Nat, r = [.dat (.int (n : Int))] ∧ n ≤ 100
def RLabels : List SV → SV → Prop := fun r sv => ∃ (n : Nat) (ls : List Str), r = [.dat (.int (n : Int))] ∧ sv = .dat (.list (ls.map PyData.str)) ∧ ls.length = n ∧ ∀ x ∈ ls, Lab x ∧ x.length ≤ 8
theorem ct_labels : CtN (BPre ALabels) (BPost RLabels) 2 := ct_bag (by rintro _ ⟨ds, rfl, _⟩; rfl) (by rintro _ _ j ⟨ds, d, _, rfl, _⟩ e; exact nomatch e)
/-- a stem: letters, at most seven -/
structure Stem (x : Str) : Prop where
  let_ : ∀ c ∈ x.cps.toList, 97 ≤ c ∧ c ≤ 122
  len : x.length ≤ 7
theorem stems_ok : ∀ d ∈ ([.str "", .str "a", .str "zzzzzzz", .str "aaaaaaa"] : List PyData), ∃ x, d = .str x ∧ Stem x := by
  intro d hd
  simp only [List.mem_cons, List.not_mem_nil, or_false] at hd
  rcases hd with rfl | rfl | rfl | rfl
  · exact ⟨_, rfl, by decide, by decide⟩
  · exact ⟨_, rfl, by decide, by decide⟩
  · exact ⟨_, rfl, by decide, by decide⟩
  · exact ⟨_, rfl, by decide, by decide⟩
theorem mul_bit {x : Str} (h : Stem x) {n : Int} (h0 : 0 ≤ n) (h1 : n < 2) : MulOk x n ∧ Stem (Txt.mul x n) := by
  have hn : n = 0 ∨ n = 1 := by omega
  rcases hn with rfl | rfl
  · exact ⟨⟨by decide, fun z => absurd (by decide) z, fun z => absurd (by decide) z⟩, by rw [show Txt.mul x 0 = Str.empty from rfl]; exact ⟨by decide, by decide⟩⟩
  · refine ⟨⟨by decide, fun _ z => ?_, fun _ z => ?_⟩, ?_⟩
    · exact absurd z (by simp)
    · exact absurd z (by simp)
    · rw [show Txt.mul x 1 = x from rfl]
      exact h
theorem lab_of {x : Str} (h : Stem x) {c : Nat} (hc : 97 ≤ c ∧ c ≤ 122) : Lab (x ++ ⟨#[c]⟩) ∧ (x ++ (⟨#[c]⟩ : Str)).length ≤ 8 := by
  have hl := h.len
  have e : (x ++ (⟨#[c]⟩ : Str)).length = x.length + 1 := str_len_append x ⟨#[c]⟩
  refine ⟨⟨fun z hz => ?_, by omega, by omega⟩, by omega⟩
  have : z ∈ (x.cps ++ #[c]).toList := hz
  rw [Array.toList_append] at this
  rcases List.mem_append.mp this with q | q
  · exact h.let_ z q
  · obtain rfl : z = c := by simpa using q
    exact hc
theorem letter_at {i : Int} (h0 : 0 ≤ i) (h1 : i < 26) : ∃ c, (Str.ofString "abcdefghijklmnopqrstuvwxyz").cps.toList[i.toNat]? = some c ∧ 97 ≤ c ∧ c ≤ 122 := by
  have h2 : i.toNat < 26 := by omega
  have : ∀ n : Nat, n < 26 → ∃ c, (Str.ofString "abcdefghijklmnopqrstuvwxyz").cps.toList[n]? = some c ∧ 97 ≤ c ∧ c ≤ 122 := by decide
  exact this _ h2
/-! #### word -/
def AWord : List SV → Prop := fun r => ∃ (ls : List Str) (a b : Int), r = [.dat (.list (ls.map PyData.str)), .dat (.int a), .dat (.int b)] ∧ ls ≠ [] ∧ ls.length ≤ 1000 ∧ 0 ≤ a ∧ a ≤ b ∧ b ≤ 100
def RWord : List SV → SV → Prop := fun r sv => ∃ (ls : List Str) (a b : Int) (n : List Str), r = [.dat (.list (ls.map PyData.str)), .dat (.int a), .dat (.int b)] ∧ sv = .dat (nameD n) ∧ a ≤ n.length ∧ n.length ≤ b ∧ ∀ x ∈ n, x ∈ ls
theorem ct_word : CtN (BPre AWord) (BPost RWord) 4 := ct_bag (by rintro _ ⟨ls, a, b, rfl, _⟩; rfl) (by rintro _ _ j ⟨ls, a, b, n, _, rfl, _⟩ e; exact nomatch e)
/-! #### the bag -/
def spBag (K : PySem.W.Frag) : Sp := fun vs H Q _ => ∃ (a : Addr) (ns : List Int), vs = [.ref a] ∧ SqL K H a (ns.map V.int) ∧ ns.length ≤ 1000 ∧
  ∀ (b c : Addr) (cs : List Int) (H' : Hp), b ≠ c → H' b = some (.lst [.int 0, .int 1234567891, .int 0, .ref c]) → H' c = some (.lst (cs.map V.int)) → Q (.ref b) H'
def spLaw (K : PySem.W.Frag) : Sp := fun vs H Q _ => ∃ (a : Addr) (ns : List Int), vs = [.ref a] ∧ SqL K H a (ns.map V.int) ∧ ns.length ≤ 63 ∧ ∀ H', Q (.bl true) H'
def RTrue : Out → Prop := fun o => ∃ m, o = .ret (.dat (.bool true)) m
/-- the law's body: first the bag, then the rest -/
theorem law_first {X : Cx} {rest : List Stmt} {H : Hp} {Q : VK} {E : XK} {vs : List V} {fB : Addr} {fdB : FuncData} {k j : Nat} (n : Nat) {p0 p1 p2 p3 p4 : Pos} (h : spLaw X.K vs H Q E)
    (GB : FnOk X.prog X.w X.K X.mg X.base CX0 k fB fdB ["_law_script"] (spBag X.K)) (hr : Room j X.A) (hkj : k ≤ j) (hm : X.mg "_law_bag" = some (.ref fB)) (hk : PySem.W.keepIn X.K (.ref fB) = true) (hb : Binds X.K fdB ["_law_script"] []) (hN : X.N.Nodup)
    (hrest : ∀ s, Good s → SSs X rest (none :: some (.cell 0) :: List.replicate n none) [bagC s] RTrue)
    (hl : X.N.length = n + 2 := by rfl) (h0 : X.N[0]? = some (Str.ofString "_law_script") := by rfl) (h1 : X.N[1]? = some (Str.ofString "_law_bag_here") := by rfl) (hv : Vis X.env.scope "_law_script" := by first | exact Or.inl rfl | exact Or.inr (Or.inl rfl) | exact Or.inr (Or.inr rfl))
    (hx : Loc X.env.scope "_law_bag_here" := by first | exact .inl rfl | exact .inr rfl) (hg : Gl X "_law_bag" := by rfl) (hf : X.fn "_law_bag_here" = true ∨ X.env.scope.names.lookup (Str.ofString "_law_bag_here") = some .local := by first | exact .inl rfl | exact .inr rfl)
    (hs : swapsWith (.Call (.Name "_law_bag" p1) [.Name "_law_script" p2] [] p3) (some (.Name "_law_bag_here" p0)) p4.line X.env = pure false := by rfl)
    (he : starEach [.Name "_law_script" p2] X.env = (false, eval (.Name "_law_script" p2) X.env) :: starEach [] X.env := by rfl) :
    ∃ t, PSs X (.Assign [.Name "_law_bag_here" p0] (.Call (.Name "_law_bag" p1) [.Name "_law_script" p2] [] p3) p4 :: rest) t ∧ t { nx := fun _ H' => Q .non H', rt := Q } (L2.start X.N vs) H := by
  obtain ⟨a, ns, rfl, hS, hn, q⟩ := h
  have h2 : PSs X rest (fun D σ H => ∃ s, Good s ∧ rdS (none :: some (.cell 0) :: List.replicate n none) [bagC s] RTrue D σ H) := ⟨fun pins s σ H D I ⟨b, gb, z⟩ => (hrest b gb).run pins s σ H D I z⟩
  refine ⟨_, pss_cons (ps_set hN h1 hx (pe_call GB (hr.mono hkj) hg hm hk hb .nil pass0 (pa_cons (pe_var h0 hv (by decide) (by decide)) pa_nil he) (by decide) he rfl) hs hf) h2, ?_⟩
  have e0 : L2.start X.N [V.ref a] = some (.ref a) :: List.replicate (n + 1) none := by
    unfold L2.start
    rw [hl]
    rfl
  rw [e0]
  refine ⟨.ref a, rfl, a, ns, rfl, hS, by omega, fun b c cs H' nbc hb' hc' => ?_⟩
  refine ⟨⟨0, 1234567891, 0, cs⟩, ⟨Int.le_refl 0, (by decide : (0 : Int) ≤ 1234567891), (by decide : (1234567891 : Int) < 2147483647), Int.le_refl 0⟩, fun x => if x = c then some (.lst (cs.map V.int)) else none, [b], ⟨?_, ?_⟩, ⟨?_, by simp, rfl, ?_, ?_⟩, ?_, ?_, ?_, ?_⟩
  · show (none :: some (SV.cell 0) :: List.replicate n none).length = (some (V.ref a) :: List.replicate (n + 1) none).length
    simp
  · intro i sv e
    match i, e with
    | 0, e => exact nomatch e
    | 1, e =>
      obtain rfl : SV.cell 0 = sv := Option.some.inj (Option.some.inj e)
      exact ⟨.ref b, rfl, b, rfl, rfl⟩
    | i + 2, e =>
      have e' : (List.replicate n (none : Option SV))[i]? = some (some sv) := e
      rw [List.getElem?_replicate] at e'
      split at e' <;> exact nomatch e'
  · intro x o e
    have e : (if x = c then some (HO.lst (cs.map V.int)) else none) = some o := e
    by_cases hx : x = c
    · rw [if_pos hx] at e
      rw [hx, hc']
      exact e
    · rw [if_neg hx] at e
      exact nomatch e
  · intro i x cl hx hcl
    match i, hx, hcl with
    | 0, hx, hcl =>
      obtain rfl : b = x := Option.some.inj hx
      obtain rfl := Option.some.inj hcl
      refine ⟨if_neg nbc, _, hb', .cons (.int 0) (.cons (.int _) (.cons (.int 0) (.cons (.lst (if_pos rfl) (DVs.ofInts cs)) .nil)))⟩
  · intro x hx
    rw [List.mem_singleton.mp hx, hb']
    exact fun z => nomatch z
  · rintro _ _ _ _ _ _ ⟨m, e⟩
    exact nomatch e
  · rintro sv m v F2 H2 as2 ⟨m', e⟩ _ _ r
    cases e
    cases r
    exact q H2
  · rintro _ _ _ _ _ _ ⟨m, e⟩
    exact nomatch e
  · rintro _ _ _ _ _ _ ⟨m, e⟩
    exact nomatch e

/-! #### the program's defs -/
def CP (rel : List PyData → PyData → Prop) : List SV → Mu → SV → Mu → Prop := fun args μ sv μ' => ∃ ds d, args = ds.map SV.dat ∧ rel ds d ∧ sv = .dat d ∧ μ' = μ
theorem ct_p {rel : List PyData → PyData → Prop} {n : Nat} (h : ∀ ds d, rel ds d → ds.length = n) : CtOk (CP rel) n := by
  rintro _ _ _ _ ⟨ds, d, rfl, r, rfl, rfl⟩
  exact ⟨by rw [List.length_map]; exact h ds d r, Nat.le_refl _, fun j e => nomatch e⟩
def isUnder (n t : List Str) : Bool := decide (t.length ≤ n.length) && decide (n.drop (n.length - t.length) = t)
def isBeneath (n t : List Str) : Bool := decide (t.length < n.length) && isUnder n t
def relUnder (g : List Str → List Str → Bool) : List PyData → PyData → Prop := fun ds d => ∃ n t k, ds = [nameD n, nameD t] ∧ Nm n k ∧ Nm t k ∧ d = .bool (g n t)
theorem ct_under {g : List Str → List Str → Bool} : CtOk (CP (relUnder g)) 2 := ct_p (by rintro _ _ ⟨n, t, k, rfl, _⟩; rfl)
def topsD (n : List Str) : List PyData := (List.range (n.length + 1)).map fun k => nameD (n.drop k)
def CTops : List SV → Mu → SV → Mu → Prop := fun args μ sv μ' => ∃ n k, args = [.dat (nameD n)] ∧ Nm n k ∧ k ≤ 1000 ∧ sv = .cell μ.length ∧ μ' = μ ++ [.lst (topsD n)]
theorem ct_tops : CtOk CTops 1 := by
  rintro _ _ _ _ ⟨n, k, rfl, _, _, rfl, rfl⟩
  exact ⟨rfl, by rw [List.length_append]; omega, fun j e => by obtain rfl := SV.cell.inj e; exact Nat.le_refl _⟩
/-- [name[k:] for k in range(len(name) + 1)] -/
theorem topsD_get {n : List Str} {i : Nat} (h : i < n.length + 1) : (topsD n)[i]? = some (nameD (n.drop i)) := by
  unfold topsD
  rw [List.getElem?_map, List.getElem?_range h]
  rfl
theorem topsD_len (n : List Str) : (topsD n).length = n.length + 1 := by unfold topsD; simp
theorem take_snoc {α : Type} {l : List α} {i : Nat} {x : α} (h : l[i]? = some x) : l.take (i + 1) = l.take i ++ [x] := by rw [List.take_add_one, h]; rfl
theorem drop_str {n : List Str} {i : Nat} : cutD (n.map PyData.str) (some (0 + (i : Int))) none = (n.drop i).map PyData.str := by
  rw [cutD_from (by omega), List.map_drop]
  congr 1
  omega
/-! #### more labels, near -/
/-- labels: some, of letters -/
def Labs (ls : List Str) : Prop := ls ≠ [] ∧ ls.length ≤ 100 ∧ ∀ x ∈ ls, Lab x
def AMore : List SV → Prop := fun r => ∃ ls : List Str, r = [.dat (.list (ls.map PyData.str))] ∧ ls ≠ [] ∧ ls.length ≤ 50 ∧ ∀ x ∈ ls, Lab x ∧ x.length ≤ 8
def RMore : List SV → SV → Prop := fun r sv => ∃ ls : List Str, sv = .dat (.list (ls.map PyData.str)) ∧ Labs ls
theorem ct_more : CtN (BPre AMore) (BPost RMore) 2 := ct_bag (by rintro _ ⟨ls, rfl, _⟩; rfl) (by rintro _ _ j ⟨ls, rfl, _⟩ e; exact nomatch e)
def ANear : List SV → Prop := fun r => ∃ (ls n : List Str), r = [.dat (.list (ls.map PyData.str)), .dat (nameD n)] ∧ Labs ls ∧ Nm n 7
def RNear : List SV → SV → Prop := fun r sv => ∃ n : List Str, sv = .dat (nameD n) ∧ Nm n 8
theorem ct_near : CtN (BPre ANear) (BPost RNear) 3 := ct_bag (by rintro _ ⟨ls, n, rfl, _⟩; rfl) (by rintro _ _ j ⟨ls, rfl, _⟩ e; exact nomatch e)
theorem view_last (c : Cell) (m : Mu) (ds : List PyData) : Sy.view (c :: (m ++ [.lst ds])) (.cell (m.length + 1)) = some (.list ds) := by
  show (match (m ++ [Cell.lst ds])[m.length]? with | some (.lst ds) => some (PyData.list ds) | _ => none) = _
  rw [at_last]
theorem set_last (c x y : Cell) (m : Mu) : (c :: (m ++ [x])).set (m.length + 1) y = c :: (m ++ [y]) := by
  show c :: (m ++ [x]).set m.length y = _
  rw [List.set_append_right _ _ (Nat.le_refl _), Nat.sub_self]
  rfl
theorem strs_append (a b : List Str) : a.map PyData.str ++ b.map PyData.str = (a ++ b).map PyData.str := (List.map_append).symm
theorem cut_to {n : List Str} {i : Int} (h : 0 ≤ i) : cutD (n.map PyData.str) none (some i) = (n.take i.toNat).map PyData.str := by rw [cutD_to h, List.map_take]
theorem cut_from {n : List Str} {i : Int} (h : 0 ≤ i) : cutD (n.map PyData.str) (some i) none = (n.drop i.toNat).map PyData.str := by rw [cutD_from h, List.map_drop]
end
end Lw

/-! LC4: calls of the laws' helpers in short. -/
namespace Lw
open PySem PySem.Spec PyProof.Rows L2 Sy
section
variable {X : Cx} {env : En} {μ : Mu} {e : Expr} {es : List Expr} {pos p0 : Pos} {k j : Nat} {s : Bag} {m : Mu} {ls : List Str} {a b : Int}
def WordP (ls : List Str) (a b : Int) (m : Mu) : SV → Mu → Prop := fun sv m' => ∃ s' n, Good s' ∧ m' = bagC s' :: m ∧ sv = .dat (nameD n) ∧ a ≤ n.length ∧ n.length ≤ b ∧ ∀ x ∈ n, x ∈ ls
theorem b_word (F : FnN X.prog X.w X.K X.mg X.base k "_law_word" (BPre AWord) (BPost RWord)) (hr : Room j X.A) (ha : SA X (e :: es) env μ [.cell 0, .dat (.list (ls.map PyData.str)), .dat (.int a), .dat (.int b)] (bagC s :: m)) (hs : Good s) (h1 : ls ≠ []) (h2 : ls.length ≤ 1000) (h3 : 0 ≤ a ∧ a ≤ b ∧ b ≤ 100)
    (hkj : k ≤ j := by decide) (hg : Gl X "_law_word" := by rfl) (he : starEach (e :: es) X.env = (false, eval e X.env) :: starEach es X.env := by rfl) (hpl : (backTo pos (starEach es X.env)).any (·.1) = false := by rfl) :
    SEn X (.Call (.Name "_law_word" p0) (e :: es) [] pos) env μ (WordP ls a b m) := by
  refine (b_call F hr ha hs ⟨ls, a, b, rfl, h1, h2, h3⟩ hkj hg (by decide) he hpl).imp ?_
  rintro sv m' ⟨s', g, rfl, ls', lo, hi, n, e1, rfl, hn0, hn1, hnx⟩
  obtain rfl := strs_inj (PyData.list.inj (SV.dat.inj (List.cons.inj e1).1))
  obtain rfl := PyData.int.inj (SV.dat.inj (List.cons.inj (List.cons.inj e1).2).1)
  obtain rfl := PyData.int.inj (SV.dat.inj (List.cons.inj (List.cons.inj (List.cons.inj e1).2).2).1)
  exact ⟨s', n, g, rfl, rfl, hn0, hn1, hnx⟩
theorem b_labels {n : Nat} (F : FnN X.prog X.w X.K X.mg X.base k "_law_labels" (BPre ALabels) (BPost RLabels)) (hr : Room j X.A) (ha : SA X (e :: es) env μ [.cell 0, .dat (.int (n : Int))] (bagC s :: m)) (hs : Good s) (hn : n ≤ 100)
    (hkj : k ≤ j := by decide) (hg : Gl X "_law_labels" := by rfl) (he : starEach (e :: es) X.env = (false, eval e X.env) :: starEach es X.env := by rfl) (hpl : (backTo pos (starEach es X.env)).any (·.1) = false := by rfl) :
    SEn X (.Call (.Name "_law_labels" p0) (e :: es) [] pos) env μ (fun sv m' => ∃ (s' : Bag) (ls : List Str), Good s' ∧ m' = bagC s' :: m ∧ sv = .dat (.list (ls.map PyData.str)) ∧ ls.length = n ∧ ∀ x ∈ ls, Lab x ∧ x.length ≤ 8) := by
  refine (b_call F hr ha hs ⟨n, rfl, hn⟩ hkj hg (by decide) he hpl).imp ?_
  rintro sv m' ⟨s', g, rfl, n', ls, e1, rfl, hl, hls⟩
  have := Int.ofNat.inj (PyData.int.inj (SV.dat.inj (List.cons.inj e1).1))
  exact ⟨s', ls, g, rfl, rfl, by omega, hls⟩
/-- pick, with what it draws -/
def CPick : List SV → Mu → SV → Mu → Prop := fun args μ sv μ' => ∃ b m ds d, args = [.cell 0, .dat (.list ds)] ∧ μ = bagC b :: m ∧ Good b ∧ ds ≠ [] ∧ ds.length < 1073741824 ∧ ds[(takeV b (ds.length : Int)).toNat]? = some d ∧ sv = .dat d ∧ μ' = bagC (takeS b (ds.length : Int)) :: m
theorem ct_pickD : CtOk CPick 2 := by
  rintro _ _ _ _ ⟨b, m, ds, d, rfl, rfl, _, _, _, _, rfl, rfl⟩
  exact ⟨rfl, Nat.le_refl _, fun j e => nomatch e⟩
end
end Lw

namespace Lw
open PySem PySem.Spec PyProof.Rows L2 Sy
def topS (i : Nat) : Stmt := PySem.Challenge.pw_listnames_k14_whole_rays_and_roots.main.body.getD i (.Pass ⟨0, 0, 0, 0⟩)
abbrev sUnder : Stmt := topS 1
abbrev nUnder : List Str := ["name", "top"]
abbrev pUnder : List Str := ["name", "top"]
theorem scUnder : FnScope nUnder pUnder (defScope sUnder) := ⟨rfl, rfl, rfl, by decide +kernel, rfl, by decide +kernel, by decide +kernel⟩
abbrev sBeneath : Stmt := topS 2
abbrev nBeneath : List Str := ["name", "top"]
abbrev pBeneath : List Str := ["name", "top"]
theorem scBeneath : FnScope nBeneath pBeneath (defScope sBeneath) := ⟨rfl, rfl, rfl, by decide +kernel, rfl, by decide +kernel, by decide +kernel⟩
abbrev sPRayEnd : Stmt := topS 3
abbrev nPRayEnd : List Str := ["name", "many", "repeated"]
abbrev pPRayEnd : List Str := ["name", "many"]
theorem scPRayEnd : FnScope nPRayEnd pPRayEnd (defScope sPRayEnd) := ⟨rfl, rfl, rfl, by decide +kernel, rfl, by decide +kernel, by decide +kernel⟩
abbrev sPRoot : Stmt := topS 4
abbrev nPRoot : List Str := ["name", "many"]
abbrev pPRoot : List Str := ["name"]
theorem scPRoot : FnScope nPRoot pPRoot (defScope sPRoot) := ⟨rfl, rfl, rfl, by decide +kernel, rfl, by decide +kernel, by decide +kernel⟩
abbrev sBag : Stmt := topS 6
abbrev nBag : List Str := ["_law_script", "_law_cell"]
abbrev pBag : List Str := ["_law_script"]
theorem scBag : FnScope nBag pBag (defScope sBag) := ⟨rfl, rfl, rfl, by decide +kernel, rfl, by decide +kernel, by decide +kernel⟩
abbrev sTake : Stmt := topS 7
abbrev nTake : List Str := ["_law_bag_here", "_law_many", "_law_cell", "_law_more", "_law_drawn"]
abbrev pTake : List Str := ["_law_bag_here", "_law_many"]
theorem scTake : FnScope nTake pTake (defScope sTake) := ⟨rfl, rfl, rfl, by decide +kernel, rfl, by decide +kernel, by decide +kernel⟩
abbrev sAlike : Stmt := topS 8
abbrev nAlike : List Str := ["_law_found", "_law_right"]
abbrev pAlike : List Str := ["_law_found", "_law_right"]
theorem scAlike : FnScope nAlike pAlike (defScope sAlike) := ⟨rfl, rfl, rfl, by decide +kernel, rfl, by decide +kernel, by decide +kernel⟩
abbrev sPick : Stmt := topS 9
abbrev nPick : List Str := ["_law_bag_here", "_law_some"]
abbrev pPick : List Str := ["_law_bag_here", "_law_some"]
theorem scPick : FnScope nPick pPick (defScope sPick) := ⟨rfl, rfl, rfl, by decide +kernel, rfl, by decide +kernel, by decide +kernel⟩
abbrev sLabels : Stmt := topS 10
abbrev nLabels : List Str := ["_law_bag_here", "_law_many", "_law_turn", "_law_stem", "_law_letters", "_law_k"]
abbrev pLabels : List Str := ["_law_bag_here", "_law_many"]
theorem scLabels : FnScope nLabels pLabels (defScope sLabels) := ⟨rfl, rfl, rfl, by decide +kernel, rfl, by decide +kernel, by decide +kernel⟩
abbrev sWord : Stmt := topS 11
abbrev nWord : List Str := ["_law_bag_here", "_law_labels_here", "_law_least", "_law_most", "_law_k"]
abbrev pWord : List Str := ["_law_bag_here", "_law_labels_here", "_law_least", "_law_most"]
theorem scWord : FnScope nWord pWord (defScope sWord) := ⟨rfl, rfl, rfl, by decide +kernel, rfl, by decide +kernel, by decide +kernel⟩
abbrev sLRoot : Stmt := topS 12
abbrev nLRoot : List Str := ["_law_name", "_law_many", "_law_others", "_law_k"]
abbrev pLRoot : List Str := ["_law_name"]
theorem scLRoot : FnScope nLRoot pLRoot (defScope sLRoot) := ⟨rfl, rfl, rfl, by decide +kernel, rfl, by decide +kernel, by decide +kernel⟩
abbrev sLaw : Stmt := topS 13
abbrev nLaw : List Str := ["_law_script", "_law_bag_here", "_law_labels_here", "_law_turn", "_law_y", "_law_many", "_law_due", "_law_k", "_law_s", "_law_at", "_law_w"]
abbrev pLaw : List Str := ["_law_script"]
theorem scLaw : FnScope nLaw pLaw (defScope sLaw) := ⟨rfl, rfl, rfl, by decide +kernel, rfl, by decide +kernel, by decide +kernel⟩

end Lw

/-! M14: ends of repetitions, roots. -/
namespace Lw
variable {α : Type}
theorem mod_back {m n j : Nat} (hn : 0 < n) (h : j < m * n) : (m * n - 1 - j) % n = n - 1 - j % n := by
  have e := Nat.div_add_mod j n
  have r := Nat.mod_lt j hn
  have hq : j / n < m := Nat.div_lt_of_lt_mul (by rw [Nat.mul_comm]; exact h)
  have e2 : m * n - 1 - j = (n - 1 - j % n) + n * (m - 1 - j / n) := by
    have : m * n = n * (m - 1 - j / n) + n * (j / n) + n := by
      rw [← Nat.mul_add, ← Nat.mul_succ, Nat.mul_comm]
      congr 1
      omega
    omega
  rw [e2, Nat.add_mul_mod_self_left, Nat.mod_eq_of_lt (by omega)]
/-- the end of y, repeated, by places -/
def ray (y : List α) (m : Nat) : List α := (List.range m).filterMap fun k => y[y.length - 1 - (m - 1 - k) % y.length]?
theorem ray_at {y : List α} (hy : 0 < y.length) (k : Nat) : y[y.length - 1 - k % y.length]? = some (y[y.length - 1 - k % y.length]'(by omega)) := by
  rw [List.getElem?_eq_getElem]
theorem filterMap_some {β γ : Type} (f : β → Option γ) (g : β → γ) : ∀ l : List β, (∀ x ∈ l, f x = some (g x)) → l.filterMap f = l.map g
  | [], _ => rfl
  | x :: l, h => by
    rw [List.filterMap_cons, h x List.mem_cons_self, List.map_cons, filterMap_some f g l fun y hy => h y (List.mem_cons_of_mem _ hy)]
theorem ray_map {y : List α} (hy : 0 < y.length) (m : Nat) : ray y m = (List.range m).map fun k => y[y.length - 1 - (m - 1 - k) % y.length]'(by have := Nat.mod_lt (m - 1 - k) hy; omega) :=
  filterMap_some _ _ _ fun k _ => ray_at hy _
theorem ray_len {y : List α} (hy : 0 < y.length) (m : Nat) : (ray y m).length = m := by rw [ray_map hy]; simp
theorem ray_get {y : List α} (hy : 0 < y.length) {m k : Nat} (hk : k < m) : (ray y m)[k]? = y[y.length - 1 - (m - 1 - k) % y.length]? := by
  rw [ray_map hy, List.getElem?_map, List.getElem?_range hk, ray_at hy]
  rfl
theorem rep_get (y : List α) : ∀ (m i : Nat), i < m * y.length → ((List.replicate m y).flatten)[i]? = y[i % y.length]?
  | 0, i, h => by omega
  | m + 1, i, h => by
    rw [List.replicate_succ, List.flatten_cons]
    by_cases hi : i < y.length
    · rw [List.getElem?_append_left hi, Nat.mod_eq_of_lt hi]
    · rw [List.getElem?_append_right (by omega), rep_get y m (i - y.length) (by rw [Nat.succ_mul] at h; omega)]
      congr 1
      conv => rhs; rw [show i = (i - y.length) + y.length by omega, Nat.add_mod_right]
theorem rep_len (y : List α) (m : Nat) : ((List.replicate m y).flatten).length = m * y.length := by simp
theorem ext_get {a b : List α} {n : Nat} (ha : a.length = n) (hb : b.length = n) (h : ∀ i, i < n → a[i]? = b[i]?) : a = b := by
  apply List.ext_getElem?
  intro i
  by_cases hi : i < n
  · exact h i hi
  · rw [List.getElem?_eq_none (by omega), List.getElem?_eq_none (by omega)]
/-- repeated[len(repeated) - many:] -/
theorem ray_rep {y : List α} (hy : 0 < y.length) (m : Nat) : ((List.replicate m y).flatten).drop (m * y.length - m) = ray y m := by
  have hm : m ≤ m * y.length := Nat.le_mul_of_pos_right m hy
  refine ext_get (n := m) (by rw [List.length_drop, rep_len]; omega) (ray_len hy m) fun i hi => ?_
  rw [List.getElem?_drop, rep_get y m _ (by omega), ray_get hy hi]
  congr 1
  rw [← mod_back (m := m) hy (j := m - 1 - i) (by omega)]
  congr 1
  omega
/-- y is a repetition of its first d -/
def Per (y : List α) (d : Nat) : Prop := y.length % d = 0 ∧ ∀ k, k < y.length → y[k]? = y[k % d]?
theorem per_len (y : List α) : Per y y.length := ⟨Nat.mod_self _, fun k hk => by rw [Nat.mod_eq_of_lt hk]⟩
theorem per_rep {y : List α} {d : Nat} (hd : 0 < d) (hl : y.length % d = 0) (hle : d ≤ y.length) : (List.replicate (y.length / d) (y.take d)).flatten = y ↔ ∀ k, k < y.length → y[k]? = y[k % d]? := by
  have tl : (y.take d).length = d := by rw [List.length_take]; omega
  have ml : y.length / d * d = y.length := by have := Nat.div_add_mod y.length d; rw [hl, Nat.mul_comm] at this; omega
  have g : ∀ k, k < y.length → ((List.replicate (y.length / d) (y.take d)).flatten)[k]? = y[k % d]? := fun k hk => by
    rw [rep_get _ _ _ (by rw [tl, ml]; exact hk), tl, List.getElem?_take, if_pos (Nat.mod_lt k hd)]
  constructor
  · intro h k hk
    rw [← g k hk, h]
  · intro h
    exact ext_get (n := y.length) (by rw [rep_len, tl, ml]) rfl fun i hi => by rw [g i hi, h i hi]
/-- a repetition has the ends of what it repeats -/
theorem ray_per {y : List α} {d : Nat} (hd : 0 < d) (hle : d ≤ y.length) (h : Per y d) (m : Nat) : ray (y.take d) m = ray y m := by
  have tl : (y.take d).length = d := by rw [List.length_take]; omega
  have hy : 0 < y.length := by omega
  refine ext_get (n := m) (ray_len (by omega) m) (ray_len hy m) fun k hk => ?_
  rw [ray_get (by omega) hk, ray_get hy hk, tl, List.getElem?_take, if_pos (by omega)]
  have hr := Nat.mod_lt (m - 1 - k) hy
  rw [h.2 (y.length - 1 - (m - 1 - k) % y.length) (by omega)]
  congr 1
  obtain ⟨q, hq⟩ := Nat.dvd_of_mod_eq_zero h.1
  have e1 : y.length = q * d := by rw [Nat.mul_comm]; exact hq
  have e2 := mod_back (m := q) (n := d) (j := (m - 1 - k) % y.length) hd (by rw [← e1]; exact hr)
  rw [← e1] at e2
  rw [e2, hq, Nat.mod_mul_right_mod]
/-- w + y + s is beneath w + s just for the end of y, repeated -/
theorem ray_under {w y : List α} (hy : 0 < y.length) : (w ++ y).drop y.length = w ↔ w = ray y w.length := by
  constructor
  · intro h
    -- by the distance from the end
    have key : ∀ n j, j < w.length → w.length - 1 - j = n → w[j]? = y[y.length - 1 - n % y.length]? := by
      intro n
      induction n using Nat.strongRecOn with
      | ind n ih =>
        intro j hj hn
        have e : w[j]? = (w ++ y)[y.length + j]? := by
          conv => lhs; rw [← h]
          rw [List.getElem?_drop]
        by_cases hl : y.length + j < w.length
        · rw [e, List.getElem?_append_left hl, ih (n - y.length) (by omega) (y.length + j) hl (by omega)]
          congr 2
          conv => rhs; rw [show n = (n - y.length) + y.length by omega, Nat.add_mod_right]
        · rw [e, List.getElem?_append_right (by omega), Nat.mod_eq_of_lt (by omega)]
          congr 1
          omega
    refine ext_get (n := w.length) rfl (ray_len hy _) fun i hi => ?_
    rw [ray_get hy hi]
    exact key _ i hi rfl
  · intro h
    have g : ∀ j, j < w.length → w[j]? = y[y.length - 1 - (w.length - 1 - j) % y.length]? := fun j hj => by
      conv => lhs; rw [h]
      exact ray_get hy hj
    refine ext_get (n := w.length) (by rw [List.length_drop, List.length_append]; omega) rfl fun i hi => ?_
    rw [List.getElem?_drop]
    by_cases hl : y.length + i < w.length
    · rw [List.getElem?_append_left hl, g _ hl, g i hi]
      congr 2
      conv => rhs; rw [show w.length - 1 - i = (w.length - 1 - (y.length + i)) + y.length by omega, Nat.add_mod_right]
    · rw [List.getElem?_append_right (by omega), g i hi, Nat.mod_eq_of_lt (by omega)]
      congr 1
      omega
end Lw

namespace Lw
open PySem PySem.Spec PyProof.Rows L2 Sy
section
variable {w : World} {P : Program} {base : Heap} {mg : Str → Option Value} {K : PySem.W.Frag}
set_option maxHeartbeats 4000000 in
theorem ok_take {f : Addr} {fd : FuncData} {k : Nat} (F : Fun K "_law_take" "_law_take" sTake f fd) (B : Bi mg) : FnOk P w K mg base CX0 (k + 1) f fd ["_law_bag_here", "_law_many"] (spC CTake) := by
  refine okC F scTake ct_take fun cdv A outer s H E hr args μ sv μ' hC => ?_
  obtain ⟨b, n, m, rfl, rfl, gb, hn, hn2, rfl, rfl⟩ := hC
  have last : ∀ (x2 x3 : Option SV) (z : Bag), z = fill b → SSs (bodyX P w K mg base nTake "_law_take" sTake f cdv A outer s H E) ((defBody sTake).drop 1) [some (.cell 0), some (.dat (.int n)), x2, x3, none] (bagC z :: m)
      (RetTo (.dat (.int (takeV b n))) (bagC (takeS b n) :: m)) := by
    intro x2 x3 z hz
    refine sss_if (t_gt (e_ix (se_var 0) se_int) se_int) (fun h => ?_) (fun h => ?_)
    · have hz0 : 0 < z.a := of_decide_eq_true h
      refine sss_set 4 scTake.nd (e_mod (e_int B (a1 (e_ix (se_var 0) se_int))) (se_var 1)) ?_
      refine sss_setIx 0 (e_fdiv (e_ix (se_var 0) se_int) (se_var 1)) (se_var 0) se_int rfl (by show 0 < 4; decide) ?_
      refine sss_ret (se_var 4) ?_
      have e1 : takeV b n = z.a % n := by unfold takeV; rw [← hz, if_pos hz0]
      have e2 : bagC (takeS b n) = .lst ((bagD z).set 0 (.int (z.a / n))) := by unfold takeS; rw [← hz, if_pos hz0]; rfl
      rw [e1, e2]
      exact Ret.same
    · have hz0 : ¬ 0 < z.a := of_decide_eq_false h
      refine sss_nil ?_
      refine sss_setIx 1 (e_mod (e_int B (a1 (e_add (e_mul (e_ix (se_var 0) se_int) se_int) se_int))) se_int) (se_var 0) se_int rfl (by show 1 < 4; decide) ?_
      refine sss_ret (e_mod (e_int B (a1 (e_fdiv (e_ix (se_var 0) se_int) se_int))) (se_var 1)) ?_
      have e1 : takeV b n = (z.seed * 48271 + 11) % 2147483647 / 64 % n := by unfold takeV; rw [← hz, if_neg hz0]
      have e2 : bagC (takeS b n) = .lst ((bagD z).set 1 (.int ((z.seed * 48271 + 11) % 2147483647))) := by unfold takeS; rw [← hz, if_neg hz0]; rfl
      rw [e1, e2]
      exact Ret.same
  refine sss_if (t_eqI hr (e_ix (se_var 0) se_int) se_int) (fun h => ?_) (fun h => ?_)
  · have h0 : b.a = 0 := eq_of_beq h
    have fin : ∀ c : Int, c = cellOf b → SSs (bodyX P w K mg base nTake "_law_take" sTake f cdv A outer s H E) (((match (defBody sTake).head? with | some (.If _ t _ _) => t | _ => [])).drop 2) [some (.cell 0), some (.dat (.int n)), some (.dat (.int c)), none, none] (bagC b :: m)
        (Thn (bodyX P w K mg base nTake "_law_take" sTake f cdv A outer s H E) ((defBody sTake).drop 1) (RetTo (.dat (.int (takeV b n))) (bagC (takeS b n) :: m))) := by
      intro c hc
      refine sss_augIx 2 (se_var 0) se_int rfl rfl se_int ?_
      refine sss_if (t_ge (se_var 2) se_int) (fun h => ?_) (fun h => ?_)
      · have h1 : 1000000000000000000 ≤ c := of_decide_eq_true h
        refine sss_setIx 0 (se_var 2) (se_var 0) se_int rfl (by show 0 < 4; decide) ?_
        refine sss_nil ?_
        refine sss_set 3 scTake.nd (e_add (e_mod (e_int B (a1 (se_var 2))) se_int) (e_mul se_int (e_ix (se_var 0) se_int))) ?_
        refine sss_setIx 1 (e_mod (e_int B (a1 (e_add (e_mul (e_ix (se_var 0) se_int) se_int) (se_var 3)))) se_int) (se_var 0) se_int rfl (by show 1 < 4; decide) ?_
        refine sss_nil ?_
        refine last _ _ ⟨c, (b.seed * 48271 + (c % 2147483647 + 7919 * (b.i + 1))) % 2147483647, b.i + 1, b.cells⟩ ?_
        unfold fill
        rw [if_pos h0, ← hc, if_pos h1]
      · have h1 : ¬ 1000000000000000000 ≤ c := of_decide_eq_false h
        refine sss_nil ?_
        refine sss_set 3 scTake.nd (e_add (e_mod (e_int B (a1 (se_var 2))) se_int) (e_mul se_int (e_ix (se_var 0) se_int))) ?_
        refine sss_setIx 1 (e_mod (e_int B (a1 (e_add (e_mul (e_ix (se_var 0) se_int) se_int) (se_var 3)))) se_int) (se_var 0) se_int rfl (by show 1 < 4; decide) ?_
        refine sss_nil ?_
        refine last _ _ ⟨b.a, (b.seed * 48271 + (c % 2147483647 + 7919 * (b.i + 1))) % 2147483647, b.i + 1, b.cells⟩ ?_
        unfold fill
        rw [if_pos h0, ← hc, if_neg h1, h0]
    refine sss_set 2 scTake.nd se_int ?_
    refine sss_if (t_lt (e_ix (se_var 0) se_int) (e_len B (a1 (e_ix (se_var 0) se_int)))) (fun h => ?_) (fun h => ?_)
    · have h1 : b.i < ((b.cells.map PyData.int).length : Int) := of_decide_eq_true h
      rw [List.length_map] at h1
      have i0 := gb.i0
      refine sss_set 2 scTake.nd (e_ix (e_ix (se_var 0) se_int) (e_ix (se_var 0) se_int) (hf := ixD_ints (ns := b.cells) (i := b.i) i0 h1)) ?_
      refine sss_nil ?_
      exact fin _ (by unfold cellOf; rw [if_pos h1])
    · have h1 : ¬ b.i < ((b.cells.map PyData.int).length : Int) := of_decide_eq_false h
      rw [List.length_map] at h1
      refine sss_nil ?_
      exact fin 0 (by unfold cellOf; rw [if_neg h1])
  · have h0 : ¬ b.a = 0 := fun z => by rw [z] at h; exact nomatch h
    refine sss_nil ?_
    exact last none none b (by unfold fill; rw [if_neg h0])
theorem ok_alike {f : Addr} {fd : FuncData} {k : Nat} (F : Fun K "_law_alike" "_law_alike" sAlike f fd) (B : Bi mg) : Gd.FnG P w K mg base CX0 (k + 1) f fd pAlike (spC CAlike) := by
  refine okCG F scAlike ct_alike fun cdv A outer s H E gA hr args μ sv μ' hC => ?_
  obtain ⟨s1, s2, d, h, n, rfl, v1, v2, o, hh, hn, rfl, rfl⟩ := hC
  refine sss_ret (se_and (e_eq hr (se_var 0) (se_var 1) (v1 := v1) (v2 := v2) (hk := ⟨o.shaped hh, o.shaped hh⟩)) (fun _ => se_and1 (e_eqS (e_repr B gA hr (a1 (se_var 0)) (v1 := v1) (hk := o.repr hn hh)) (e_repr B gA hr (a1 (se_var 1)) (v1 := v2) (hk := o.repr hn hh)) ))) ?_
  exact ret_same (by rw [SeqAt.eqv_refl d o.lay, decide_eq_true rfl]; rfl) rfl
theorem ok_pick {f : Addr} {fd : FuncData} {k j : Nat} (F : Fun K "_law_pick" "_law_pick" sPick f fd) (B : Bi mg) (FT : FnS P w K mg base j "_law_take" CTake) (hj : j ≤ k) : FnOk P w K mg base CX0 (k + 1) f fd ["_law_bag_here", "_law_some"] (spN (BPre APick) (BPost RPick)) := by
  refine okN F scPick ct_pick fun cdv A outer s H E hr args μ hC => ?_
  obtain ⟨b, m, r, rfl, rfl, gb, ds, rfl, hd, hl⟩ := hC
  have hl0 : 0 < ds.length := List.length_pos_iff.mpr hd
  obtain ⟨d, hm, ha⟩ := at_draw (b := b) hd
  refine sss_ret (e_ix (se_var 1) (e_take FT hr (a2 (se_var 0) (e_len B (a1 (se_var 1)))) gb (hkj := hj)) (hf := ixD_at (takeV_nonneg (by omega)) ha)) ?_
  exact ⟨_, _, Ret.same, [.dat (.list ds)], b, m, _, rfl, rfl, takeS_good gb (by omega), rfl, ds, d, rfl, hm, rfl⟩
theorem ok_pickD {f : Addr} {fd : FuncData} {k j : Nat} (F : Fun K "_law_pick" "_law_pick" sPick f fd) (B : Bi mg) (FT : FnS P w K mg base j "_law_take" CTake) (hj : j ≤ k) : FnOk P w K mg base CX0 (k + 1) f fd ["_law_bag_here", "_law_some"] (spC CPick) := by
  refine okC F scPick ct_pickD fun cdv A outer s H E hr args μ sv μ' hC => ?_
  obtain ⟨b, m, ds, d, rfl, rfl, gb, hd, hl, ha, rfl, rfl⟩ := hC
  have hl0 : 0 < ds.length := List.length_pos_iff.mpr hd
  refine sss_ret (e_ix (se_var 1) (e_take FT hr (a2 (se_var 0) (e_len B (a1 (se_var 1)))) gb (hkj := hj)) (hf := ixD_at (takeV_nonneg (by omega)) ha)) ?_
  exact Ret.same
theorem ok_labels {f : Addr} {fd : FuncData} {k j : Nat} (F : Fun K "_law_labels" "_law_labels" sLabels f fd) (B : Bi mg) (FT : FnS P w K mg base j "_law_take" CTake) (hj : j ≤ k) : FnOk P w K mg base CX0 (k + 1) f fd ["_law_bag_here", "_law_many"] (spN (BPre ALabels) (BPost RLabels)) := by
  refine okN F scLabels ct_labels fun cdv A outer s H E hr args μ hC => ?_
  obtain ⟨b, m, r, rfl, rfl, gb, n, rfl, hn⟩ := hC
  have g1 := takeS_good (n := 26) gb (by decide)
  obtain ⟨d, hm, ha⟩ := at_draw (b := takeS b 26) (ds := [.str "", .str "a", .str "zzzzzzz", .str "aaaaaaa"]) (by simp)
  obtain ⟨stem, rfl, hst⟩ := stems_ok d hm
  have t0 := takeV_nonneg (s := b) (n := 26) (by decide)
  refine sss_tup2 2 3 rfl scLabels.nd (e_t (a2 (e_take FT hr (a2 (se_var 0) se_int) gb (hkj := hj)) (e_ix (e_l (sa_cons se_str (sa_cons se_str (sa_cons se_str (a1 se_str))))) (e_take FT hr (a2 (se_var 0) se_int) g1 (hkj := hj)) (hf := ixD_at (takeV_nonneg (by decide)) ha)))) ?_
  refine sss_set 4 scLabels.nd se_str ?_
  refine sss_retN (sen_lc 5 (P := fun sv m' => m' = bagC (takeS (takeS b 26) 4) :: m ∧ RLabels [.dat (.int (n : Int))] sv) (fun k acc m' => m' = bagC (takeS (takeS b 26) 4) :: m ∧ ∃ ls : List Str, acc = ls.map PyData.str ∧ ls.length = k ∧ ∀ x ∈ ls, Lab x ∧ x.length ≤ 8)
    rfl scLabels.nd (si_range1 B.range (a1 (se_var 1)) (by omega)) (blkOk_by (N := nLabels) (sc := defScope sLabels) (by decide +kernel)) (by rw [rangeD_len, sizeLine_eq]; omega) ⟨rfl, [], rfl, rfl, fun x hx => nomatch hx⟩ (fun _ _ _ _ => trivial) ?_ ?_) ?_
  · rintro i d acc m' hd ⟨rfl, ls, rfl, hl, hls⟩
    have hi : i < n := by
      have := (List.getElem?_eq_some_iff.mp hd).1
      rw [rangeD_len] at this
      omega
    rw [rangeD_get (by omega)] at hd
    obtain rfl := Option.some.inj hd
    refine ⟨true, _, fun _ _ _ _ _ => sts_nil, fun _ s H C cl fp => ?_, fun z => nomatch z⟩
    obtain ⟨c, hc1, hc2⟩ := letter_at (i := (takeV b 26 + 3 * (0 + (i : Int))) % 26) (Int.emod_nonneg _ (by decide)) (Int.emod_lt_of_pos _ (by decide))
    obtain ⟨mk, ms⟩ := mul_bit hst (n := (0 + (i : Int)) % 2) (Int.emod_nonneg _ (by decide)) (Int.emod_lt_of_pos _ (by decide))
    have lb := lab_of ms hc2
    have ml := ms.len
    refine SE.p (e_add (e_mul (se_var 3) (e_int B (a1 (e_mod (e_int B (a1 (se_var 5))) se_int))) (hk := mk)) (e_ix (se_var 4) (e_mod (e_int B (a1 (e_add (se_var 2) (e_mul se_int (se_var 5))))) se_int) (hf := ixD_atS (Int.emod_nonneg _ (by decide)) hc1)) (hk := ?_)) ?_
    · show (Txt.mul stem ((0 + (i : Int)) % 2)).length + (⟨#[c]⟩ : Str).length ≤ sizeLine
      rw [sizeLine_eq]
      have : (⟨#[c]⟩ : Str).length = 1 := rfl
      omega
    · refine ⟨_, rfl, rfl, ls ++ [_], by rw [List.map_append]; rfl, by rw [List.length_append, hl]; rfl, fun x hx => ?_⟩
      rcases List.mem_append.mp hx with z | z
      · exact hls x z
      · rw [List.mem_singleton.mp z]
        exact lb
  · rintro acc m' ⟨rfl, ls, rfl, hl, hls⟩
    rw [rangeD_len] at hl
    exact ⟨_, _, Fi.dat, rfl, n, ls, rfl, rfl, by omega, hls⟩
  · rintro sv m' ⟨rfl, hR⟩
    exact ⟨_, _, Ret.same, _, b, m, _, rfl, rfl, takeS_good g1 (by decide), rfl, hR⟩
theorem ok_word {f : Addr} {fd : FuncData} {k j j2 : Nat} (F : Fun K "_law_word" "_law_word" sWord f fd) (B : Bi mg) (FT : FnS P w K mg base j "_law_take" CTake) (hj : j ≤ k) (FP : FnN P w K mg base j2 "_law_pick" (BPre APick) (BPost RPick)) (hj2 : j2 ≤ k) :
    FnOk P w K mg base CX0 (k + 1) f fd ["_law_bag_here", "_law_labels_here", "_law_least", "_law_most"] (spN (BPre AWord) (BPost RWord)) := by
  refine okN F scWord ct_word fun cdv A outer s H E hr args μ hC => ?_
  obtain ⟨b, m, r, rfl, rfl, gb, ls, lo, hi, rfl, hl, hl2, h0, h1, h2⟩ := hC
  have t0 := takeV_nonneg (s := b) (n := hi - lo + 1) (by omega)
  have t1 := takeV_lt (s := b) (n := hi - lo + 1) (by omega)
  have g1 := takeS_good (n := hi - lo + 1) gb (by omega)
  refine sss_retN (sen_tup B (P := fun sv m' => ∃ s', Good s' ∧ m' = bagC s' :: m ∧ RWord [.dat (.list (ls.map PyData.str)), .dat (.int lo), .dat (.int hi)] sv) (sen_lc 4 (fun k acc m' => ∃ s', Good s' ∧ m' = bagC s' :: m ∧ ∃ n : List Str, acc = n.map PyData.str ∧ n.length = k ∧ ∀ x ∈ n, x ∈ ls)
    rfl scWord.nd (si_range1 B.range (a1 (e_add (se_var 2) (e_take FT hr (a2 (se_var 0) (e_add (e_sub (se_var 3) (se_var 2)) se_int)) gb (hkj := hj)))) (by omega)) (blkOk_by (N := nWord) (sc := defScope sWord) (by decide +kernel)) (by rw [rangeD_len, sizeLine_eq]; omega)
    ⟨_, g1, rfl, [], rfl, rfl, fun x hx => nomatch hx⟩ (fun _ _ _ _ => trivial) ?_ ?_)) ?_
  · rintro i d acc m' hd ⟨s', gs, rfl, n, rfl, hn, hx⟩
    refine ⟨true, _, fun _ _ _ _ _ => sts_nil, fun _ s H C cl fp => ?_, fun z => nomatch z⟩
    refine (b_call FP hr (a2 (se_var 0) (se_var 1)) gs ⟨ls.map PyData.str, rfl, by simpa using hl, by rw [List.length_map]; omega⟩ (hkj := hj2)).imp ?_
    rintro sv m' ⟨s2, g2, rfl, ds, d', e1, e2, rfl⟩
    cases e1
    obtain ⟨x, hx1, rfl⟩ := List.mem_map.mp e2
    refine ⟨_, rfl, s2, g2, rfl, n ++ [x], by rw [List.map_append]; rfl, by rw [List.length_append, hn]; rfl, fun y hy => ?_⟩
    rcases List.mem_append.mp hy with z | z
    · exact hx y z
    · rw [List.mem_singleton.mp z]; exact hx1
  · rintro acc m' ⟨s', gs, rfl, n, rfl, hn, hx⟩
    rw [rangeD_len] at hn
    exact ⟨_, _, Fi.dat, _, rfl, s', gs, rfl, ls, lo, hi, n, rfl, rfl, by omega, by omega, hx⟩
  · rintro sv m' ⟨s', gs, rfl, hR⟩
    exact ⟨_, _, Ret.same, _, b, m, _, rfl, rfl, gs, rfl, hR⟩
theorem ok_bag {f : Addr} {fd : FuncData} {k : Nat} (F : Fun K "_law_bag" "_law_bag" sBag f fd) (B : Bi mg) : FnOk P w K mg base CX0 (k + 1) f fd ["_law_script"] (spBag K) := by
  refine F.ok scBag (fun vs H Q E h => ?_) (fun cdv A outer s H vs Q E hr h => ?_)
  · obtain ⟨a, ns, rfl, _⟩ := h
    rfl
  · obtain ⟨a, ns, rfl, hS, hl, q⟩ := h
    refine ⟨_, pss_one (ps_ret (pe_lst (pa_cons pe_int (pa_cons pe_int (pa_cons pe_int (pa_cons (pe_lc (own := [("_law_cell", 1)]) (g := gName 1) (tt := tYes) rfl scBag.nd (pi_list (pe_slice sl_list (pv 0) po_none (po_some pe_int)))
      (blkOk_by (N := nBag) (sc := defScope sBag) (by decide +kernel)) (fun _ _ _ _ _ => pg_name (i := 1) scBag.nd rfl (Or.inl rfl)) (fun _ _ _ _ _ => pts_nil) (fun _ _ _ _ _ => pe_callB call_abs (by rfl) B.abs (by decide +kernel) (pa_cons (pv 1) pa_nil))) pa_nil)))))), ?_⟩
    refine ⟨.ref a, rfl, 63, rfl, a, ns.map V.int, rfl, hS, fun c nc => ?_⟩
    have cl : (cutV (ns.map V.int) none (some 63)).length ≤ 1000 := Nat.le_trans (cutV_length _ _ _) (by rw [List.length_map]; exact hl)
    have ci : ∀ v ∈ cutV (ns.map V.int) none (some 63), ∃ i, v = V.int i := fun v hv => by
      unfold cutV at hv
      obtain ⟨i, _, rfl⟩ := List.mem_map.mp (List.mem_of_mem_drop (List.mem_of_mem_take hv))
      exact ⟨i, rfl⟩
    refine ⟨c, rfl, ⟨_, .inl (.inl upd_same)⟩, fun D nD => ?_⟩
    have hDc : c ≠ D := fun z => by
      rw [z, upd_same] at nD
      cases nD
    refine lc_list (K := K) (a := c) (xs := cutV (ns.map V.int) none (some 63)) (fun i H2 => H2 c = some (.lst (cutV (ns.map V.int) none (some 63))) ∧ ∃ cs : List Int, H2 D = some (.lst (cs.map V.int)) ∧ cs.length ≤ i) ⟨by rw [upd_ne hDc, upd_same], [], upd_same, Nat.le_refl _⟩ (fun i H2 _ h => .inl (.inl h.1)) ?_ ?_
    · rintro i v H2 hv ⟨h1, cs, h2, h3⟩
      obtain ⟨z, rfl⟩ := ci v (List.mem_of_getElem? hv)
      have hi := (List.getElem?_eq_some_iff.mp hv).1
      refine ⟨rfl, .int z, rfl, z, rfl, cs.map V.int, h2, by rw [List.length_map, sizeLine_eq]; omega, by rw [upd_ne hDc]; exact h1, cs ++ [_], by rw [upd_same, List.map_append]; rfl, by rw [List.length_append]; show cs.length + 1 ≤ i + 1; omega⟩
    · rintro H2 ⟨h1, cs, h2, h3⟩
      refine ⟨by show 4 ≤ sizeLine; decide, fun b nb => q b D cs _ (ne_of_none h2 nb).symm upd_same (by rw [upd_ne (ne_of_none h2 nb)]; exact h2)⟩
theorem ok_under {f : Addr} {fd : FuncData} {k : Nat} (F : Fun K "is_under" "is_under" sUnder f fd) (B : Bi mg) : FnOk P w K mg base CX0 (k + 1) f fd ["name", "top"] (spC (CP (relUnder isUnder))) := by
  refine okC F scUnder ct_under fun cdv A outer s H E hr args μ sv μ' hC => ?_
  obtain ⟨ds, d, rfl, ⟨n, t, k', rfl, hn, ht, rfl⟩, rfl, rfl⟩ := hC
  have hcut : ∀ (h : decide (((t.map PyData.str).length : Int) ≤ ((n.map PyData.str).length : Int)) = true), cutD (n.map PyData.str) (some (((n.map PyData.str).length : Int) - ((t.map PyData.str).length : Int))) none = (n.drop (n.length - t.length)).map PyData.str := by
    intro h
    have h := of_decide_eq_true h
    rw [List.length_map, List.length_map] at h
    rw [cutD_from (by rw [List.length_map, List.length_map]; omega), List.map_drop, List.length_map, List.length_map]
    congr 1
    omega
  refine sss_ret (se_and (e_le (e_len B (a1 (se_var 1))) (e_len B (a1 (se_var 0)))) (fun h => se_and1 (e_eq hr (e_sl (se_var 0) (so_some (e_sub (e_len B (a1 (se_var 0))) (e_len B (a1 (se_var 1))))) so_none) (se_var 1) (hk := by rw [hcut h]; exact eq_of (hn.drop _).okD ht.okD)))) ?_
  refine ret_same ?_ rfl
  unfold isUnder
  by_cases h : t.length ≤ n.length
  · have h' : decide (((t.map PyData.str).length : Int) ≤ ((n.map PyData.str).length : Int)) = true := decide_eq_true (by rw [List.length_map, List.length_map]; omega)
    rw [hcut h', h', decide_eq_true h]
    show SV.dat (.bool (true && PyData.eqv (nameD (n.drop (n.length - t.length))) (nameD t))) = _
    rw [eqv_name]
  · have h' : decide (((t.map PyData.str).length : Int) ≤ ((n.map PyData.str).length : Int)) = false := decide_eq_false (by rw [List.length_map, List.length_map]; omega)
    rw [h', decide_eq_false h]
    rfl
theorem ok_beneath {f : Addr} {fd : FuncData} {k j : Nat} (F : Fun K "is_beneath" "is_beneath" sBeneath f fd) (B : Bi mg) (FU : FnS P w K mg base j "is_under" (CP (relUnder isUnder))) (hj : j ≤ k) : FnOk P w K mg base CX0 (k + 1) f fd ["name", "top"] (spC (CP (relUnder isBeneath))) := by
  refine okC F scBeneath ct_under fun cdv A outer s H E hr args μ sv μ' hC => ?_
  obtain ⟨ds, d, rfl, ⟨n, t, k', rfl, hn, ht, rfl⟩, rfl, rfl⟩ := hC
  refine sss_ret (se_and (e_lt (e_len B (a1 (se_var 1))) (e_len B (a1 (se_var 0)))) (fun h => se_and1 (se_call FU hr (a2 (se_var 0) (se_var 1)) ⟨[nameD n, nameD t], _, rfl, ⟨n, t, k', rfl, hn, ht, rfl⟩, rfl, rfl⟩ (hkj := hj)))) ?_
  refine ret_same ?_ rfl
  unfold isBeneath
  rw [List.length_map, List.length_map]
  congr 3
  exact decide_eq_decide.mpr (by omega)
end
end Lw

namespace Lw
open PySem PySem.Spec PyProof.Rows L2 Sy
noncomputable instance perDec {α : Type} (y : List α) (d : Nat) : Decidable (Per y d) := Classical.propDecidable _
/-- d is the least length that y repeats -/
structure IsRoot {α : Type} (y : List α) (d : Nat) : Prop where
  pos : 1 ≤ d
  le : d ≤ y.length
  per : Per y d
  least : ∀ e, 1 ≤ e → e < d → ¬ Per y e
theorem root_ex {α : Type} {y : List α} (hy : 1 ≤ y.length) : ∃ d, IsRoot y d := by
  have : ∀ n, 1 ≤ n → n ≤ y.length → Per y n → ∃ d, IsRoot y d := by
    intro n
    induction n using Nat.strongRecOn with
    | ind n ih =>
      intro h1 h2 h3
      by_cases h : ∃ e, 1 ≤ e ∧ e < n ∧ Per y e
      · obtain ⟨e, e1, e2, e3⟩ := h
        exact ih e e2 e1 (by omega) e3
      · exact ⟨n, h1, h2, h3, fun e e1 e2 e3 => h ⟨e, e1, e2, e3⟩⟩
  exact this y.length hy (Nat.le_refl _) (per_len y)
def relRay : List PyData → PyData → Prop := fun ds d => ∃ (y : List Str) (m : Nat), ds = [nameD y, .int m] ∧ 0 < y.length ∧ y.length ≤ 12 ∧ 1 ≤ m ∧ m ≤ 40 ∧ d = nameD (ray y m)
theorem ct_ray : CtOk (CP relRay) 2 := ct_p (by rintro _ _ ⟨y, m, rfl, _⟩; rfl)
def relRoot : List PyData → PyData → Prop := fun ds d => ∃ (y : List Str) (r : Nat), ds = [nameD y] ∧ Nm y 12 ∧ IsRoot y r ∧ d = nameD (y.take r)
theorem ct_root : CtOk (CP relRoot) 1 := ct_p (by rintro _ _ ⟨y, m, rfl, _⟩; rfl)
section
variable {w : World} {P : Program} {base : Heap} {mg : Str → Option Value} {K : PySem.W.Frag}
theorem rep_strs (y : List Str) (m : Nat) : (List.replicate m (y.map PyData.str)).flatten = ((List.replicate m y).flatten).map PyData.str := by
  rw [List.map_flatten, List.map_replicate]
theorem ok_ray {f : Addr} {fd : FuncData} {k : Nat} (F : Fun K "ray_end" "ray_end" sPRayEnd f fd) (B : Bi mg) : FnOk P w K mg base CX0 (k + 1) f fd ["name", "many"] (spC (CP relRay)) := by
  refine okC F scPRayEnd ct_ray fun cdv A outer s H E hr args μ sv μ' hC => ?_
  obtain ⟨ds, d, rfl, ⟨y, m, rfl, h1, h2, h3, h4, rfl⟩, rfl, rfl⟩ := hC
  have hm : m * y.length ≤ 40 * 12 := Nat.mul_le_mul h4 h2
  have hy : y.map PyData.str ≠ [] := fun z => by rw [List.map_eq_nil_iff] at z; rw [z] at h1; exact absurd h1 (by decide)
  have e1 : ((m : Nat) : Int).toNat = m := Int.toNat_natCast m
  refine sss_set 2 scPRayEnd.nd (e_mulT (se_var 0) (se_var 1) (hk := by exact ⟨hy, by omega, by omega, by rw [List.length_map]; omega⟩)) ?_
  rw [e1, rep_strs]
  refine sss_ret (e_sl (se_var 2) (so_some (e_sub (e_len B (a1 (se_var 2))) (se_var 1))) so_none) ?_
  refine ret_same ?_ rfl
  have hl : (((List.replicate m y).flatten).map PyData.str).length = m * y.length := by rw [List.length_map, rep_len]
  have hle : m ≤ m * y.length := Nat.le_mul_of_pos_right m h1
  rw [cut_from (by rw [hl]; omega), hl, show ((m * y.length : Nat) : Int) - (m : Int) = ((m * y.length - m : Nat) : Int) by omega, Int.toNat_natCast, ray_rep h1]
theorem mod_nat (a k : Nat) : (((a : Nat) : Int) % (1 + (k : Int)) == 0) = decide (a % (k + 1) = 0) := by
  have : (1 : Int) + (k : Int) = ((k + 1 : Nat) : Int) := by omega
  rw [this]
  have h : ((a : Nat) : Int) % ((k + 1 : Nat) : Int) = ((a % (k + 1) : Nat) : Int) := rfl
  rw [h]
  by_cases z : a % (k + 1) = 0
  · rw [z]; rfl
  · rw [decide_eq_false z, beq_eq_false_iff_ne]
    omega
theorem ok_root {f : Addr} {fd : FuncData} {k : Nat} (F : Fun K "root" "root" sPRoot f fd) (B : Bi mg) : FnOk P w K mg base CX0 (k + 1) f fd ["name"] (spC (CP relRoot)) := by
  refine okC F scPRoot ct_root fun cdv A outer s H E hr args μ sv μ' hC => ?_
  obtain ⟨ds, d, rfl, ⟨y, r, rfl, hn, hR, rfl⟩, rfl, rfl⟩ := hC
  have hl := hn.len
  have L : ((y.map PyData.str).length : Int) = (y.length : Int) := by rw [List.length_map]
  have hy : y.map PyData.str ≠ [] := fun z => by
    rw [List.map_eq_nil_iff] at z
    have := hR.pos
    have := hR.le
    rw [z] at this
    simp at this
    omega
  refine sss_for (fun k env m => m = μ' ∧ (∃ x1, env = [some (.dat (nameD y)), x1]) ∧ k < r) PassesOwn.never rfl (si_range2 B.range (a2 se_int (e_len B (a1 (se_var 0)))) (by omega)) (sg_name 1 scPRoot.nd) ⟨rfl, ⟨_, rfl⟩, by have := hR.pos; omega⟩ (fun _ _ _ _ => trivial) ?_ ?_
  · rintro i d env m hd ⟨rfl, ⟨x1, rfl⟩, hi⟩
    have hi2 : i < y.length - 1 := by
      have := (List.getElem?_eq_some_iff.mp hd).1
      rw [rangeD_len] at this
      omega
    rw [rangeD_get (by omega)] at hd
    obtain rfl := Option.some.inj hd
    refine ⟨_, rfl, ?_⟩
    have ct : cutD (y.map PyData.str) none (some (1 + (i : Int))) = (y.take (i + 1)).map PyData.str := by
      rw [cut_to (by omega)]
      congr 2
      omega
    have hq : ∀ z : decide (y.length % (i + 1) = 0) = true, (List.replicate (((y.map PyData.str).length : Int) / (1 + (i : Int))).toNat (cutD (y.map PyData.str) none (some (1 + (i : Int))))).flatten = ((List.replicate (y.length / (i + 1)) (y.take (i + 1))).flatten).map PyData.str := by
      intro _
      rw [ct, L, show (1 : Int) + (i : Int) = ((i + 1 : Nat) : Int) by omega, show ((y.length : Nat) : Int) / ((i + 1 : Nat) : Int) = ((y.length / (i + 1) : Nat) : Int) from rfl, Int.toNat_natCast, rep_strs]
    have tl : (y.take (i + 1)).length = i + 1 := by rw [List.length_take]; omega
    have q1 : 1 ≤ y.length / (i + 1) := (Nat.le_div_iff_mul_le (by omega)).mpr (by omega)
    have q2 : y.length / (i + 1) ≤ y.length := Nat.div_le_self _ _
    have q3 : y.length / (i + 1) * (i + 1) ≤ y.length := Nat.div_mul_le_self _ _
    have nr : ∀ x ∈ (List.replicate (y.length / (i + 1)) (y.take (i + 1))).flatten, Lab x := by
      intro x hx
      obtain ⟨l, h1, h2⟩ := List.mem_flatten.mp hx
      rw [(List.mem_replicate.mp h1).2] at h2
      exact hn.lab x (List.mem_of_mem_take h2)
    refine sss_if (q := decide (Per y (i + 1))) (μ1 := m) ?_ (fun h => ?_) (fun h => ?_)
    · have e0 : decide (Per y (i + 1)) = (((((y.map PyData.str).length : Nat) : Int) % (1 + (i : Int)) == 0) && PyData.eqv (nameD ((List.replicate (y.length / (i + 1)) (y.take (i + 1))).flatten)) (nameD y)) := by
        rw [List.length_map, mod_nat, eqv_name]
        by_cases z : y.length % (i + 1) = 0
        · have := per_rep (y := y) (d := i + 1) (by omega) z (by omega)
          rw [decide_eq_true z, Bool.true_and]
          exact decide_eq_decide.mpr ⟨fun h => this.mpr h.2, fun h => ⟨z, this.mp h⟩⟩
        · rw [decide_eq_false z, Bool.false_and]
          exact decide_eq_false fun h => z h.1
      rw [e0]
      refine SW.st (sw_and (t_eqI hr (e_mod (e_len B (a1 (se_var 0))) (se_var 1) (hk := by show (0 : Int) < 1 + (i : Int); omega)) se_int) (fun h => sw_and1 ?_))
      have h' := h
      rw [List.length_map, mod_nat] at h'
      refine t_eq hr (d1 := nameD ((List.replicate (y.length / (i + 1)) (y.take (i + 1))).flatten)) (d2 := nameD y) (s1 := .dat (nameD ((List.replicate (y.length / (i + 1)) (y.take (i + 1))).flatten))) ?_ (se_var 0) (hk := eq_of (h := 1) (n := 12 * 164 + 3) (Nm.okD ⟨nr, by rw [rep_len, tl]; omega⟩) hn.okD)
      rw [show nameD ((List.replicate (y.length / (i + 1)) (y.take (i + 1))).flatten) = .tuple _ from rfl, ← hq h']
      have hmk : mulTOk (.tuple (cutD (y.map PyData.str) none (some (1 + (i : Int))))) (.int (((y.map PyData.str).length : Int) / (1 + (i : Int)))) := by
        refine ⟨?_, ?_, ?_, ?_⟩
        · rw [ct]
          intro z
          rw [List.map_eq_nil_iff] at z
          rw [z] at tl
          simp at tl
        · rw [L, show (1 : Int) + (i : Int) = ((i + 1 : Nat) : Int) by omega, show ((y.length : Nat) : Int) / ((i + 1 : Nat) : Int) = ((y.length / (i + 1) : Nat) : Int) from rfl]
          omega
        · rw [L, show (1 : Int) + (i : Int) = ((i + 1 : Nat) : Int) by omega, show ((y.length : Nat) : Int) / ((i + 1 : Nat) : Int) = ((y.length / (i + 1) : Nat) : Int) from rfl]
          omega
        · rw [ct, List.length_map, tl]
          omega
      exact e_mulT (e_sl (se_var 0) so_none (so_some (se_var 1))) (e_fdiv (e_len B (a1 (se_var 0))) (se_var 1) (hk := by show (0 : Int) < 1 + (i : Int) ∧ 1 + (i : Int) < 1073741824; omega)) (hk := hmk)
    · have hp := of_decide_eq_true h
      have : r = i + 1 := by
        rcases Nat.lt_or_ge (i + 1) r with z | z
        · exact absurd hp (hR.least _ (by omega) z)
        · omega
      subst this
      refine sss_ret (e_sl (se_var 0) so_none (so_some (se_var 1))) ?_
      show Ret _ _ _ _
      rw [ct]
      exact Ret.same
    · have hp := of_decide_eq_false h
      refine sss_nil (sss_nil ⟨rfl, ⟨_, rfl⟩, ?_⟩)
      have : r ≠ i + 1 := fun z => hp (z ▸ hR.per)
      omega
  · rintro env m ⟨rfl, ⟨x1, rfl⟩, hi⟩
    rw [rangeD_len] at hi
    have := hR.le
    have e : y.take r = y := List.take_of_length_le (by omega)
    rw [e]
    exact sss_ret (se_var 0) Ret.same
/-- the places that differ -/
def offD (y : List Str) (d n : Nat) : List PyData := ((List.range n).filter fun k => !decide (y[k]? = y[k % d]?)).map fun (k : Nat) => PyData.int (k : Int)
theorem offD_nil {y : List Str} {d n : Nat} : offD y d n = [] ↔ ∀ k, k < n → y[k]? = y[k % d]? := by
  unfold offD
  rw [List.map_eq_nil_iff, List.filter_eq_nil_iff]
  constructor
  · intro h k hk
    have := h k (List.mem_range.mpr hk)
    simpa using this
  · intro h k hk
    simpa using h k (List.mem_range.mp hk)
theorem offD_succ (y : List Str) (d n : Nat) : offD y d (n + 1) = if y[n]? = y[n % d]? then offD y d n else offD y d n ++ [.int n] := by
  unfold offD
  rw [List.range_succ, List.filter_append, List.map_append]
  by_cases h : y[n]? = y[n % d]?
  · rw [if_pos h, List.filter_cons_of_neg (by simpa using h)]
    simp
  · rw [if_neg h, List.filter_cons_of_pos (by simpa using h)]
    rfl
theorem ints_lay : ∀ ns : List Nat, PyData.canLayAll0 (ns.map fun (k : Nat) => PyData.int (k : Int)) = true ∧ PyData.depthAll (ns.map fun (k : Nat) => PyData.int (k : Int)) = 0
  | [] => ⟨rfl, rfl⟩
  | n :: ns => by
    obtain ⟨h1, h2⟩ := ints_lay ns
    refine ⟨?_, ?_⟩
    · show (PyData.canLay0 (.int n) && PyData.canLayAll0 (ns.map fun (k : Nat) => PyData.int (k : Int))) = true
      rw [h1]
      rfl
    · show max (PyData.depth (.int n)) (PyData.depthAll (ns.map fun (k : Nat) => PyData.int (k : Int))) = 0
      rw [h2]
      rfl
theorem off_shaped (y : List Str) (d n : Nat) : SeqAt.shaped (.list (offD y d n)) = true := by
  unfold SeqAt.shaped offD
  obtain ⟨h1, h2⟩ := ints_lay ((List.range n).filter fun k => !decide (y[k]? = y[k % d]?))
  rw [show PyData.canLay0 (.list (((List.range n).filter fun k => !decide (y[k]? = y[k % d]?)).map fun (k : Nat) => PyData.int (k : Int))) = PyData.canLayAll0 (((List.range n).filter fun k => !decide (y[k]? = y[k % d]?)).map fun (k : Nat) => PyData.int (k : Int)) from rfl, h1,
    show PyData.depth (.list (((List.range n).filter fun k => !decide (y[k]? = y[k % d]?)).map fun (k : Nat) => PyData.int (k : Int))) = PyData.depthAll (((List.range n).filter fun k => !decide (y[k]? = y[k % d]?)).map fun (k : Nat) => PyData.int (k : Int)) + 1 from rfl, h2]
  rfl
theorem eqv_nil (ds : List PyData) : PyData.eqv (.list ds) (.list []) = decide (ds = []) := by
  cases ds with
  | nil => rfl
  | cons d ds => rfl
theorem ok_lroot {f : Addr} {fd : FuncData} {k : Nat} (F : Fun K "_law_root" "_law_root" sLRoot f fd) (B : Bi mg) : FnOk P w K mg base CX0 (k + 1) f fd ["_law_name"] (spC (CP relRoot)) := by
  refine okC F scLRoot ct_root fun cdv A outer s H E hr args μ sv μ' hC => ?_
  obtain ⟨ds, d, rfl, ⟨y, r, rfl, hn, hR, rfl⟩, rfl, rfl⟩ := hC
  have hl := hn.len
  have L : ((y.map PyData.str).length : Int) = (y.length : Int) := by rw [List.length_map]
  refine sss_for (fun k env m => m = μ' ∧ (∃ x1 x2 x3, env = [some (.dat (nameD y)), x1, x2, x3]) ∧ k < r) PassesOwn.never rfl (si_range2 B.range (a2 se_int (e_add (e_len B (a1 (se_var 0))) se_int)) (by omega)) (sg_name 1 scLRoot.nd) ⟨rfl, ⟨_, _, _, rfl⟩, by have := hR.pos; omega⟩ (fun _ _ _ _ => trivial) ?_ ?_
  · rintro i d env m hd ⟨rfl, ⟨x1, x2, x3, rfl⟩, hi⟩
    have hi2 : i < y.length := by
      have := (List.getElem?_eq_some_iff.mp hd).1
      rw [rangeD_len] at this
      omega
    rw [rangeD_get (by omega)] at hd
    obtain rfl := Option.some.inj hd
    refine ⟨_, rfl, ?_⟩
    refine sss_setLc 2 3 (fun j acc mm => mm = m ∧ acc = offD y (i + 1) j) rfl scLRoot.nd (si_range1 B.range (a1 (e_len B (a1 (se_var 0)))) (by omega)) (blkOk_by (N := nLRoot) (sc := defScope sLRoot) (by decide +kernel))
      (by rw [rangeD_len, sizeLine_eq]; omega) ⟨rfl, rfl⟩ (fun _ _ _ _ => trivial) ?_ (out := offD y (i + 1) y.length) (μ2 := m) ?_ Fi.dat (sw_true rfl rfl rfl (by decide +kernel)) ?_
    · rintro j d acc mm hd ⟨rfl, rfl⟩
      have hj : j < y.length := by
        have := (List.getElem?_eq_some_iff.mp hd).1
        rw [rangeD_len] at this
        omega
      rw [rangeD_get (by omega)] at hd
      obtain rfl := Option.some.inj hd
      have hjm : j % (i + 1) < y.length := Nat.lt_of_le_of_lt (Nat.mod_le _ _) hj
      have g1 : ixD (.tuple (y.map PyData.str)) (.int (0 + (j : Int))) = some (.val (.str y[j])) := ixD_atT (by omega) (by rw [show (0 + (j : Int)).toNat = j by omega, List.getElem?_map, List.getElem?_eq_getElem hj]; rfl)
      have em : (0 + (j : Int)) % (1 + (i : Int)) = ((j % (i + 1) : Nat) : Int) := by
        rw [Int.zero_add, show (1 : Int) + (i : Int) = ((i + 1 : Nat) : Int) by omega]
        rfl
      have g2 : ixD (.tuple (y.map PyData.str)) (.int ((0 + (j : Int)) % (1 + (i : Int)))) = some (.val (.str (y[j % (i + 1)]'hjm))) := ixD_atT (by omega) (by rw [em, Int.toNat_natCast, List.getElem?_map, List.getElem?_eq_getElem hjm]; rfl)
      have ge : (y[j]? = y[j % (i + 1)]?) ↔ y[j] = y[j % (i + 1)]'hjm := by
        rw [List.getElem?_eq_getElem hj, List.getElem?_eq_getElem hjm]
        exact ⟨Option.some.inj, fun h => by rw [h]⟩
      refine ⟨!decide (y[j] = y[j % (i + 1)]'hjm), _, fun s H C cl fp => sts_one (t_neS (e_ix (se_var 0) (se_var 3) (hf := g1)) (e_ix (se_var 0) (e_mod (e_int B (a1 (se_var 3))) (se_var 1) (hk := by show (0 : Int) < 1 + (i : Int); omega)) (hf := g2))), fun z => ⟨_, _, ⟨rfl, ?_⟩, fun s H C cl fp => se_var 3⟩, fun z => ⟨rfl, ?_⟩⟩
      · rw [offD_succ, if_neg (by rw [ge]; simpa using z), Int.zero_add]
      · rw [offD_succ, if_pos (by rw [ge]; simpa using z)]
    · rintro acc mm ⟨rfl, rfl⟩
      refine ⟨?_, rfl⟩
      rw [rangeD_len, L, Int.toNat_natCast]
    · refine sss_if (q := decide (Per y (i + 1))) (μ1 := m) ?_ (fun h => ?_) (fun h => ?_)
      · have e0 : decide (Per y (i + 1)) = (((((y.map PyData.str).length : Nat) : Int) % (1 + (i : Int)) == 0) && PyData.eqv (.list (offD y (i + 1) y.length)) (.list [])) := by
          rw [List.length_map, mod_nat, eqv_nil]
          by_cases z : y.length % (i + 1) = 0
          · rw [decide_eq_true z, Bool.true_and]
            exact decide_eq_decide.mpr ⟨fun h => offD_nil.mpr h.2, fun h => ⟨z, offD_nil.mp h⟩⟩
          · rw [decide_eq_false z, Bool.false_and]
            exact decide_eq_false fun h => z h.1
        rw [e0]
        exact SW.st (sw_and (t_eqI hr (e_mod (e_int B (a1 (e_len B (a1 (se_var 0))))) (se_var 1) (hk := by show (0 : Int) < 1 + (i : Int); omega)) se_int) (fun h => sw_and1 (t_eq hr (se_var 2) (e_l sa_nil) (hk := ⟨off_shaped _ _ _, rfl⟩))))
      · have hp := of_decide_eq_true h
        have : r = i + 1 := by
          rcases Nat.lt_or_ge (i + 1) r with z | z
          · exact absurd hp (hR.least _ (by omega) z)
          · omega
        subst this
        refine sss_ret (e_sl (se_var 0) so_none (so_some (se_var 1))) ?_
        show Ret _ _ _ _
        rw [cut_to (by omega), show (1 + (i : Int)).toNat = i + 1 by omega]
        exact Ret.same
      · have hp := of_decide_eq_false h
        refine sss_nil (sss_nil ⟨rfl, ⟨_, _, _, rfl⟩, ?_⟩)
        have : r ≠ i + 1 := fun z => hp (z ▸ hR.per)
        omega
  · rintro env m ⟨rfl, ⟨x1, x2, x3, rfl⟩, hi⟩
    rw [rangeD_len] at hi
    have := hR.le
    have e : y.take r = y := List.take_of_length_le (by omega)
    rw [e]
    exact sss_ret (se_var 0) Ret.same
end
end Lw

namespace Lw
open PySem PySem.Spec PyProof.Rows L2 Sy
theorem beneath_ray {w y s : List Str} (hy : 0 < y.length) : isBeneath (w ++ y ++ s) (w ++ s) = decide (w = ray y w.length) := by
  unfold isBeneath isUnder
  have l1 : (w ++ y ++ s).length = w.length + y.length + s.length := by rw [List.length_append, List.length_append]
  have l2 : (w ++ s).length = w.length + s.length := List.length_append
  rw [l1, l2, decide_eq_true (by omega), decide_eq_true (by omega), Bool.true_and, Bool.true_and]
  rw [show w.length + y.length + s.length - (w.length + s.length) = y.length by omega]
  rw [List.drop_append_of_le_length (by rw [List.length_append]; omega)]
  refine decide_eq_decide.mpr ?_
  rw [List.append_left_inj]
  exact ray_under hy
section
variable {w : World} {P : Program} {base : Heap} {mg : Str → Option Value} {K : PySem.W.Frag}
set_option maxHeartbeats 2000000 in
theorem ok_law {f fB : Addr} {fd fdB : FuncData} (F : Fun K "law" "law" sLaw f fd) (B : Bi mg) (GB : FnOk P w K mg base CX0 1 fB fdB ["_law_script"] (spBag K)) (mB : mg "_law_bag" = some (.ref fB)) (kB : PySem.W.keepIn K (.ref fB) = true) (bB : Binds K fdB ["_law_script"] [])
    (FT : FnS P w K mg base 1 "_law_take" CTake) (FL : FnN P w K mg base 2 "_law_labels" (BPre ALabels) (BPost RLabels)) (FW : FnN P w K mg base 3 "_law_word" (BPre AWord) (BPost RWord)) (FP : FnS P w K mg base 2 "_law_pick" CPick)
    (FR : FnS P w K mg base 1 "ray_end" (CP relRay)) (FO : FnS P w K mg base 1 "root" (CP relRoot)) (FO2 : FnS P w K mg base 1 "_law_root" (CP relRoot)) (FB : FnS P w K mg base 2 "is_beneath" (CP (relUnder isBeneath))) (FA : FnSG P w K mg base 1 "_law_alike" CAlike) : Gd.FnG P w K mg base CX0 5 f fd ["_law_script"] (spLaw K) := by
  refine Gd.okG F scLaw (fun vs H Q E h => ?_) (fun cdv A outer s H vs Q E gA hr h => ?_)
  · obtain ⟨a, ns, rfl, _⟩ := h
    rfl
  refine law_first 9 h GB hr (by decide) mB kB bB scLaw.nd fun b gb => ?_
  have g0 := takeS_good (n := 3) gb (by decide)
  have t0 := takeV_nonneg (s := b) (n := 3) (by decide)
  have t1 := takeV_lt (s := b) (n := 3) (by decide)
  have e0 : (1 : Int) + takeV b 3 = ((1 + (takeV b 3).toNat : Nat) : Int) := by omega
  refine sss_setN 2 scLaw.nd (b_labels FL hr (n := 1 + (takeV b 3).toNat) (by rw [← e0]; exact a2 (se_var 1) (e_add se_int (e_take FT hr (a2 (se_var 1) se_int) gb))) g0 (by omega)) ?_
  rintro _ _ ⟨b1, ls, gb1, rfl, rfl, hll, hls⟩
  have hlab : ∀ x ∈ ls, Lab x := fun x hx => (hls x hx).1
  have hl0 : ls ≠ [] := fun z => by rw [z] at hll; simp at hll; omega
  have hl1 : ls.length ≤ 1000 := by omega
  refine sss_for (fun k env μ => ∃ b m x3 x4 x5 x6 x7 x8 x9 x10, Good b ∧ μ = bagC b :: m ∧ env = [none, some (.cell 0), some (.dat (.list (ls.map PyData.str))), x3, x4, x5, x6, x7, x8, x9, x10]) PassesOwn.never rfl
    (si_range1 B.range (a1 se_int) (by decide)) (sg_name 3 scLaw.nd) ⟨b1, [], _, _, _, _, _, _, _, _, gb1, rfl, rfl⟩ (fun _ _ _ _ => trivial) ?_ ?_
  · rintro k d env μ hd ⟨b, m, x3, x4, x5, x6, x7, x8, x9, x10, gb, rfl, rfl⟩
    refine ⟨_, rfl, ?_⟩
    -- y
    have g2 := takeS_good (n := 2) gb (by decide)
    have t2 := takeV_nonneg (s := b) (n := 2) (by decide)
    have t3 := takeV_lt (s := b) (n := 2) (by decide)
    obtain ⟨hi, ehi, h3, h12⟩ : ∃ hi, ixD (.list [.int 3, .int 12]) (.int (takeV b 2)) = some (.val (.int hi)) ∧ 3 ≤ hi ∧ hi ≤ 12 := by
      have : takeV b 2 = 0 ∨ takeV b 2 = 1 := by omega
      rcases this with z | z <;> rw [z]
      · exact ⟨3, rfl, by decide, by decide⟩
      · exact ⟨12, rfl, by decide, by decide⟩
    refine sss_setN 4 scLaw.nd (b_word FW hr (sa_cons (se_var 1) (sa_cons (se_var 2) (a2 se_int (e_ix (e_l (a2 se_int se_int)) (e_take FT hr (a2 (se_var 1) se_int) gb) (hf := ehi))))) g2 hl0 hl1 (by omega)) ?_
    rintro _ _ ⟨b2, y, gb2, rfl, rfl, hy0, hy1, hyx⟩
    have ny : Nm y 12 := ⟨fun x hx => hlab x (hyx x hx), by omega⟩
    have Ly : ((y.map PyData.str).length : Int) = (y.length : Int) := by rw [List.length_map]
    -- the repetition
    refine sss_ifJ (q := decide (((y.map PyData.str).length : Int) < 7) && (takeV b2 3 == 0)) (μ1 := if decide (((y.map PyData.str).length : Int) < 7) = true then bagC (takeS b2 3) :: m else bagC b2 :: m)
      (fun env μ => ∃ b y, Good b ∧ μ = bagC b :: m ∧ Nm y 12 ∧ 1 ≤ y.length ∧ env = [none, some (.cell 0), some (.dat (.list (ls.map PyData.str))), some (.dat d), some (.dat (nameD y)), x5, x6, x7, x8, x9, x10])
      (SW.st (sw_and (t_lt (e_len B (a1 (se_var 4))) se_int) (fun _ => sw_and1 (t_eqI hr (e_take FT hr (a2 (se_var 1) se_int) gb2) se_int)) rfl)) (fun h => ?_) (fun h => ?_) ?_
    · have h7 : decide (((y.map PyData.str).length : Int) < 7) = true := by
        cases z : decide (((y.map PyData.str).length : Int) < 7) with
        | true => rfl
        | false => rw [z] at h; exact nomatch h
      rw [if_pos h7]
      have h7' := of_decide_eq_true h7
      have g3 := takeS_good (n := 3) gb2 (by decide)
      have ea : (List.replicate (4 : Int).toNat (y.map PyData.str)).flatten = ((List.replicate 4 y).flatten).map PyData.str := rep_strs y 4
      have hdiv : (12 : Int) / (y.length : Int) = ((12 / y.length : Nat) : Int) := rfl
      have q1 : y.length * (12 / y.length) ≤ 12 := Nat.mul_div_le 12 y.length
      have q2 : 1 ≤ 12 / y.length := (Nat.le_div_iff_mul_le (by omega)).mpr (by omega)
      have q3 : y.length ≤ y.length * (12 / y.length) := Nat.le_mul_of_pos_right _ q2
      have emul : ((y.map PyData.str).length : Int) * (12 / ((y.map PyData.str).length : Int)) = ((y.length * (12 / y.length) : Nat) : Int) := by rw [Ly, hdiv]; rfl
      have hne : y.map PyData.str ≠ [] := fun z => by rw [List.map_eq_nil_iff] at z; rw [z] at hy0; simp at hy0
      refine sss_set 4 scLaw.nd (e_sl (e_mulT (se_var 4) se_int (hk := by exact ⟨hne, by decide, by decide, by omega⟩)) so_none (so_some (e_mul (e_len B (a1 (se_var 4))) (e_fdiv se_int (e_len B (a1 (se_var 4))) (hk := by show (0 : Int) < ((y.map PyData.str).length : Int) ∧ ((y.map PyData.str).length : Int) < 1073741824; omega)) (hk := ?_)))) (sss_nil ?_)
      · exact Or.inl ⟨by omega, by omega⟩
      · refine ⟨_, ((List.replicate 4 y).flatten).take (y.length * (12 / y.length)), g3, rfl, ⟨fun x hx => ?_, ?_⟩, ?_, ?_⟩
        · obtain ⟨l, h1, h2⟩ := List.mem_flatten.mp (List.mem_of_mem_take hx)
          rw [(List.mem_replicate.mp h1).2] at h2
          exact ny.lab x h2
        · rw [List.length_take]; omega
        · rw [List.length_take, rep_len]; omega
        · rw [ea, emul, cut_to (by omega), Int.toNat_natCast]
          rfl
    · refine sss_nil ?_
      by_cases z : decide (((y.map PyData.str).length : Int) < 7) = true
      · rw [if_pos z]
        exact ⟨_, y, takeS_good (n := 3) gb2 (by decide), rfl, ny, by omega, rfl⟩
      · rw [if_neg z]
        exact ⟨_, y, gb2, rfl, ny, by omega, rfl⟩
    clear hy0 hy1 hyx ny Ly
    rintro _ _ ⟨b2, y, gb2, rfl, ny, hy1, rfl⟩
    have hyl := ny.len
    have Ly : ((y.map PyData.str).length : Int) = (y.length : Int) := by rw [List.length_map]
    -- many
    have g4 := takeS_good (n := 2) gb2 (by decide)
    have t4 := takeV_nonneg (s := b2) (n := 2) (by decide)
    have t5 := takeV_lt (s := b2) (n := 2) (by decide)
    obtain ⟨hi2, ehi2, h6, h40⟩ : ∃ hi, ixD (.list [.int 6, .int 40]) (.int (takeV b2 2)) = some (.val (.int hi)) ∧ 6 ≤ hi ∧ hi ≤ 40 := by
      have : takeV b2 2 = 0 ∨ takeV b2 2 = 1 := by omega
      rcases this with z | z <;> rw [z]
      · exact ⟨6, rfl, by decide, by decide⟩
      · exact ⟨40, rfl, by decide, by decide⟩
    have g5 := takeS_good (n := hi2) g4 (by omega)
    have t6 := takeV_nonneg (s := takeS b2 2) (n := hi2) (by omega)
    have t7 := takeV_lt (s := takeS b2 2) (n := hi2) (by omega)
    refine sss_set 5 scLaw.nd (e_add se_int (e_take FT hr (a2 (se_var 1) (e_ix (e_l (a2 se_int se_int)) (e_take FT hr (a2 (se_var 1) se_int) gb2) (hf := ehi2))) g4)) ?_
    obtain ⟨M, eM⟩ : ∃ M : Nat, (1 : Int) + takeV (takeS b2 2) hi2 = (M : Int) := ⟨(1 + takeV (takeS b2 2) hi2).toNat, by omega⟩
    rw [eM]
    have hM1 : 1 ≤ M := by omega
    have hM2 : M ≤ 40 := by omega
    generalize takeS (takeS b2 2) hi2 = b3 at g5 ⊢
    -- due
    refine sss_set 6 scLaw.nd (e_tup B (a1 (se_lc 7 (fun i acc mm => mm = bagC b3 :: m ∧ acc = ((ray y M).take i).map PyData.str) rfl scLaw.nd (si_range1 B.range (a1 (se_var 5)) (by omega)) (blkOk_by (N := nLaw) (sc := defScope sLaw) (by decide +kernel))
      (by rw [rangeD_len, sizeLine_eq]; omega) ⟨rfl, rfl⟩ (fun _ _ _ _ => trivial) ?_ (out := (ray y M).map PyData.str) (μ2 := bagC b3 :: m) ?_ Fi.dat))) ?_
    · rintro i d acc mm hd ⟨rfl, rfl⟩
      have hi : i < M := by
        have := (List.getElem?_eq_some_iff.mp hd).1
        rw [rangeD_len] at this
        omega
      rw [rangeD_get (by omega)] at hd
      obtain rfl := Option.some.inj hd
      have hlt := Nat.mod_lt (M - 1 - i) (show 0 < y.length by omega)
      have em : ((y.map PyData.str).length : Int) - 1 - ((M : Int) - 1 - (0 + (i : Int))) % ((y.map PyData.str).length : Int) = ((y.length - 1 - (M - 1 - i) % y.length : Nat) : Int) := by
        rw [Ly, show (M : Int) - 1 - (0 + (i : Int)) = ((M - 1 - i : Nat) : Int) by omega, show ((M - 1 - i : Nat) : Int) % (y.length : Int) = (((M - 1 - i) % y.length : Nat) : Int) from rfl]
        omega
      have hx : y.length - 1 - (M - 1 - i) % y.length < y.length := by omega
      have gx : ixD (.tuple (y.map PyData.str)) (.int (((y.map PyData.str).length : Int) - 1 - ((M : Int) - 1 - (0 + (i : Int))) % ((y.map PyData.str).length : Int))) = some (.val (.str y[y.length - 1 - (M - 1 - i) % y.length])) :=
        ixD_atT (by omega) (by rw [em, Int.toNat_natCast, List.getElem?_map, List.getElem?_eq_getElem hx]; rfl)
      refine ⟨true, _, fun _ _ _ _ _ => sts_nil, fun _ => ⟨_, _, ⟨rfl, ?_⟩, fun s H C cl fp => e_ix (se_var 4) (e_sub (e_sub (e_len B (a1 (se_var 4))) se_int) (e_mod (e_int B (a1 (e_sub (e_sub (se_var 5) se_int) (se_var 7)))) (e_len B (a1 (se_var 4))) (hk := by show (0 : Int) < ((y.map PyData.str).length : Int); omega))) (hf := gx)⟩, fun z => nomatch z⟩
      rw [take_snoc (x := y[y.length - 1 - (M - 1 - i) % y.length]) (by rw [ray_get (by omega) hi, List.getElem?_eq_getElem hx]), List.map_append]
      rfl
    · rintro acc mm ⟨rfl, rfl⟩
      refine ⟨?_, rfl⟩
      rw [rangeD_len, List.take_of_length_le (by rw [ray_len (by omega)]; omega)]
    have nr : ∀ {z : List Str} {c : Nat}, (∀ x ∈ z, Lab x) → ∀ x ∈ ray z c, Lab x := by
      intro z c hz x hx
      unfold ray at hx
      obtain ⟨i, _, h2⟩ := List.mem_filterMap.mp hx
      exact hz x (List.mem_of_getElem? h2)
    have nR : Nm (ray y M) 40 := ⟨nr ny.lab, by rw [ray_len (by omega)]; omega⟩
    obtain ⟨r, hr0⟩ := root_ex (y := y) hy1
    have cRay : ∀ μ : Mu, CP relRay [.dat (nameD y), .dat (.int (M : Int))] μ (.dat (nameD (ray y M))) μ := fun μ => ⟨[nameD y, .int M], _, rfl, ⟨y, M, rfl, by omega, by omega, hM1, hM2, rfl⟩, rfl, rfl⟩
    have cRoot : ∀ μ : Mu, CP relRoot [.dat (nameD y)] μ (.dat (nameD (y.take r))) μ := fun μ => ⟨[nameD y], _, rfl, ⟨y, r, rfl, ny, hr0, rfl⟩, rfl, rfl⟩
    have cRay2 : ∀ μ : Mu, CP relRay [.dat (nameD (y.take r)), .dat (.int (M : Int))] μ (.dat (nameD (ray (y.take r) M))) μ := fun μ => ⟨[nameD (y.take r), .int M], _, rfl, ⟨y.take r, M, rfl, by rw [List.length_take]; have := hr0.pos; omega, by rw [List.length_take]; omega, hM1, hM2, rfl⟩, rfl, rfl⟩
    have okD : Ok (.list [nameD (ray y M), nameD (y.take r), nameD (ray y M)]) 2 (3 * (40 * 164 + 3 + 2) + 2) := Ok.list (h := 1) (fun d hd => by
      simp only [List.mem_cons, List.not_mem_nil, or_false] at hd
      rcases hd with rfl | rfl | rfl
      · exact nR.okD
      · exact ((ny.take r).mono (by decide)).okD
      · exact nR.okD) (show 3 ≤ 3 by decide)
    refine sss_if (st_not (st_val (se_callG FA gA hr (a2 (e_l (sa_cons (se_call FR hr (a2 (se_var 4) (se_var 5)) (cRay _)) (a2 (se_call FO hr (a1 (se_var 4)) (cRoot _)) (se_call FR hr (a2 (se_var 4) (se_var 5)) (cRay _))))) (e_l (sa_cons (se_var 6) (a2 (se_call FO2 hr (a1 (se_var 4)) (cRoot _)) (se_var 6))))) ⟨_, _, _, _, _, rfl, rfl, rfl, okD, by decide, by decide, rfl, rfl⟩))) (fun h => nomatch h) (fun _ => sss_nil ?_)
    have hneq : (!PyData.eqv (nameD (ray (y.take r) M)) (nameD (ray y M))) = false := by
      rw [ray_per hr0.pos hr0.le hr0.per, eqv_name, decide_eq_true rfl]
      rfl
    refine sss_if (t_ne hr (se_call FR hr (a2 (se_call FO hr (a1 (se_var 4)) (cRoot _)) (se_var 5)) (cRay2 _)) (se_var 6) (hk := eq_of (Nm.okD (n := ray (y.take r) M) (k := 40) ⟨nr (ny.take r).lab, by rw [ray_len (by rw [List.length_take]; have := hr0.pos; omega)]; omega⟩) nR.okD)) (fun h => by rw [hneq] at h; exact nomatch h) (fun _ => sss_nil ?_)
    clear hneq okD cRay cRay2 cRoot hr0 nR
    -- y, s
    refine sss_tup2N 4 8 rfl scLaw.nd (sen_t (P := fun sv mm => ∃ b y s, Good b ∧ mm = bagC b :: m ∧ sv = .dat (.tuple [nameD y, nameD s]) ∧ (1 : Int) ≤ y.length ∧ (y.length : Int) ≤ 3 ∧ (s.length : Int) ≤ 2 ∧ (∀ x ∈ y, x ∈ ls) ∧ ∀ x ∈ s, x ∈ ls)
      (san_cons (b_word FW hr (sa_cons (se_var 1) (sa_cons (se_var 2) (a2 se_int se_int))) g5 hl0 hl1 (by decide)) (PA := fun sv r mm => ∃ b y s, Good b ∧ mm = bagC b :: m ∧ sv = .dat (nameD y) ∧ r = [.dat (nameD s)] ∧ (1 : Int) ≤ y.length ∧ (y.length : Int) ≤ 3 ∧ (s.length : Int) ≤ 2 ∧ (∀ x ∈ y, x ∈ ls) ∧ ∀ x ∈ s, x ∈ ls) ?_) ?_) ?_
    · rintro sv mm ⟨b4, y2, gb4, rfl, rfl, h1, h2, h3⟩
      refine (san_cons (b_word FW hr (sa_cons (se_var 1) (sa_cons (se_var 2) (a2 se_int se_int))) gb4 hl0 hl1 (by decide)) (PA := fun sv r mm => r = [] ∧ WordP ls 0 2 m sv mm) ?_).imp ?_
      · rintro sv mm h
        refine san_nil.imp ?_
        rintro _ _ ⟨rfl, rfl⟩
        exact ⟨rfl, h⟩
      · rintro svs mm ⟨s, r, rfl, rfl, b5, s2, gb5, rfl, rfl, k1, k2, k3⟩
        exact ⟨b5, y2, s2, gb5, rfl, rfl, rfl, h1, h2, k2, h3, k3⟩
    · rintro svs mm ⟨s, r, rfl, b5, y2, s2, gb5, rfl, rfl, rfl, h⟩
      exact ⟨[nameD y2, nameD s2], rfl, (show 2 ≤ sizeLine by decide), b5, y2, s2, gb5, rfl, rfl, h⟩
    clear nr ny hyl Ly hy1
    rintro _ _ ⟨b5, y, s2, gb5, rfl, rfl, hy0, hy1, hs1, hyx, hsx⟩
    refine ⟨_, _, rfl, ?_⟩
    have ny : Nm y 3 := ⟨fun x hx => hlab x (hyx x hx), by omega⟩
    have ns : Nm s2 2 := ⟨fun x hx => hlab x (hsx x hx), by omega⟩
    have Ly : ((y.map PyData.str).length : Int) = (y.length : Int) := by rw [List.length_map]
    have Ls : ((s2.map PyData.str).length : Int) = (s2.length : Int) := by rw [List.length_map]
    -- due
    have g6 := takeS_good (n := 12 - ((y.map PyData.str).length : Int) - ((s2.map PyData.str).length : Int)) gb5 (by omega)
    have t8 := takeV_nonneg (s := b5) (n := 12 - ((y.map PyData.str).length : Int) - ((s2.map PyData.str).length : Int)) (by omega)
    have t9 := takeV_lt (s := b5) (n := 12 - ((y.map PyData.str).length : Int) - ((s2.map PyData.str).length : Int)) (by omega)
    obtain ⟨D, eD⟩ : ∃ D : Nat, (1 : Int) + takeV b5 (12 - ((y.map PyData.str).length : Int) - ((s2.map PyData.str).length : Int)) = (D : Int) := ⟨(1 + takeV b5 (12 - ((y.map PyData.str).length : Int) - ((s2.map PyData.str).length : Int))).toNat, by omega⟩
    have hD1 : 1 ≤ D := by omega
    have hD2 : D + y.length + s2.length ≤ 12 := by omega
    refine sss_set 6 scLaw.nd (se_call FR hr (a2 (se_var 4) (e_add se_int (e_take FT hr (a2 (se_var 1) (e_sub (e_sub se_int (e_len B (a1 (se_var 4)))) (e_len B (a1 (se_var 8))))) gb5))) ⟨[nameD y, .int D], nameD (ray y D), by rw [eD]; rfl, ⟨y, D, rfl, by omega, by omega, hD1, by omega, rfl⟩, rfl, rfl⟩) ?_
    generalize takeS b5 (12 - ((y.map PyData.str).length : Int) - ((s2.map PyData.str).length : Int)) = b6 at g6 ⊢
    have lD : (ray y D).length = D := ray_len (by omega) D
    have nD : Nm (ray y D) 11 := ⟨fun x hx => by
      unfold ray at hx
      obtain ⟨i, _, h2⟩ := List.mem_filterMap.mp hx
      exact ny.lab x (List.mem_of_getElem? h2), by omega⟩
    have LD : (((ray y D).map PyData.str).length : Int) = (D : Int) := by rw [List.length_map, lD]
    -- at
    have g7 := takeS_good (n := (((ray y D).map PyData.str).length : Int)) g6 (by omega)
    have t10 := takeV_nonneg (s := b6) (n := (((ray y D).map PyData.str).length : Int)) (by omega)
    have t11 := takeV_lt (s := b6) (n := (((ray y D).map PyData.str).length : Int)) (by omega)
    refine sss_set 9 scLaw.nd (e_take FT hr (a2 (se_var 1) (e_len B (a1 (se_var 6)))) g6) ?_
    obtain ⟨T, eT⟩ : ∃ T : Nat, takeV b6 (((ray y D).map PyData.str).length : Int) = (T : Int) := ⟨(takeV b6 (((ray y D).map PyData.str).length : Int)).toNat, by omega⟩
    have hT : T < D := by omega
    rw [eT]
    generalize takeS b6 (((ray y D).map PyData.str).length : Int) = b7 at g7 ⊢
    -- the two names
    obtain ⟨pd, hpm, hpk⟩ := at_draw (ds := ls.map PyData.str) (b := b7) (by simpa using hl0)
    obtain ⟨px, hpx, rfl⟩ := List.mem_map.mp hpm
    have g8 := takeS_good (n := ((ls.map PyData.str).length : Int)) g7 (by rw [List.length_map]; have := List.length_pos_iff.mpr hl0; omega)
    have c1 : cutD ((ray y D).map PyData.str) none (some (T : Int)) = ((ray y D).take T).map PyData.str := by rw [cut_to (by omega), Int.toNat_natCast]
    have c2 : cutD ((ray y D).map PyData.str) (some ((T : Int) + 1)) none = ((ray y D).drop (T + 1)).map PyData.str := by rw [cut_from (by omega), show ((T : Int) + 1).toNat = T + 1 by omega]
    have l1 : ((ray y D).take T).length = T := by rw [List.length_take]; omega
    have l2 : ((ray y D).drop (T + 1)).length = D - (T + 1) := by rw [List.length_drop]; omega
    have hsum : cutD ((ray y D).map PyData.str) none (some (T : Int)) ++ [PyData.str px] ++ cutD ((ray y D).map PyData.str) (some ((T : Int) + 1)) none = ((ray y D).take T ++ [px] ++ (ray y D).drop (T + 1)).map PyData.str := by
      rw [c1, c2, List.map_append, List.map_append]
      rfl
    refine sss_for (ds := [nameD (ray y D), nameD ((ray y D).take T ++ [px] ++ (ray y D).drop (T + 1))]) (S := fun _ => True) (fun k env μ => ∃ x10, μ = bagC (takeS b7 ((ls.map PyData.str).length : Int)) :: m ∧ env = [none, some (.cell 0), some (.dat (.list (ls.map PyData.str))), some (.dat d), some (.dat (nameD y)), some (.dat (.int (M : Int))), some (.dat (nameD (ray y D))), x7, some (.dat (nameD s2)), some (.dat (.int (T : Int))), x10]) PassesOwn.never rfl
      (μ1 := bagC (takeS b7 ((ls.map PyData.str).length : Int)) :: m) ?_ (sg_name 10 scLaw.nd) ⟨_, rfl, rfl⟩ (fun _ _ _ _ => trivial) ?_ ?_
    · refine si_tup ?_
      show SE _ _ _ _ (.dat (.tuple [nameD (ray y D), .tuple (((ray y D).take T ++ [px] ++ (ray y D).drop (T + 1)).map PyData.str)])) _
      rw [← hsum]
      refine e_t (a2 (se_var 6) (e_add (e_add (e_sl (se_var 6) so_none (so_some (se_var 9))) (e_t (a1 (se_call FP hr (a2 (se_var 1) (se_var 2)) ⟨b7, m, ls.map PyData.str, .str px, rfl, rfl, g7, by simpa using hl0, by rw [List.length_map]; omega, hpk, rfl, rfl⟩))) (hk := ?_)) (e_sl (se_var 6) (so_some (e_add (se_var 9) se_int)) so_none) (hk := ?_)))
      · show (cutD ((ray y D).map PyData.str) none (some (T : Int))).length + 1 ≤ sizeLine
        rw [c1, List.length_map, l1, sizeLine_eq]
        omega
      · show (cutD ((ray y D).map PyData.str) none (some (T : Int)) ++ [PyData.str px]).length + (cutD ((ray y D).map PyData.str) (some ((T : Int) + 1)) none).length ≤ sizeLine
        rw [c1, c2, List.length_append, List.length_map, List.length_map, l1, l2, sizeLine_eq]
        show T + 1 + (D - (T + 1)) ≤ _
        omega
    · rintro k2 d2 env μ hd2 ⟨x10', rfl, rfl⟩
      obtain ⟨u, rfl, hu1, hu2⟩ : ∃ u, d2 = nameD u ∧ u.length = D ∧ ∀ x ∈ u, Lab x := by
        have hm2 := List.mem_of_getElem? hd2
        simp only [List.mem_cons, List.not_mem_nil, or_false] at hm2
        rcases hm2 with rfl | rfl
        · exact ⟨_, rfl, lD, nD.lab⟩
        · refine ⟨_, rfl, by rw [List.length_append, List.length_append, l1, l2]; show T + 1 + (D - (T + 1)) = D; omega, fun x hx => ?_⟩
          rcases List.mem_append.mp hx with z | z
          · rcases List.mem_append.mp z with z | z
            · exact nD.lab x (List.mem_of_mem_take z)
            · rw [List.mem_singleton.mp z]; exact hlab px hpx
          · exact nD.lab x (List.mem_of_mem_drop z)
      refine ⟨_, rfl, ?_⟩
      have nu : Nm u 11 := ⟨hu2, by omega⟩
      have hb : isBeneath (u ++ y ++ s2) (u ++ s2) = PyData.eqv (nameD u) (nameD (ray y D)) := by
        rw [beneath_ray (by omega), eqv_name, hu1]
      have hcat : u.map PyData.str ++ y.map PyData.str ++ s2.map PyData.str = (u ++ y ++ s2).map PyData.str := by rw [List.map_append, List.map_append]
      refine sss_if (st_not (st_val (se_callG FA gA hr (a2 (se_call FB hr (a2 (e_add (e_add (se_var 10) (se_var 4) (hk := ?_)) (se_var 8) (hk := ?_)) (e_add (se_var 10) (se_var 8) (hk := ?_))) ⟨[nameD (u ++ y ++ s2), nameD (u ++ s2)], .bool (isBeneath (u ++ y ++ s2) (u ++ s2)), ?_, ⟨u ++ y ++ s2, u ++ s2, 16, rfl, (nu.append ny).append ns, (nu.append ns).mono (by decide), rfl⟩, rfl, rfl⟩) (e_eq hr (se_var 10) (se_var 6) (hk := eq_of nu.okD nD.okD))) ⟨_, _, .bool (isBeneath (u ++ y ++ s2) (u ++ s2)), _, _, rfl, rfl, by rw [hb]; rfl, Ok.bool _, by decide, by decide, rfl, rfl⟩))) (fun h => nomatch h) (fun _ => sss_nil (sss_nil ⟨_, rfl, rfl⟩))
      · show (u.map PyData.str).length + (y.map PyData.str).length ≤ sizeLine
        rw [List.length_map, sizeLine_eq]
        omega
      · show (u.map PyData.str ++ y.map PyData.str).length + (s2.map PyData.str).length ≤ sizeLine
        rw [List.length_append, List.length_map, sizeLine_eq]
        omega
      · show (u.map PyData.str).length + (s2.map PyData.str).length ≤ sizeLine
        rw [List.length_map, sizeLine_eq]
        omega
      · rw [hcat, ← List.map_append]
        rfl
    · rintro env μ ⟨x10', rfl, rfl⟩
      exact sss_nil ⟨_, m, _, _, _, _, _, _, _, _, g8, rfl, rfl⟩
  · rintro env μ ⟨b, m, x3, x4, x5, x6, x7, x8, x9, x10, gb, rfl, rfl⟩
    exact sss_ret se_bool ⟨_, rfl⟩
end
end Lw

namespace Lw
open PySem PySem.Spec PyProof.Rows L2 Sy
/-! ### what the top has written; the law's own head -/
theorem all_mk {l : PySem.W.OpenLaw} {w : World} {K : PySem.W.Frag} {h : Heap} {mg : Str → Option Value} {fa f0 f1 f2 f3 f4 f5 f6 f7 f8 f9 f10 f11 : Addr} (X : K.In h) (G : h.Ns mainGlobals mg) (hfa : mg "law" = some (.ref fa))
    {od0 an0 : Option Addr} {sl0 : Array (Option Value)} {oc0 kV0 dc0 pm0 cd0 ct0 : Value} (a0 : PySem.W.nsIn K mainGlobals "is_under" = some (some (.ref f0)))
      (l0 : K.lookup f0 = some ⟨oc0, od0, .func (PySem.W.fnOf "is_under" "is_under" (defArgs sUnder) (defBody sUnder) (defScope sUnder) .none kV0 dc0 pm0 an0 cd0 ct0), sl0⟩)
      (c0 : PySem.W.codeIn K cd0 "is_under" = true) (k0 : PySem.W.keepIn K (.ref f0) = true)
    {od1 an1 : Option Addr} {sl1 : Array (Option Value)} {oc1 kV1 dc1 pm1 cd1 ct1 : Value} (a1 : PySem.W.nsIn K mainGlobals "is_beneath" = some (some (.ref f1)))
      (l1 : K.lookup f1 = some ⟨oc1, od1, .func (PySem.W.fnOf "is_beneath" "is_beneath" (defArgs sBeneath) (defBody sBeneath) (defScope sBeneath) .none kV1 dc1 pm1 an1 cd1 ct1), sl1⟩)
      (c1 : PySem.W.codeIn K cd1 "is_beneath" = true) (k1 : PySem.W.keepIn K (.ref f1) = true)
    {od2 an2 : Option Addr} {sl2 : Array (Option Value)} {oc2 kV2 dc2 pm2 cd2 ct2 : Value} (a2 : PySem.W.nsIn K mainGlobals "ray_end" = some (some (.ref f2)))
      (l2 : K.lookup f2 = some ⟨oc2, od2, .func (PySem.W.fnOf "ray_end" "ray_end" (defArgs sPRayEnd) (defBody sPRayEnd) (defScope sPRayEnd) .none kV2 dc2 pm2 an2 cd2 ct2), sl2⟩)
      (c2 : PySem.W.codeIn K cd2 "ray_end" = true) (k2 : PySem.W.keepIn K (.ref f2) = true)
    {od3 an3 : Option Addr} {sl3 : Array (Option Value)} {oc3 kV3 dc3 pm3 cd3 ct3 : Value} (a3 : PySem.W.nsIn K mainGlobals "root" = some (some (.ref f3)))
      (l3 : K.lookup f3 = some ⟨oc3, od3, .func (PySem.W.fnOf "root" "root" (defArgs sPRoot) (defBody sPRoot) (defScope sPRoot) .none kV3 dc3 pm3 an3 cd3 ct3), sl3⟩)
      (c3 : PySem.W.codeIn K cd3 "root" = true) (k3 : PySem.W.keepIn K (.ref f3) = true)
    {od4 an4 : Option Addr} {sl4 : Array (Option Value)} {oc4 kV4 dc4 pm4 cd4 ct4 : Value} (a4 : PySem.W.nsIn K mainGlobals "_law_bag" = some (some (.ref f4)))
      (l4 : K.lookup f4 = some ⟨oc4, od4, .func (PySem.W.fnOf "_law_bag" "_law_bag" (defArgs sBag) (defBody sBag) (defScope sBag) .none kV4 dc4 pm4 an4 cd4 ct4), sl4⟩)
      (c4 : PySem.W.codeIn K cd4 "_law_bag" = true) (k4 : PySem.W.keepIn K (.ref f4) = true)
    {od5 an5 : Option Addr} {sl5 : Array (Option Value)} {oc5 kV5 dc5 pm5 cd5 ct5 : Value} (a5 : PySem.W.nsIn K mainGlobals "_law_take" = some (some (.ref f5)))
      (l5 : K.lookup f5 = some ⟨oc5, od5, .func (PySem.W.fnOf "_law_take" "_law_take" (defArgs sTake) (defBody sTake) (defScope sTake) .none kV5 dc5 pm5 an5 cd5 ct5), sl5⟩)
      (c5 : PySem.W.codeIn K cd5 "_law_take" = true) (k5 : PySem.W.keepIn K (.ref f5) = true)
    {od6 an6 : Option Addr} {sl6 : Array (Option Value)} {oc6 kV6 dc6 pm6 cd6 ct6 : Value} (a6 : PySem.W.nsIn K mainGlobals "_law_alike" = some (some (.ref f6)))
      (l6 : K.lookup f6 = some ⟨oc6, od6, .func (PySem.W.fnOf "_law_alike" "_law_alike" (defArgs sAlike) (defBody sAlike) (defScope sAlike) .none kV6 dc6 pm6 an6 cd6 ct6), sl6⟩)
      (c6 : PySem.W.codeIn K cd6 "_law_alike" = true) (k6 : PySem.W.keepIn K (.ref f6) = true)
    {od7 an7 : Option Addr} {sl7 : Array (Option Value)} {oc7 kV7 dc7 pm7 cd7 ct7 : Value} (a7 : PySem.W.nsIn K mainGlobals "_law_pick" = some (some (.ref f7)))
      (l7 : K.lookup f7 = some ⟨oc7, od7, .func (PySem.W.fnOf "_law_pick" "_law_pick" (defArgs sPick) (defBody sPick) (defScope sPick) .none kV7 dc7 pm7 an7 cd7 ct7), sl7⟩)
      (c7 : PySem.W.codeIn K cd7 "_law_pick" = true) (k7 : PySem.W.keepIn K (.ref f7) = true)
    {od8 an8 : Option Addr} {sl8 : Array (Option Value)} {oc8 kV8 dc8 pm8 cd8 ct8 : Value} (a8 : PySem.W.nsIn K mainGlobals "_law_labels" = some (some (.ref f8)))
      (l8 : K.lookup f8 = some ⟨oc8, od8, .func (PySem.W.fnOf "_law_labels" "_law_labels" (defArgs sLabels) (defBody sLabels) (defScope sLabels) .none kV8 dc8 pm8 an8 cd8 ct8), sl8⟩)
      (c8 : PySem.W.codeIn K cd8 "_law_labels" = true) (k8 : PySem.W.keepIn K (.ref f8) = true)
    {od9 an9 : Option Addr} {sl9 : Array (Option Value)} {oc9 kV9 dc9 pm9 cd9 ct9 : Value} (a9 : PySem.W.nsIn K mainGlobals "_law_word" = some (some (.ref f9)))
      (l9 : K.lookup f9 = some ⟨oc9, od9, .func (PySem.W.fnOf "_law_word" "_law_word" (defArgs sWord) (defBody sWord) (defScope sWord) .none kV9 dc9 pm9 an9 cd9 ct9), sl9⟩)
      (c9 : PySem.W.codeIn K cd9 "_law_word" = true) (k9 : PySem.W.keepIn K (.ref f9) = true)
    {od10 an10 : Option Addr} {sl10 : Array (Option Value)} {oc10 kV10 dc10 pm10 cd10 ct10 : Value} (a10 : PySem.W.nsIn K mainGlobals "_law_root" = some (some (.ref f10)))
      (l10 : K.lookup f10 = some ⟨oc10, od10, .func (PySem.W.fnOf "_law_root" "_law_root" (defArgs sLRoot) (defBody sLRoot) (defScope sLRoot) .none kV10 dc10 pm10 an10 cd10 ct10), sl10⟩)
      (c10 : PySem.W.codeIn K cd10 "_law_root" = true) (k10 : PySem.W.keepIn K (.ref f10) = true)
    {od11 an11 : Option Addr} {sl11 : Array (Option Value)} {oc11 kV11 dc11 pm11 cd11 ct11 : Value} (a11 : PySem.W.nsIn K mainGlobals "law" = some (some (.ref f11)))
      (l11 : K.lookup f11 = some ⟨oc11, od11, .func (PySem.W.fnOf "law" "law" (defArgs sLaw) (defBody sLaw) (defScope sLaw) .none kV11 dc11 pm11 an11 cd11 ct11), sl11⟩)
      (c11 : PySem.W.codeIn K cd11 "law" = true) (k11 : PySem.W.keepIn K (.ref f11) = true)
    (z_len : PySem.W.nsIn K mainGlobals "len" = some none) (z_int : PySem.W.nsIn K mainGlobals "int" = some none) (z_abs : PySem.W.nsIn K mainGlobals "abs" = some none) (z_tuple : PySem.W.nsIn K mainGlobals "tuple" = some none) (z_list : PySem.W.nsIn K mainGlobals "list" = some none) (z_repr : PySem.W.nsIn K mainGlobals "repr" = some none) (z_range : PySem.W.nsIn K mainGlobals "range" = some none)  :
    ∃ fd : FuncData, (∀ (s : Shared) (v : Value), BindsTo s fd ⟨[v], []⟩ [("_law_script", v)]) ∧ ∀ base : Heap, K.In base → base.Ns mainGlobals mg → Gd.FnG l.prog w K mg base CX0 5 fa fd ["_law_script"] (spLaw K) := by
  have e := hfa.symm.trans (PySem.W.mg_of X G a11)
  cases e
  have F0 := fun_mk (st := sUnder) l0 c0 k0
  have b0 := F0.binds (ps := ["name", "top"]) fun _ _ _ _ _ _ us hl => match us, hl with | [_, _], _ => rfl
  have F1 := fun_mk (st := sBeneath) l1 c1 k1
  have b1 := F1.binds (ps := ["name", "top"]) fun _ _ _ _ _ _ us hl => match us, hl with | [_, _], _ => rfl
  have F2 := fun_mk (st := sPRayEnd) l2 c2 k2
  have b2 := F2.binds (ps := ["name", "many"]) fun _ _ _ _ _ _ us hl => match us, hl with | [_, _], _ => rfl
  have F3 := fun_mk (st := sPRoot) l3 c3 k3
  have b3 := F3.binds (ps := ["name"]) fun _ _ _ _ _ _ us hl => match us, hl with | [_], _ => rfl
  have F4 := fun_mk (st := sBag) l4 c4 k4
  have b4 := F4.binds (ps := ["_law_script"]) fun _ _ _ _ _ _ us hl => match us, hl with | [_], _ => rfl
  have F5 := fun_mk (st := sTake) l5 c5 k5
  have b5 := F5.binds (ps := ["_law_bag_here", "_law_many"]) fun _ _ _ _ _ _ us hl => match us, hl with | [_, _], _ => rfl
  have F6 := fun_mk (st := sAlike) l6 c6 k6
  have b6 := F6.binds (ps := ["_law_found", "_law_right"]) fun _ _ _ _ _ _ us hl => match us, hl with | [_, _], _ => rfl
  have F7 := fun_mk (st := sPick) l7 c7 k7
  have b7 := F7.binds (ps := ["_law_bag_here", "_law_some"]) fun _ _ _ _ _ _ us hl => match us, hl with | [_, _], _ => rfl
  have F8 := fun_mk (st := sLabels) l8 c8 k8
  have b8 := F8.binds (ps := ["_law_bag_here", "_law_many"]) fun _ _ _ _ _ _ us hl => match us, hl with | [_, _], _ => rfl
  have F9 := fun_mk (st := sWord) l9 c9 k9
  have b9 := F9.binds (ps := ["_law_bag_here", "_law_labels_here", "_law_least", "_law_most"]) fun _ _ _ _ _ _ us hl => match us, hl with | [_, _, _, _], _ => rfl
  have F10 := fun_mk (st := sLRoot) l10 c10 k10
  have b10 := F10.binds (ps := ["_law_name"]) fun _ _ _ _ _ _ us hl => match us, hl with | [_], _ => rfl
  have F11 := fun_mk (st := sLaw) l11 c11 k11
  have B : Bi mg := ⟨PySem.W.mg_none_of X G z_len, PySem.W.mg_none_of X G z_int, PySem.W.mg_none_of X G z_abs, PySem.W.mg_none_of X G z_tuple, PySem.W.mg_none_of X G z_list, PySem.W.mg_none_of X G z_repr, PySem.W.mg_none_of X G z_range⟩
  refine ⟨PySem.W.fnOf "law" "law" (defArgs sLaw) (defBody sLaw) (defScope sLaw) .none kV11 dc11 pm11 an11 cd11 ct11, fun s v => .of_eq rfl, fun base _ _ => ?_⟩
  have S_is_under : FnS l.prog w K mg base 1 "is_under" (CP (relUnder isUnder)) := ⟨_, _, _, ok_under F0 B, PySem.W.mg_of X G a0, k0, b0⟩
  have S_is_beneath : FnS l.prog w K mg base 2 "is_beneath" (CP (relUnder isBeneath)) := ⟨_, _, _, ok_beneath F1 B S_is_under (by decide), PySem.W.mg_of X G a1, k1, b1⟩
  have S_ray_end : FnS l.prog w K mg base 1 "ray_end" (CP relRay) := ⟨_, _, _, ok_ray F2 B, PySem.W.mg_of X G a2, k2, b2⟩
  have S_root : FnS l.prog w K mg base 1 "root" (CP relRoot) := ⟨_, _, _, ok_root F3 B, PySem.W.mg_of X G a3, k3, b3⟩
  have S__law_take : FnS l.prog w K mg base 1 "_law_take" CTake := ⟨_, _, _, ok_take F5 B, PySem.W.mg_of X G a5, k5, b5⟩
  have S__law_alike : FnSG l.prog w K mg base 1 "_law_alike" CAlike := ⟨_, _, _, ok_alike F6 B, PySem.W.mg_of X G a6, k6, b6⟩
  have S__law_pick : FnN l.prog w K mg base 2 "_law_pick" (BPre APick) (BPost RPick) := ⟨_, _, _, ok_pick F7 B S__law_take (by decide), PySem.W.mg_of X G a7, k7, b7⟩
  have S__law_pickD : FnS l.prog w K mg base 2 "_law_pick" CPick := ⟨_, _, _, ok_pickD F7 B S__law_take (by decide), PySem.W.mg_of X G a7, k7, b7⟩
  have S__law_labels : FnN l.prog w K mg base 2 "_law_labels" (BPre ALabels) (BPost RLabels) := ⟨_, _, _, ok_labels F8 B S__law_take (by decide), PySem.W.mg_of X G a8, k8, b8⟩
  have S__law_word : FnN l.prog w K mg base 3 "_law_word" (BPre AWord) (BPost RWord) := ⟨_, _, _, ok_word F9 B S__law_take (by decide) S__law_pick (by decide), PySem.W.mg_of X G a9, k9, b9⟩
  have S__law_root : FnS l.prog w K mg base 1 "_law_root" (CP relRoot) := ⟨_, _, _, ok_lroot F10 B, PySem.W.mg_of X G a10, k10, b10⟩
  exact ok_law F11 B (ok_bag F4 B) (PySem.W.mg_of X G a4) k4 b4 S__law_take S__law_labels S__law_word S__law_pickD S_ray_end S_root S__law_root S_is_beneath S__law_alike
end Lw
open PySem PySem.W PyProof.Rows
set_option maxRecDepth 100000 in
set_option maxHeartbeats 0 in
theorem PySem.Challenge.cw_listnames_k14_whole_rays_and_roots_holds : PySem.Challenge.rw_listnames_k14_whole_rays_and_roots.Holds := by
  w_on; o_law; k_head; (case hw => w_witness2)
  k_fill
  refine Gd.walk_ofG (l := PySem.Challenge.rw_listnames_k14_whole_rays_and_roots) (n := 63) (k := 5) (x := "_law_script") (CX := fun _ => L2.CX0) (sp := fun w => Lw.spLaw _) rfl (by decide) rfl ⟨rfl, by decide, by decide⟩ (fun w h Y => PySem.W.kIn_of Y) ?F (fun _ _ a ns hl _ hS => ⟨a, ns, rfl, hS, hl, fun _ => rfl⟩) (fun _ _ _ _ _ h => h)
  case F =>
    intro w mg fa h KX G hmg
    refine' Lw.all_mk KX G hmg ?a0 ?l0 ?c0 ?k0 ?a1 ?l1 ?c1 ?k1 ?a2 ?l2 ?c2 ?k2 ?a3 ?l3 ?c3 ?k3 ?a4 ?l4 ?c4 ?k4 ?a5 ?l5 ?c5 ?k5 ?a6 ?l6 ?c6 ?k6 ?a7 ?l7 ?c7 ?k7 ?a8 ?l8 ?c8 ?k8 ?a9 ?l9 ?c9 ?k9 ?a10 ?l10 ?c10 ?k10 ?a11 ?l11 ?c11 ?k11 ?z_len ?z_int ?z_abs ?z_tuple ?z_list ?z_repr ?z_range
    (case a0 => k_is)
    (case l0 => k_is)
    (case c0 => k_is)
    (case k0 => k_is)
    (case a1 => k_is)
    (case l1 => k_is)
    (case c1 => k_is)
    (case k1 => k_is)
    (case a2 => k_is)
    (case l2 => k_is)
    (case c2 => k_is)
    (case k2 => k_is)
    (case a3 => k_is)
    (case l3 => k_is)
    (case c3 => k_is)
    (case k3 => k_is)
    (case a4 => k_is)
    (case l4 => k_is)
    (case c4 => k_is)
    (case k4 => k_is)
    (case a5 => k_is)
    (case l5 => k_is)
    (case c5 => k_is)
    (case k5 => k_is)
    (case a6 => k_is)
    (case l6 => k_is)
    (case c6 => k_is)
    (case k6 => k_is)
    (case a7 => k_is)
    (case l7 => k_is)
    (case c7 => k_is)
    (case k7 => k_is)
    (case a8 => k_is)
    (case l8 => k_is)
    (case c8 => k_is)
    (case k8 => k_is)
    (case a9 => k_is)
    (case l9 => k_is)
    (case c9 => k_is)
    (case k9 => k_is)
    (case a10 => k_is)
    (case l10 => k_is)
    (case c10 => k_is)
    (case k10 => k_is)
    (case a11 => k_is)
    (case l11 => k_is)
    (case c11 => k_is)
    (case k11 => k_is)
    (case z_len => k_is)
    (case z_int => k_is)
    (case z_abs => k_is)
    (case z_tuple => k_is)
    (case z_list => k_is)
    (case z_repr => k_is)
    (case z_range => k_is)
