import PyProof.Rows.All
import Wide.All
import OpenK.AllK
import Wide.FinOn
import HandS.ForMost
import HandS.Ends
import HandS.TupAny
import HandS.TupMul
import HandS.Deep
import HandS.Flow
import HandS.IsInst
import HandS.Conv
import HandS.Walk
import HandS.More
import HandS.Text
import HandS.Dict
import HandS.DictComp
import HandS.Iter
import PySem.Challenge.RW_listnames_k11_kinds_of_any_value
set_option Elab.async false
set_option linter.all false
set_option maxRecDepth 100000
/-! GL: contracts of defs that are called where no repr is under way (guards = some []): FnG, its calls, repr, the law's end. -/
namespace Gd
open PySem PySem.Spec PyProof.Rows L2

/-- a def's promise, wherever no guard stands around -/
structure FnG (P : Program) (w : World) (K : PySem.W.Frag) (mg : Str → Option Value) (base : Heap) (CX : CXT)
    (k : Nat) (f : Addr) (fd : FuncData) (ps : List Str) (sp : Sp) : Prop where
  lenG : ∀ vs H Q E, sp vs H Q E → vs.length = ps.length
  runG : ∀ (A : Around) (outer : List Env) (s : Shared) (H : Hp) (args : Args) (us : List Value) (vs : List V) (Q : VK) (E : XK),
    A.guards = some [] → Room k A → Env0 P w K mg base A outer s H → BindsTo s fd args (ps.zip us) → Vals vs us → sp vs H Q E →
    codeAny (model P w) A (.call (.ref f) args) (CR CX outer P w H s Q E) s

section
variable {w : World} {P : Program} {base : Heap} {mg : Str → Option Value} {K : PySem.W.Frag} {CX : CXT} {k : Nat} {f : Addr}
  {fd : FuncData} {ps : List Str} {sp : Sp}
theorem FnG.of (F : FnOk P w K mg base CX k f fd ps sp) : FnG P w K mg base CX k f fd ps sp :=
  ⟨F.len, fun A o s H a us vs Q E _ => F.run A o s H a us vs Q E⟩
theorem FnG.mono {j : Nat} (F : FnG P w K mg base CX j f fd ps sp) (h : j ≤ k) : FnG P w K mg base CX k f fd ps sp :=
  ⟨F.lenG, fun A o s H a us vs Q E g hr => F.runG A o s H a us vs Q E g (hr.mono h)⟩

/-- from a def's body to its promise -/
theorem fn_ofG {name qual : Str} {params : Arguments} {body : List Stmt} {scope : Scope} {dV kV doc pm cdv ct oc : Value}
    {an od : Option Addr} {osl : Array (Option Value)} {N : List Str}
    (lk : K.lookup f = some ⟨oc, od, .func (PySem.W.fnOf name qual params body scope dV kV doc pm an cdv ct), osl⟩)
    (hcd : PySem.W.codeIn K cdv qual = true) (S : FnScope N ps scope) (ln : ∀ vs H Q E, sp vs H Q E → vs.length = ps.length)
    (hb0 : ∀ (A : Around) (outer : List Env) (s : Shared) (H : Hp) (vs : List V) (Q : VK) (E : XK), A.guards = some [] →
      Room k (A.deeper (envOfC qual scope s.heap.objs.size f cdv)) → sp vs H Q E →
      ∃ t, PSs (cxOf CX P w K mg base N qual scope f cdv A outer s H E) body t ∧
        t { nx := fun _ H' => Q .non H', rt := Q } (start N vs) H) :
    FnG P w K mg base CX (k + 1) f (PySem.W.fnOf name qual params body scope dV kV doc pm an cdv ct) ps sp := by
  refine ⟨ln, fun A outer s H args us vs Q E gA room e0 bind rel hsp => ?_⟩
  have hlen := ln _ _ _ _ hsp
  have kin : K.In s.heap := e0.mod.kin.keeps fun b o e => (e0.bs b o e).1
  have nolim : s.heap.NoLimit := e0.mod.nolimit.keeps fun b o e => (e0.bs b o e).1
  have kinds : ∀ y ∈ ps.zip us, scope.names.lookup y.1 = some .local ∨
      (scope.names.lookup y.1 = some .cell ∧ ((cellsFrom (s.heap.objs.size + 1) scope.names []).lookup y.1).isSome = true) := by
    rintro ⟨n, v⟩ hy
    rcases S.par n (List.of_mem_zip hy).1 with q | q
    · left; exact q
    · right; exact ⟨q, PySem.W.cellsFrom_some _ _ _ (.inl q)⟩
  refine codeAny_call_function room.depth (kin _ _ lk) rfl S.co S.gen rfl (PySem.W.codeRec_of kin hcd) (bind _ _ _ _ ?_)
  refine wpAny_newFunctionEnv_cells S.kind kinds fun env he s1 x1 => ?_
  subst he
  refine ⟨nolim.keeps x1.toInCall.keep, codeAny_func ?_⟩
  obtain ⟨t, ht, hq⟩ := hb0 A outer s H vs Q E gA (room.deeper _) hsp
  have I : Inv (cxOf CX P w K mg base N qual scope f cdv A outer s H E) [] (start N vs) H s1 :=
    inv_start S room.hd e0 hlen rel x1
  refine wpAny_mono (ht.run [] s1 (start N vs) H _ I hq) (fun fl s' hs => ?_) fun e s' hs => hs
  have done : ∀ {σ' : L2.St} {H' : Hp} {v : V} {u : Value},
      Inv (cxOf CX P w K mg base N qual scope f cdv A outer s H E) [] σ' H' s' → RelV v u → Q v H' → CE outer P w H s Q u s' :=
    fun {σ' H' v u} J rv q => ⟨v, H', J.os, J.bare, J.base, J.hok, rv, q⟩
  cases fl with
  | ret u => exact let ⟨v, σ', H', J, rv, q⟩ := hs; done J rv q
  | next => exact let ⟨σ', H', J, q⟩ := hs; done (v := V.non) (u := Value.none) J rfl q
  | brk => exact let ⟨_, _, _, q⟩ := hs; False.elim q
  | cont => exact let ⟨_, _, _, q⟩ := hs; False.elim q
end

section
variable {w : World} {P : Program} {base : Heap} {mg : Str → Option Value} {K : PySem.W.Frag}
/-- a def that lets no exception out -/
theorem okG {x qual : Str} {st : Stmt} {f : Addr} {fd : FuncData} {N ps : List Str} {k : Nat} {sp : Sp} (F : Fun K x qual st f fd)
    (S : FnScope N ps (defScope st)) (ln : ∀ vs H Q E, sp vs H Q E → vs.length = ps.length)
    (hb0 : ∀ (cdv : Value) (A : Around) (outer : List Env) (s : Shared) (H : Hp) (vs : List V) (Q : VK) (E : XK), A.guards = some [] →
      Room k (A.deeper (envOfC qual (defScope st) s.heap.objs.size f cdv)) → sp vs H Q E →
      ∃ t, PSs (cxOf CX0 P w K mg base N qual (defScope st) f cdv A outer s H E).nox (defBody st) t ∧
        t { nx := fun _ H' => Q .non H', rt := Q } (start N vs) H) : FnG P w K mg base CX0 (k + 1) f fd ps sp := by
  obtain ⟨oc, od, kV, doc, pm, an, cdv, ct, osl, rfl, lk, hcd⟩ := F.ex
  refine fn_ofG lk hcd S ln fun A outer s H vs Q E gA hr hsp => ?_
  obtain ⟨t, h, q⟩ := hb0 cdv A outer s H vs Q E gA hr hsp
  exact ⟨t, h.nox, q⟩
end

section
variable {X : Cx} {CX : CXT} {k : Nat} {f : Addr} {fd : FuncData} {ps : List Str} {sp : Sp} {dvs : List V} {ds : List Value} {E : XK}
  {x : Str} {p pos : Pos} {e : Expr} {es : List Expr} {t : TA}
theorem run_fnG {pins : List (Addr × Obj)} {σ : L2.St} {H : Hp} {s : Shared} {Q : VK} {us : List Value} {vs : List V}
    (F : FnG X.prog X.w X.K X.mg X.base CX k f fd ps sp) (gX : X.A.guards = some []) (hr : Room k X.A) (hb : Binds X.K fd ps ds)
    (hd : Vals dvs ds) (hx : Passes CX X E) (I : Inv X pins σ H s) (r : Vals vs us) (h : sp (vs ++ dvs) H Q E) :
    wpAny (model X.prog X.w) X.A (call (.ref f) us) (EP X pins σ Q) X.xe s := by
  have rr : Vals (vs ++ dvs) (us ++ ds) := r.append hd
  have len : (us ++ ds).length = ps.length := rr.length ▸ F.lenG _ _ _ _ h
  have run := F.runG X.A X.stack s H ⟨us, []⟩ (us ++ ds) (vs ++ dvs) Q E gX hr I.env0 (hb s us I.kIn len) rr h
  refine wpAny_call (codeAny_mono run fun res s' hq => ?_)
  match res, hq with
  | .error e, hq => exact hx pins σ H s e s' I hq
  | .ok (.ret u), hq => exact I.after hq
  | .ok .next, hq => exact False.elim hq
  | .ok .brk, hq => exact False.elim hq
  | .ok .cont, hq => exact False.elim hq
theorem pe_callG (F : FnG X.prog X.w X.K X.mg X.base CX k f fd ps sp) (gX : X.A.guards = some []) (hr : Room k X.A) (hg : Gl X x)
    (hm : X.mg x = some (.ref f)) (hk : PySem.W.keepIn X.K (.ref f) = true) (hb : Binds X.K fd ps ds) (hd : Vals dvs ds) (hx : Passes CX X E)
    (ha : PA X (e :: es) t) (hdb : (x == ("__debug__" : Str)) = false := by decide)
    (he : starEach (e :: es) X.env = (false, eval e X.env) :: starEach es X.env := by rfl)
    (hpl : (backTo pos (starEach es X.env)).any (·.1) = false := by rfl) :
    PE X (.Call (.Name x p) (e :: es) [] pos) (tCall sp dvs E t) := by
  refine ⟨fun pins s σ H Q I h => wpAny_Call_Name_kw (ld_glob I hg hm ?_ hdb)⟩
  refine PySem.W.callWith_K (h₀ := X.base) I.ok.mod.kin hk (thn (ha.run pos pins s σ H _ I h) ?_) he hpl
  intro us s1 h1
  obtain ⟨vs, H1, I1, r1, q1⟩ := h1
  exact ⟨I1.kIn, run_fnG F gX hr hb hd hx I1 r1 q1⟩

/-- repr(x), x data -/
def rRepr (K : PySem.W.Frag) : List V → Hp → VK → Prop := fun xs H Q =>
  ∃ x d, xs = [x] ∧ Dp K H x d ∧ d.showable = true ∧ d.hasDict = false ∧ d.depth ≤ 64 ∧ d.shown.length ≤ sizeLine ∧ Q (.str d.shown) H
theorem cr_repr (gX : X.A.guards = some []) (hu : X.A.units + 66 < cLine) : CallR X (.builtin "repr") (rRepr X.K) := by
  intro pins s σ H xs us Q I r h
  obtain ⟨x, d, rfl, hd, hs, hn, hp, hz, q⟩ := h
  obtain ⟨u, rfl, ru⟩ := vals1 r
  cases hd with
  | non => cases ru; exact PySem.P.repr_of_none ⟨.str _, H, I.tok _, ⟨_, rfl⟩, q⟩
  | bl b => cases ru; exact PySem.P.repr_of_bool ⟨.str _, H, I.tok _, ⟨_, rfl⟩, q⟩
  | int i =>
    obtain ⟨t, rfl⟩ := ru
    exact PySem.P.repr_of_int (of_decide_eq_true hs) ⟨.str _, H, I.tok _, ⟨_, rfl⟩, q⟩
  | str x =>
    obtain ⟨t, rfl⟩ := ru
    exact PySem.P.repr_of_str ⟨.str _, H, I.tok _, ⟨_, rfl⟩, q⟩ hz
  | lst a b =>
    obtain ⟨as, rd⟩ := Dp.reads I _ _ _ (Dp.lst a b) ru
    cases ru
    refine repr_of_reads' rd hs (fun e => by rw [hn] at e; cases e) gX (by omega) (fun _ _ e => e) (fun h' u tk kept => ?_) hz
    exact ⟨.str _, H, I.kept (t' := tk) kept, ⟨_, rfl⟩, q⟩
  | tup a b =>
    obtain ⟨as, rd⟩ := Dp.reads I _ _ _ (Dp.tup a b) ru
    cases ru
    refine repr_of_reads' rd hs (fun e => by rw [hn] at e; cases e) gX (by omega) (fun _ _ e => e) (fun h' u tk kept => ?_) hz
    exact ⟨.str _, H, I.kept (t' := tk) kept, ⟨_, rfl⟩, q⟩
end
end Gd

/-! GE: the law's end over FnG. -/
namespace Gd
open PySem PySem.Spec PyProof.Rows L2

section
variable {P : Program} {w : World} {K : PySem.W.Frag} {mg mb : Str → Option Value} {CX : CXT} {k : Nat} {fa a : Addr} {fd : FuncData}
  {x : Str} {sp : Sp} {s1 : Shared} {vs : List Value} {ns : List Int}
/-- the call of the law over an abstract heap that tracks at most the script -/
theorem law_at (H : Hp) (KX : K.In s1.heap) (hns : s1.heap.Ns mainGlobals mg) (hb : s1.heap.Ns builtinsNs mb)
    (hbb : ∀ x : Str, x ≠ "__name__" → mb x = bootBuiltins x) (hlim : s1.heap.NoLimit) (hg : s1.gens = #[])
    (ha : s1.heap.get? a = some { cls := .type "list", data := .seq vs.toArray }) (hr : Room k callerA)
    (F : ∀ base : Heap, K.In base → base.Ns mainGlobals mg → FnG P w K mg base CX k fa fd [x] sp)
    (hbind : ∀ (s : Shared) (u : Value), BindsTo s fd ⟨[u], []⟩ [(x, u)])
    (hCX : ∀ H e s', CX [] H s1 (fun _ _ _ => False) e s' → False)
    (hO : Only H) (hsp : sp [.ref a] H (fun v _ => v = .bl true) fun _ _ _ => False) (hok : HOk P w H s1.heap)
    (only : ∀ b, H b ≠ none → b = a) (offK : H a ≠ none → K.lookup a = none) :
    codeAny (model P w) callerA (.call (.ref fa) ⟨[.ref a], []⟩)
      (fun r s' => r = .ok (.ret (.bool true)) ∧ OldK s1.heap s'.heap ∧ s'.os = s1.os ∧ AllBare s'.gens) s1 := by
  have dictFree : ∀ (b : Addr) (o : Obj) (es : Array DictEntry) (ep : Nat), s1.heap.get? b = some o → o.data = .dict es ep → H b = none := by
    intro b o es ep e dd
    cases q : H b with
    | none => rfl
    | some u =>
      have eb : b = a := only b (by rw [q]; exact fun z => nomatch z)
      rw [eb, ha] at e
      obtain rfl := Option.some.inj e
      exact nomatch dd
  have ns' : ∀ (b : Addr) (m : Str → Option Value), s1.heap.Ns b m → (hidT s1.heap H).Ns b m := by
    rintro b m ⟨o, es, ep, e, dd, rest⟩
    exact ⟨o, es, ep, hidT_get e (dictFree b o es ep e dd), dd, rest⟩
  have kin' : K.In (hidT s1.heap H) := by
    intro b o e
    refine hidT_get (KX b o e) ?_
    cases q : H b with
    | none => rfl
    | some u =>
      have eb : b = a := only b (by rw [q]; exact fun z => nomatch z)
      subst eb
      rw [offK (by rw [q]; exact fun z => nomatch z)] at e
      exact nomatch e
  have modl : Mod K mg (hidT s1.heap H) := by
    obtain ⟨mc, l1, l2⟩ := hlim
    exact ⟨kin', ns' _ _ hns, ⟨mb, ns' _ _ hb, hbb⟩, ⟨mc, ns' _ _ l1, l2⟩⟩
  have nofr : ∀ b, b ∉ frs ([] : List Env) := fun b z => List.not_mem_nil z
  have env0 : Env0 P w K mg (hidT s1.heap H) callerA [] s1 H :=
    ⟨rfl, modl, fun b o e => of_hidT e, Nat.le_of_eq (hidT_size _ _), trivial, fun b z => absurd z (nofr b), hok, .of_eq hg⟩
  have run := (F _ kin' (ns' _ _ hns)).runG callerA [] s1 H ⟨[.ref a], []⟩ [.ref a] [.ref a] _ _ rfl hr env0 (hbind s1 (.ref a)) (.cons rfl .nil) hsp
  refine codeAny_mono run fun r s' h => ?_
  match r, h with
  | .error e, h => exact (hCX H e s' h).elim
  | .ok .next, h => exact False.elim h
  | .ok .brk, h => exact False.elim h
  | .ok .cont, h => exact False.elim h
  | .ok (.ret u), h =>
    obtain ⟨v, H', os, bare, un, hok', rv, q⟩ := h
    obtain rfl : v = .bl true := q
    obtain rfl : u = Value.bool true := rv
    refine ⟨rfl, OldK.of_keep fun b o e => ?_, os, bare⟩
    rcases hO b with z | ⟨ob, xs, z⟩
    · exact un.keep b o e z (nofr b) (fun m => List.not_mem_nil m)
    · have g1 := (hok b _ z).1
      have g2 := (hok' b _ (un.frzs b ob _ z)).1
      rw [e] at g1
      rw [Option.some.inj g1]
      exact g2
/-- the script as the abstract heap bears it -/
theorem law_callG (KX : K.In s1.heap) (hns : s1.heap.Ns mainGlobals mg) (hb : s1.heap.Ns builtinsNs mb)
    (hbb : ∀ x : Str, x ≠ "__name__" → mb x = bootBuiltins x) (hlim : s1.heap.NoLimit) (hg : s1.gens = #[])
    (ha : s1.heap.get? a = some { cls := .type "list", data := .seq vs.toArray }) (hi : IntsAre vs ns) (hl : ns.length ≤ sizeLine) (hr : Room k callerA)
    (F : ∀ base : Heap, K.In base → base.Ns mainGlobals mg → FnG P w K mg base CX k fa fd [x] sp)
    (hbind : ∀ (s : Shared) (u : Value), BindsTo s fd ⟨[u], []⟩ [(x, u)])
    (hsp : ∀ H : Hp, Only H → SqL K H a (ns.map V.int) → sp [.ref a] H (fun v _ => v = .bl true) fun _ _ _ => False)
    (hCX : ∀ H e s', CX [] H s1 (fun _ _ _ => False) e s' → False) :
    codeAny (model P w) callerA (.call (.ref fa) ⟨[.ref a], []⟩)
      (fun r s' => r = .ok (.ret (.bool true)) ∧ OldK s1.heap s'.heap ∧ s'.os = s1.os ∧ AllBare s'.gens) s1 := by
  have rv : Vals (ns.map V.int) vs := vals_ints hi
  cases hk : K.lookup a with
  | some o =>
    have e := KX a o hk
    rw [ha] at e
    obtain rfl := Option.some.inj e
    have hO : Only (fun _ => none) := fun _ => .inl rfl
    have hS : SqL K (fun _ => none) a (ns.map V.int) :=
      .inr ⟨_, vs.toArray, _, hk, rfl, rfl, rfl, by rw [List.size_toArray, hi.length]; exact hl, by simpa using rv⟩
    exact law_at (fun _ => none) KX hns hb hbb hlim hg ha hr F hbind hCX hO (hsp _ hO hS) (fun b u z => nomatch z)
      (fun b z => absurd rfl z) (fun z => absurd rfl z)
  | none =>
    let T : HO := .frz { cls := .type "list", data := .seq vs.toArray } (.lst (ns.map V.int))
    let H : Hp := fun b => if b = a then some T else none
    have at_ : ∀ b, b = a → H b = some T := fun b e => if_pos e
    have off : ∀ b, ¬ b = a → H b = none := fun b e => if_neg e
    have hO : Only H := fun b => by
      by_cases e : b = a
      · exact .inr ⟨_, _, at_ b e⟩
      · exact .inl (off b e)
    have hok : HOk P w H s1.heap := fun b u z => by
      by_cases e : b = a
      · rw [at_ b e] at z
        obtain rfl := Option.some.inj z
        subst e
        exact ⟨ha, by rw [List.length_map]; exact hl, vs, _, rv, ha⟩
      · rw [off b e] at z
        exact nomatch z
    refine law_at H KX hns hb hbb hlim hg ha hr F hbind hCX hO (hsp H hO (.inl (.inr ⟨_, at_ a rfl⟩))) hok (fun b z => ?_) fun _ => hk
    by_cases e : b = a
    · exact e
    · exact absurd (off b e) z
end
/-- the goal that the head leaves, from the law's promise -/
theorem walk_ofG {l : PySem.W.OpenLaw} {n k : Nat} {q : Program} {loose : List Str} {XP : (Str → Option Value) → Heap → Prop}
    {YP : World → Heap → Prop} {d : DefRec} {K : Params → PySem.W.Frag} {CX : World → CXT} {sp : World → Sp} {x : Str}
    (hn : l.most = some n) (hn2 : n ≤ sizeLine) (hdf : d.params.defaults = []) (hr : Room k callerA)
    (hY : ∀ (w : World) (h : Heap), YP w h → (K w.params).In h)
    (F : ∀ (w : World) (mg : Str → Option Value) (fa : Addr) (h : Heap), (K w.params).In h → h.Ns mainGlobals mg → mg d.name = some (.ref fa) →
      ∃ fd : FuncData, (∀ (s : Shared) (u : Value), BindsTo s fd ⟨[u], []⟩ [(x, u)]) ∧
        ∀ base : Heap, (K w.params).In base → base.Ns mainGlobals mg → FnG l.prog w (K w.params) mg base (CX w) k fa fd [x] (sp w))
    (hsp : ∀ (w : World) (H : Hp) (a : Addr) (ns : List Int), ns.length ≤ n → Only H → SqL (K w.params) H a (ns.map V.int) →
      sp w [.ref a] H (fun v _ => v = .bl true) fun _ _ _ => False)
    (hCX : ∀ (w : World) (H : Hp) (s : Shared) (e : Value) (s' : Shared), CX w [] H s (fun _ _ _ => False) e s' → False) :
    PySem.W.WalkO q loose XP YP l.row.toRowW d [] (fun f vs => PySem.call f vs) := by
  refine Att.attach_call hn hdf ?_
  intro w s0 s1 mg mb fa o pm cd doc a vs ns G Y ho hd hcd hmg hobj hints hlen hg
  obtain ⟨fd, hb, hF⟩ := F w mg fa _ (hY w _ Y) G.T.g hmg
  refine law_callG (hY w _ Y) G.T.g G.T.b G.T.builtins G.T.nolimit hg hobj hints (Nat.le_trans hlen hn2) hr hF hb ?_ ?_
  · exact fun H hO hS => hsp w H a ns hlen hO hS
  · exact fun H e s' => hCX w H s1 e s'
end Gd

/-! Sy1: a symbolic layer over the hand layer: data, cells, worlds, the judgements. -/
namespace Sy
open PySem PySem.Spec PyProof.Rows L2

/-! ### data in an abstract heap -/
mutual
inductive DV (F : Hp) : V → PyData → Prop
  | non : DV F .non .none
  | bl (b : Bool) : DV F (.bl b) (.bool b)
  | int (i : Int) : DV F (.int i) (.int i)
  | str (x : Str) : DV F (.str x) (.str x)
  | lst {a : Addr} {vs : List V} {ds : List PyData} : F a = some (.lst vs) → DVs F vs ds → DV F (.ref a) (.list ds)
  | tup {a : Addr} {vs : List V} {ds : List PyData} : F a = some (.tup vs) → DVs F vs ds → DV F (.ref a) (.tuple ds)
  | dct0 {a : Addr} : F a = some (.dK []) → DV F (.ref a) (.dict [])
inductive DVs (F : Hp) : List V → List PyData → Prop
  | nil : DVs F [] []
  | cons {v : V} {vs : List V} {d : PyData} {ds : List PyData} : DV F v d → DVs F vs ds → DVs F (v :: vs) (d :: ds)
end
mutual
theorem DV.mono {F F' : Hp} (e : Same F F') {v : V} {d : PyData} (h : DV F v d) : DV F' v d := by
  cases h with
  | non => exact .non
  | bl b => exact .bl b
  | int i => exact .int i
  | str x => exact .str x
  | lst h1 h2 => exact .lst (e _ _ h1) (DVs.mono e h2)
  | tup h1 h2 => exact .tup (e _ _ h1) (DVs.mono e h2)
  | dct0 h1 => exact .dct0 (e _ _ h1)
theorem DVs.mono {F F' : Hp} (e : Same F F') {vs : List V} {ds : List PyData} (h : DVs F vs ds) : DVs F' vs ds := by
  cases h with
  | nil => exact .nil
  | cons h1 h2 => exact .cons (DV.mono e h1) (DVs.mono e h2)
end
theorem DVs.length {F : Hp} : ∀ {vs : List V} {ds : List PyData}, DVs F vs ds → vs.length = ds.length
  | _, _, .nil => rfl
  | _, _, .cons _ t => congrArg (· + 1) t.length
theorem DVs.get {F : Hp} : ∀ {vs : List V} {ds : List PyData} {i : Nat} {d : PyData}, DVs F vs ds → ds[i]? = some d → ∃ v, vs[i]? = some v ∧ DV F v d
  | _, _, _, _, .nil, e => by simp at e
  | _, _, 0, _, .cons h _, e => by simp at e; subst e; exact ⟨_, rfl, h⟩
  | _, _, i + 1, d, .cons _ t, e => by
    obtain ⟨v, h1, h2⟩ := DVs.get (i := i) (d := d) t (by simpa using e)
    exact ⟨v, by simpa using h1, h2⟩
theorem DVs.getV {F : Hp} : ∀ {vs : List V} {ds : List PyData} {i : Nat} {v : V}, DVs F vs ds → vs[i]? = some v → ∃ d, ds[i]? = some d ∧ DV F v d
  | _, _, _, _, .nil, e => by simp at e
  | _, _, 0, _, .cons h _, e => by simp at e; subst e; exact ⟨_, rfl, h⟩
  | _, _, i + 1, v, .cons _ t, e => by
    obtain ⟨d, h1, h2⟩ := DVs.getV (i := i) (v := v) t (by simpa using e)
    exact ⟨d, by simpa using h1, h2⟩
theorem DVs.append {F : Hp} : ∀ {vs ws : List V} {ds es : List PyData}, DVs F vs ds → DVs F ws es → DVs F (vs ++ ws) (ds ++ es)
  | _, _, _, _, .nil, h => h
  | _, _, _, _, .cons h t, h' => .cons h (t.append h')
theorem DVs.take {F : Hp} : ∀ {vs : List V} {ds : List PyData} (n : Nat), DVs F vs ds → DVs F (vs.take n) (ds.take n)
  | _, _, 0, _ => .nil
  | _, _, _ + 1, .nil => .nil
  | _, _, n + 1, .cons h t => .cons h (t.take n)
theorem DVs.drop {F : Hp} : ∀ {vs : List V} {ds : List PyData} (n : Nat), DVs F vs ds → DVs F (vs.drop n) (ds.drop n)
  | _, _, 0, h => h
  | _, _, _ + 1, .nil => .nil
  | _, _, n + 1, .cons _ t => t.drop n
theorem DVs.reverse {F : Hp} : ∀ {vs : List V} {ds : List PyData}, DVs F vs ds → DVs F vs.reverse ds.reverse
  | _, _, .nil => .nil
  | _, _, .cons h t => by
    rw [List.reverse_cons, List.reverse_cons]
    exact t.reverse.append (.cons h .nil)
theorem DVs.rep {F : Hp} {vs : List V} {ds : List PyData} (h : DVs F vs ds) : ∀ n : Nat, DVs F (List.replicate n vs).flatten (List.replicate n ds).flatten
  | 0 => .nil
  | n + 1 => by
    rw [List.replicate_succ, List.replicate_succ, List.flatten_cons, List.flatten_cons]
    exact h.append (h.rep n)
theorem DVs.set {F : Hp} {v : V} {d : PyData} (h : DV F v d) : ∀ {vs : List V} {ds : List PyData} (i : Nat), DVs F vs ds → DVs F (vs.set i v) (ds.set i d)
  | _, _, _, .nil => .nil
  | _, _, 0, .cons _ t => .cons h t
  | _, _, i + 1, .cons q t => .cons q (t.set h i)
theorem DVs.dropLast {F : Hp} {vs : List V} {ds : List PyData} (h : DVs F vs ds) : DVs F vs.dropLast ds.dropLast := by
  rw [List.dropLast_eq_take, List.dropLast_eq_take, h.length]
  exact h.take _
theorem DVs.ofInts {F : Hp} : ∀ ns : List Int, DVs F (ns.map V.int) (ns.map PyData.int)
  | [] => .nil
  | n :: ns => .cons (.int n) (DVs.ofInts ns)
theorem DVs.ofStrs {F : Hp} : ∀ ns : List Str, DVs F (ns.map V.str) (ns.map PyData.str)
  | [] => .nil
  | n :: ns => .cons (.str n) (DVs.ofStrs ns)

/-! ### symbolic values, cells, worlds -/
inductive SV where
  | dat (d : PyData)
  | cell (j : Nat)
/-- a thing that changes: a list of data; a list of any; a dict by texts, locked or not; a dict by names, too; an instance; one that is no more spoken of -/
inductive Cell where
  | lst (ds : List PyData)
  | mix (svs : List SV)
  | dk (lk : Option HO) (kvs : List (Str × PyData))
  | dt (lk : Option HO) (kvs : List (List Str × PyData))
  | ins (C : Addr) (fs : List (Str × SV))
  | dead
abbrev Mu := List Cell
abbrev En := List (Option SV)

def RSV (F : Hp) (as : List Addr) : SV → V → Prop
  | .dat d, v => DV F v d
  | .cell j, v => ∃ a, as[j]? = some a ∧ v = .ref a
abbrev RAll (F : Hp) (as : List Addr) : List SV → List V → Prop := Paired (RSV F as)

abbrev KvS (F : Hp) : List (Key × V) → List (Str × PyData) → Prop := Paired fun p q => p.1 = Sum.inr q.1 ∧ DV F p.2 q.2
abbrev KvT (F : Hp) : List (List Key × V) → List (List Str × PyData) → Prop := Paired fun p q => p.1 = q.1.map Sum.inr ∧ DV F p.2 q.2
abbrev FlS (F : Hp) (as : List Addr) : List (Str × V) → List (Str × SV) → Prop := Paired fun p q => p.1 = q.1 ∧ RSV F as q.2 p.2
/-- a thing at a place, locked (as just that) or not -/
def Lkd (lk : Option HO) (H : Hp) (a : Addr) (o : HO) : Prop := match lk with
  | some q => H a = some q ∧ ∃ od, q = .frz od o
  | none => H a = some o
theorem Lkd.go {lk : Option HO} {H H' : Hp} {a : Addr} {o : HO} (h : Lkd lk H a o) (k : ∀ o, H a = some o → H' a = some o) : Lkd lk H' a o := by
  cases lk with
  | some q => exact ⟨k _ h.1, h.2⟩
  | none => exact k _ h
theorem Lkd.rd {lk : Option HO} {H : Hp} {a : Addr} {o : HO} (h : Lkd lk H a o) : Rd H a o := by
  cases lk with
  | some q =>
    obtain ⟨h1, od, rfl⟩ := h
    exact .inr ⟨od, h1⟩
  | none => exact .inl h
def CellOk (F H : Hp) (as : List Addr) (a : Addr) : Cell → Prop
  | .lst ds => F a = none ∧ ∃ vs, H a = some (.lst vs) ∧ DVs F vs ds
  | .mix svs => F a = none ∧ ∃ vs, H a = some (.lst vs) ∧ RAll F as svs vs
  | .dk lk kvs => F a = none ∧ ∃ vs, Lkd lk H a (.dK vs) ∧ KvS F vs kvs
  | .dt lk kvs => F a = none ∧ ∃ vs, Lkd lk H a (.dT vs) ∧ KvT F vs kvs
  | .ins C fs => F a = none ∧ ∃ dx vs, H a = some (.ins C dx vs) ∧ FlS F as vs fs
  | .dead => True
def SV.refs : SV → List Nat
  | .dat _ => []
  | .cell j => [j]
def Cell.refs : Cell → List Nat
  | .mix svs => svs.flatMap SV.refs
  | .ins _ fs => fs.flatMap fun p => p.2.refs
  | _ => []
theorem pImp2 {α β : Type} {R R' : α → β → Prop} : ∀ {l : List α} {k : List β}, Paired R l k → (∀ x y, y ∈ k → R x y → R' x y) → Paired R' l k
  | _, _, .nil, _ => .nil
  | _, _, .cons h t, i => .cons (i _ _ List.mem_cons_self h) (pImp2 t fun x y hy => i x y (List.mem_cons_of_mem _ hy))
theorem pImp3 {α β : Type} {R R' : α → β → Prop} : ∀ {l : List α} {k : List β}, Paired R l k → (∀ x y, x ∈ l → R x y → R' x y) → Paired R' l k
  | _, _, .nil, _ => .nil
  | _, _, .cons h t, i => .cons (i _ _ List.mem_cons_self h) (pImp3 t fun x y hy => i x y (List.mem_cons_of_mem _ hy))
theorem pMemL {α β : Type} {R : α → β → Prop} : ∀ {l : List α} {k : List β}, Paired R l k → ∀ x ∈ l, ∃ y, R x y
  | _, _, .nil, y, h => nomatch h
  | _, _, .cons h t, y, hy => by
    rcases List.mem_cons.mp hy with rfl | z
    · exact ⟨_, h⟩
    · exact pMemL t y z
theorem pMemR {α β : Type} {R : α → β → Prop} : ∀ {l : List α} {k : List β}, Paired R l k → ∀ y ∈ k, ∃ x, R x y
  | _, _, .nil, y, h => nomatch h
  | _, _, .cons h t, y, hy => by
    rcases List.mem_cons.mp hy with rfl | z
    · exact ⟨_, h⟩
    · exact pMemR t y z
theorem RSV.to {F F' : Hp} {as as' : List Addr} (sF : Same F F') : ∀ {sv : SV} {v : V}, (∀ j ∈ sv.refs, ∀ b, as[j]? = some b → as'[j]? = some b) → RSV F as sv v → RSV F' as' sv v
  | .dat _, _, _, h => DV.mono sF h
  | .cell j, _, k, ⟨a, h, e⟩ => ⟨a, k j (List.mem_singleton.mpr rfl) a h, e⟩
/-- a cell stays as it is while its own things stay -/
theorem CellOk.go {F H F' H' : Hp} {as as' : List Addr} {a : Addr} {c : Cell} (k : CellOk F H as a c) (sF : Same F F') (nF : F a = none → F' a = none) (hH : ∀ o, H a = some o → H' a = some o) (has : ∀ j ∈ c.refs, ∀ b, as[j]? = some b → as'[j]? = some b) : CellOk F' H' as' a c := by
  cases c with
  | dead => trivial
  | lst ds =>
    obtain ⟨k1, vs, k2, k3⟩ := k
    exact ⟨nF k1, vs, hH _ k2, DVs.mono sF k3⟩
  | mix svs =>
    obtain ⟨k1, vs, k2, k3⟩ := k
    exact ⟨nF k1, vs, hH _ k2, pImp3 k3 fun x y hx h => RSV.to sF (fun j hj => has j (List.mem_flatMap.mpr ⟨x, hx, hj⟩)) h⟩
  | dk lk kvs =>
    obtain ⟨k1, vs, k2, k3⟩ := k
    exact ⟨nF k1, vs, k2.go hH, pImp2 k3 fun x y _ h => ⟨h.1, DV.mono sF h.2⟩⟩
  | dt lk kvs =>
    obtain ⟨k1, vs, k2, k3⟩ := k
    exact ⟨nF k1, vs, k2.go hH, pImp2 k3 fun x y _ h => ⟨h.1, DV.mono sF h.2⟩⟩
  | ins C fs =>
    obtain ⟨k1, dx, vs, k2, k3⟩ := k
    exact ⟨nF k1, dx, vs, hH _ k2, pImp2 k3 fun x y hy h => ⟨h.1, RSV.to sF (fun j hj => has j (List.mem_flatMap.mpr ⟨y, hy, hj⟩)) h.2⟩⟩
/-- what a cell speaks of is there -/
theorem CellOk.low {F H : Hp} {as : List Addr} {a : Addr} {c : Cell} (k : CellOk F H as a c) : ∀ j ∈ c.refs, j < as.length := by
  have one : ∀ {sv : SV} {v : V}, RSV F as sv v → ∀ j ∈ sv.refs, j < as.length := by
    intro sv v h j hj
    cases sv with
    | dat d => exact nomatch hj
    | cell i =>
      obtain rfl := List.mem_singleton.mp hj
      obtain ⟨b, hb, _⟩ := h
      exact (List.getElem?_eq_some_iff.mp hb).1
  intro j hj
  cases c with
  | dead => exact nomatch hj
  | lst ds => exact nomatch hj
  | dk _ ds => exact nomatch hj
  | dt _ ds => exact nomatch hj
  | mix svs =>
    obtain ⟨_, vs, _, k3⟩ := k
    obtain ⟨sv, h1, h2⟩ := List.mem_flatMap.mp hj
    obtain ⟨v, hv⟩ := pMemL k3 sv h1
    exact one hv j h2
  | ins C fs =>
    obtain ⟨_, dx, vs, _, k3⟩ := k
    obtain ⟨p, h1, h2⟩ := List.mem_flatMap.mp hj
    obtain ⟨v, hv⟩ := pMemR k3 p h1
    exact one hv.2 j h2

structure Wd (F H : Hp) (as : List Addr) (μ : Mu) : Prop where
  sub : Same F H
  nd : as.Nodup
  len : as.length = μ.length
  ok : ∀ (j : Nat) (a : Addr) (c : Cell), as[j]? = some a → μ[j]? = some c → CellOk F H as a c
  seen : ∀ a ∈ as, H a ≠ none

structure Go (F H : Hp) (as : List Addr) (F' H' : Hp) (as' : List Addr) : Prop where
  keep : ∀ a o, H a = some o → a ∉ as → H' a = some o
  dom : ∀ a, H' a = none → H a = none
  sub : Same F F'
  new : ∀ a, F a = none → F' a ≠ none → H a = none ∨ a ∈ as
  pre : ∃ more, as' = as ++ more ∧ ∀ a ∈ more, H a = none

theorem Go.refl (F H : Hp) (as : List Addr) : Go F H as F H as :=
  ⟨fun _ _ h _ => h, fun _ h => h, Same.refl F, fun a h h' => absurd h h', [], (List.append_nil as).symm, fun _ h => nomatch h⟩
theorem Go.trans {F H F1 H1 F2 H2 : Hp} {as as1 as2 : List Addr} (g : Go F H as F1 H1 as1) (g' : Go F1 H1 as1 F2 H2 as2) : Go F H as F2 H2 as2 := by
  obtain ⟨m1, e1, n1⟩ := g.pre
  obtain ⟨m2, e2, n2⟩ := g'.pre
  refine ⟨fun a o h na => g'.keep a o (g.keep a o h na) ?_, fun a h => g.dom a (g'.dom a h), g.sub.trans g'.sub, fun a h h' => ?_, m1 ++ m2, by rw [e2, e1, List.append_assoc], fun a ha => ?_⟩
  · rw [e1]
    intro z
    rcases List.mem_append.mp z with z | z
    · exact na z
    · rw [n1 a z] at h; cases h
  · by_cases q : F1 a = none
    · rcases g'.new a q h' with z | z
      · exact .inl (g.dom a z)
      · rw [e1] at z
        rcases List.mem_append.mp z with z | z
        · exact .inr z
        · exact .inl (n1 a z)
    · exact g.new a h q
  · rcases List.mem_append.mp ha with z | z
    · exact n1 a z
    · exact g.dom a (n2 a z)
theorem Go.at {F H F' H' : Hp} {as as' : List Addr} (g : Go F H as F' H' as') {j : Nat} {a : Addr} (h : as[j]? = some a) : as'[j]? = some a := by
  obtain ⟨m, e, _⟩ := g.pre
  rw [e, List.getElem?_append_left (List.getElem?_eq_some_iff.mp h).1]
  exact h
theorem RSV.mono {F H F' H' : Hp} {as as' : List Addr} (g : Go F H as F' H' as') : ∀ {sv : SV} {v : V}, RSV F as sv v → RSV F' as' sv v
  | .dat _, _, h => DV.mono g.sub h
  | .cell _, _, ⟨a, h, e⟩ => ⟨a, g.at h, e⟩
theorem RAll.mono {F H F' H' : Hp} {as as' : List Addr} (g : Go F H as F' H' as') : ∀ {svs : List SV} {vs : List V}, RAll F as svs vs → RAll F' as' svs vs
  | _, _, .nil => .nil
  | _, _, .cons h t => .cons (RSV.mono g h) (RAll.mono g t)

def EnvOk (F : Hp) (as : List Addr) (env : En) (σ : L2.St) : Prop :=
  env.length = σ.length ∧ ∀ (i : Nat) (sv : SV), env[i]? = some (some sv) → ∃ v, σ[i]? = some (some v) ∧ RSV F as sv v
theorem EnvOk.mono {F H F' H' : Hp} {as as' : List Addr} (g : Go F H as F' H' as') {env : En} {σ : L2.St} (h : EnvOk F as env σ) : EnvOk F' as' env σ :=
  ⟨h.1, fun i sv e => let ⟨v, h1, h2⟩ := h.2 i sv e; ⟨v, h1, RSV.mono g h2⟩⟩
theorem EnvOk.set {F : Hp} {as : List Addr} {env : En} {σ : L2.St} (h : EnvOk F as env σ) {sv : SV} {v : V} (r : RSV F as sv v) (i : Nat) : EnvOk F as (env.set i (some sv)) (σ.set i (some v)) := by
  refine ⟨by rw [List.length_set, List.length_set, h.1], fun k sv' e => ?_⟩
  rw [List.getElem?_set] at e ⊢
  by_cases hk : i = k
  · subst hk
    rw [if_pos rfl] at e ⊢
    by_cases hl : i < env.length
    · rw [if_pos hl] at e
      rw [if_pos (h.1 ▸ hl)]
      obtain rfl := Option.some.inj (Option.some.inj e)
      exact ⟨v, rfl, r⟩
    · rw [if_neg hl] at e
      exact nomatch e
  · rw [if_neg hk] at e ⊢
    exact h.2 k sv' e
/-- forget some slots -/
theorem EnvOk.le {F : Hp} {as : List Addr} {env env' : En} {σ : L2.St} (h : EnvOk F as env σ) (hl : env'.length = env.length) (hs : ∀ (i : Nat) (sv : SV), env'[i]? = some (some sv) → env[i]? = some (some sv)) : EnvOk F as env' σ :=
  ⟨hl.trans h.1, fun i sv e => h.2 i sv (hs i sv e)⟩

/-! ### how a world goes on -/
/-- a new object, tracked as stable -/
theorem Wd.addF {F H : Hp} {as : List Addr} {μ : Mu} (W : Wd F H as μ) {p : Addr} {o : HO} (np : H p = none) :
    Wd (upd F p o) (upd H p o) as μ ∧ Go F H as (upd F p o) (upd H p o) as := by
  have nF : F p = none := by
    cases q : F p with
    | none => rfl
    | some u => rw [W.sub p u q] at np; cases np
  have sF : Same F (upd F p o) := fun b u e => by rw [upd_ne (ne_of_none e nF)]; exact e
  refine ⟨⟨fun b u e => ?_, W.nd, W.len, fun j a c ha hc => ?_, fun a ha => ?_⟩, ⟨fun a u h _ => ?_, fun a h => ?_, sF, fun a h h' => ?_, [], (List.append_nil as).symm, fun _ h => nomatch h⟩⟩
  · by_cases hb : b = p
    · subst hb; rw [upd_same] at e ⊢; exact e
    · rw [upd_ne hb] at e ⊢; exact W.sub b u e
  · have hap : a ≠ p := fun z => by
      subst z
      exact W.seen a (List.mem_of_getElem? ha) np
    exact (W.ok j a c ha hc).go sF (fun z => by rw [upd_ne hap]; exact z) (fun o z => by rw [upd_ne hap]; exact z) (fun _ _ _ z => z)
  · have hap : a ≠ p := fun z => by
      subst z
      exact W.seen a ha np
    rw [upd_ne hap]
    exact W.seen a ha
  · rw [upd_ne (ne_of_none h np)]; exact h
  · by_cases ha : a = p
    · subst ha; exact np
    · rw [upd_ne ha] at h; exact h
  · by_cases ha : a = p
    · subst ha; exact .inl np
    · rw [upd_ne ha] at h'; exact absurd h h'
/-- a new thing, tracked as a cell -/
theorem Wd.addO {F H : Hp} {as : List Addr} {μ : Mu} (W : Wd F H as μ) {p : Addr} {o : HO} {c : Cell} (np : H p = none) (hc : F p = none → CellOk F (upd H p o) (as ++ [p]) p c) :
    Wd F (upd H p o) (as ++ [p]) (μ ++ [c]) ∧ Go F H as F (upd H p o) (as ++ [p]) := by
  have nF : F p = none := by
    cases q : F p with
    | none => rfl
    | some u => rw [W.sub p u q] at np; cases np
  have npa : p ∉ as := fun z => W.seen p z np
  refine ⟨⟨fun b u e => ?_, ?_, by rw [List.length_append, List.length_append, W.len]; rfl, fun j a c' ha hc' => ?_, fun a ha => ?_⟩,
    ⟨fun a u h _ => ?_, fun a h => ?_, Same.refl F, fun a h h' => absurd h h', [p], rfl, fun a h => ?_⟩⟩
  · rw [upd_ne (ne_of_none e nF)]; exact W.sub b u e
  · rw [List.nodup_append]
    exact ⟨W.nd, by simp, fun a ha b hb => by
      obtain rfl := List.mem_singleton.mp hb
      exact fun z => npa (z ▸ ha)⟩
  · by_cases hj : j < as.length
    · rw [List.getElem?_append_left hj] at ha
      rw [List.getElem?_append_left (W.len ▸ hj)] at hc'
      have hap : a ≠ p := fun z => npa (z ▸ List.mem_of_getElem? ha)
      exact (W.ok j a c' ha hc').go (Same.refl F) (fun z => z) (fun o z => by rw [upd_ne hap]; exact z) (fun i _ b z => by rw [List.getElem?_append_left (List.getElem?_eq_some_iff.mp z).1]; exact z)
    · rw [List.getElem?_append_right (by omega)] at ha
      rw [List.getElem?_append_right (by have := W.len; omega)] at hc'
      have e0 : j - as.length = 0 := by
        have := (List.getElem?_eq_some_iff.mp ha).1
        simp at this
        omega
      have e1 : j - μ.length = 0 := by have := W.len; omega
      rw [e0] at ha
      rw [e1] at hc'
      simp at ha hc'
      subst ha hc'
      exact hc nF
  · rcases List.mem_append.mp ha with z | z
    · rw [upd_ne (fun (q : a = p) => npa (by rw [← q]; exact z))]; exact W.seen a z
    · obtain rfl := List.mem_singleton.mp z
      rw [upd_same]; exact fun q => nomatch q
  · rw [upd_ne (ne_of_none h np)]; exact h
  · by_cases ha : a = p
    · subst ha; exact np
    · rw [upd_ne ha] at h; exact h
  · obtain rfl := List.mem_singleton.mp h
    exact np
theorem Wd.addC {F H : Hp} {as : List Addr} {μ : Mu} (W : Wd F H as μ) {p : Addr} {vs : List V} {ds : List PyData} (np : H p = none) (hv : DVs F vs ds) :
    Wd F (upd H p (.lst vs)) (as ++ [p]) (μ ++ [.lst ds]) ∧ Go F H as F (upd H p (.lst vs)) (as ++ [p]) := W.addO np fun nF => ⟨nF, vs, upd_same, hv⟩
theorem nodup_inj {α : Type} : ∀ {l : List α} {i j : Nat} {x : α}, l.Nodup → l[i]? = some x → l[j]? = some x → i = j
  | [], i, j, x, _, h, _ => by simp at h
  | a :: l, 0, 0, x, _, _, _ => rfl
  | a :: l, 0, j + 1, x, n, h, h' => by
    simp at h h'
    subst h
    exact absurd (List.mem_of_getElem? h') (List.nodup_cons.mp n).1
  | a :: l, i + 1, 0, x, n, h, h' => by
    simp at h h'
    subst h'
    exact absurd (List.mem_of_getElem? h) (List.nodup_cons.mp n).1
  | a :: l, i + 1, j + 1, x, n, h, h' => by
    simp at h h'
    rw [nodup_inj (List.nodup_cons.mp n).2 h h']
/-- a cell is changed -/
theorem Wd.setO {F H : Hp} {as : List Addr} {μ : Mu} (W : Wd F H as μ) {j : Nat} {a : Addr} {o : HO} {c : Cell} (ha : as[j]? = some a) (nF : F a = none) (hc : CellOk F (upd H a o) as a c) :
    Wd F (upd H a o) as (μ.set j c) ∧ Go F H as F (upd H a o) as := by
  have ham : a ∈ as := List.mem_of_getElem? ha
  refine ⟨⟨fun b u e => ?_, W.nd, by rw [List.length_set]; exact W.len, fun k b c' hb hk => ?_, fun b hb => ?_⟩,
    ⟨fun b u h nb => ?_, fun b h => ?_, Same.refl F, fun b h h' => absurd h h', [], (List.append_nil as).symm, fun _ h => nomatch h⟩⟩
  · rw [upd_ne (ne_of_none e nF)]; exact W.sub b u e
  · by_cases hkj : j = k
    · subst hkj
      rw [ha] at hb
      obtain rfl := Option.some.inj hb
      rw [List.getElem?_set, if_pos rfl] at hk
      split at hk
      · obtain rfl := Option.some.inj hk
        exact hc
      · exact nomatch hk
    · rw [List.getElem?_set, if_neg hkj] at hk
      have hba : b ≠ a := fun z => by
        subst z
        exact hkj (nodup_inj W.nd ha hb)
      exact (W.ok k b c' hb hk).go (Same.refl F) (fun z => z) (fun o z => by rw [upd_ne hba]; exact z) (fun _ _ _ z => z)
  · by_cases hb' : b = a
    · subst hb'; rw [upd_same]; exact fun q => nomatch q
    · rw [upd_ne hb']; exact W.seen b hb
  · rw [upd_ne (fun (z : b = a) => nb (by rw [z]; exact ham))]; exact h
  · by_cases hb' : b = a
    · subst hb'; rw [upd_same] at h; exact nomatch h
    · rw [upd_ne hb'] at h; exact h
theorem Wd.setC {F H : Hp} {as : List Addr} {μ : Mu} (W : Wd F H as μ) {j : Nat} {a : Addr} {vs : List V} {ds es : List PyData} (ha : as[j]? = some a) (hc : μ[j]? = some (.lst es)) (hv : DVs F vs ds) :
    Wd F (upd H a (.lst vs)) as (μ.set j (.lst ds)) ∧ Go F H as F (upd H a (.lst vs)) as := by
  obtain ⟨nF, _⟩ := W.ok j a _ ha hc
  exact W.setO ha nF ⟨nF, vs, upd_same, hv⟩
theorem Wd.low {F H : Hp} {as : List Addr} {μ : Mu} (W : Wd F H as μ) {j : Nat} {c : Cell} (h : μ[j]? = some c) : ∀ i ∈ c.refs, i < μ.length := by
  have hj : j < as.length := by rw [W.len]; exact (List.getElem?_eq_some_iff.mp h).1
  rw [← W.len]
  exact (W.ok j _ c (List.getElem?_eq_getElem hj) h).low

/-! ### the judgements -/
abbrev Kont := SV → Mu → V → Hp → Hp → List Addr → Prop
/-- an expression: from env and cells to a value and cells -/
def rdE (env : En) (μ : Mu) (sv : SV) (μ' : Mu) : TE := fun σ H Q =>
  ∃ F as, EnvOk F as env σ ∧ Wd F H as μ ∧ ∀ v F' H' as', Go F H as F' H' as' → Wd F' H' as' μ' → RSV F' as' sv v → Q v H'
def rdA (env : En) (μ : Mu) (svs : List SV) (μ' : Mu) : TA := fun σ H Q =>
  ∃ F as, EnvOk F as env σ ∧ Wd F H as μ ∧ ∀ vs F' H' as', Go F H as F' H' as' → Wd F' H' as' μ' → RAll F' as' svs vs → Q vs H'
def rdT (env : En) (μ : Mu) (b : Bool) (μ' : Mu) : TT := fun σ H Q =>
  ∃ F as, EnvOk F as env σ ∧ Wd F H as μ ∧ ∀ F' H' as', Go F H as F' H' as' → Wd F' H' as' μ' → Q b H'
def SE (X : Cx) (e : Expr) (env : En) (μ : Mu) (sv : SV) (μ' : Mu) : Prop := PE X e (rdE env μ sv μ')
def SA (X : Cx) (es : List Expr) (env : En) (μ : Mu) (svs : List SV) (μ' : Mu) : Prop := PA X es (rdA env μ svs μ')
def ST (X : Cx) (e : Expr) (env : En) (μ : Mu) (b : Bool) (μ' : Mu) : Prop := PT X e (rdT env μ b μ')

inductive Out where
  | next (env : En) (μ : Mu)
  | ret (sv : SV) (μ : Mu)
  | brk (env : En) (μ : Mu)
  | cont (env : En) (μ : Mu)
def rdS (env : En) (μ : Mu) (R : Out → Prop) : TS := fun D σ H =>
  ∃ F as, EnvOk F as env σ ∧ Wd F H as μ ∧
    (∀ env' μ' σ' F' H' as', R (.next env' μ') → Go F H as F' H' as' → EnvOk F' as' env' σ' → Wd F' H' as' μ' → D.nx σ' H') ∧
    (∀ sv μ' v F' H' as', R (.ret sv μ') → Go F H as F' H' as' → Wd F' H' as' μ' → RSV F' as' sv v → D.rt v H') ∧
    (∀ env' μ' σ' F' H' as', R (.brk env' μ') → Go F H as F' H' as' → EnvOk F' as' env' σ' → Wd F' H' as' μ' → D.bk σ' H') ∧
    (∀ env' μ' σ' F' H' as', R (.cont env' μ') → Go F H as F' H' as' → EnvOk F' as' env' σ' → Wd F' H' as' μ' → D.ct σ' H')
def SS (X : Cx) (st : Stmt) (env : En) (μ : Mu) (R : Out → Prop) : Prop := PS X st (rdS env μ R)
def SSs (X : Cx) (sts : List Stmt) (env : En) (μ : Mu) (R : Out → Prop) : Prop := PSs X sts (rdS env μ R)

/-- weaken readings -/
theorem PE.imp {X : Cx} {e : Expr} {t t' : TE} (h : PE X e t) (i : ∀ σ H Q, t' σ H Q → t σ H Q) : PE X e t' :=
  ⟨fun pins s σ H Q I q => h.run pins s σ H Q I (i σ H Q q)⟩
theorem PT.imp {X : Cx} {e : Expr} {t t' : TT} (h : PT X e t) (i : ∀ σ H Q, t' σ H Q → t σ H Q) : PT X e t' :=
  ⟨fun pins s σ H Q I q => h.run pins s σ H Q I (i σ H Q q)⟩
theorem PA.imp {X : Cx} {es : List Expr} {t t' : TA} (h : PA X es t) (i : ∀ σ H Q, t' σ H Q → t σ H Q) : PA X es t' :=
  ⟨fun pos pins s σ H Q I q => h.run pos pins s σ H Q I (i σ H Q q)⟩
theorem PS.imp {X : Cx} {st : Stmt} {t t' : TS} (h : PS X st t) (i : ∀ D σ H, t' D σ H → t D σ H) : PS X st t' :=
  ⟨fun pins s σ H D I q => h.run pins s σ H D I (i D σ H q)⟩
theorem PSs.imp {X : Cx} {st : List Stmt} {t t' : TS} (h : PSs X st t) (i : ∀ D σ H, t' D σ H → t D σ H) : PSs X st t' :=
  ⟨fun pins s σ H D I q => h.run pins s σ H D I (i D σ H q)⟩
end Sy

/-! Sy2: expressions: names, constants, operators by data, arguments, tests. -/
namespace Sy
open PySem PySem.Spec PyProof.Rows L2

/-! ### data as seen now: a list may be a cell's -/
def TD (F H : Hp) (v : V) : PyData → Prop
  | .list ds => ∃ a vs, v = .ref a ∧ H a = some (.lst vs) ∧ DVs F vs ds
  | d => DV F v d
def view (μ : Mu) : SV → Option PyData
  | .dat d => some d
  | .cell j => match μ[j]? with
    | some (.lst ds) => some (.list ds)
    | _ => none
theorem TD.of {F H : Hp} (s : Same F H) {v : V} {d : PyData} (h : DV F v d) : TD F H v d := by
  cases h with
  | lst h1 h2 => exact ⟨_, _, rfl, s _ _ h1, h2⟩
  | non => exact DV.non
  | bl b => exact DV.bl b
  | int i => exact DV.int i
  | str x => exact DV.str x
  | tup h1 h2 => exact DV.tup h1 h2
  | dct0 h1 => exact DV.dct0 h1
theorem TD.dv {F H : Hp} (s : Same F H) {v : V} {d : PyData} (h : TD F H v d) : DV H v d := by
  cases d with
  | list ds => obtain ⟨a, vs, rfl, h1, h2⟩ := h; exact .lst h1 (DVs.mono s h2)
  | none => exact DV.mono s h
  | bool b => exact DV.mono s h
  | int b => exact DV.mono s h
  | str b => exact DV.mono s h
  | tuple b => exact DV.mono s h
  | dict b => exact DV.mono s h
theorem Wd.view {F H : Hp} {as : List Addr} {μ : Mu} (W : Wd F H as μ) {sv : SV} {v : V} {d : PyData} (r : RSV F as sv v) (h : Sy.view μ sv = some d) : TD F H v d := by
  cases sv with
  | dat d' =>
    obtain rfl : d' = d := Option.some.inj h
    exact TD.of W.sub r
  | cell j =>
    obtain ⟨a, ha, rfl⟩ := r
    simp only [Sy.view] at h
    cases hc : μ[j]? with
    | none => rw [hc] at h; exact nomatch h
    | some c =>
      rw [hc] at h
      cases c with
      | dead => exact nomatch h
      | mix _ => exact nomatch h
      | dk _ _ => exact nomatch h
      | dt _ _ => exact nomatch h
      | ins _ _ => exact nomatch h
      | lst ds =>
        obtain rfl : PyData.list ds = d := Option.some.inj h
        obtain ⟨_, vs, h1, h2⟩ := W.ok j a _ ha hc
        exact ⟨a, vs, rfl, h1, h2⟩

inductive Res where
  | val (d : PyData)
  | newL (ds : List PyData)
  | newT (ds : List PyData)
def ResK (F H : Hp) (Q : VK) : Res → Prop
  | .val d => ∀ v, DV F v d → Q v H
  | .newL ds => ∀ p vs, H p = none → DVs F vs ds → Q (.ref p) (upd H p (.lst vs))
  | .newT ds => (∀ v, DV F v (.tuple ds) → Q v H) ∧ ∀ p vs, H p = none → DVs F vs ds → Q (.ref p) (upd H p (.tup vs))
/-- what becomes of a result -/
inductive Fi : Res → Mu → SV → Mu → Prop
  | val {d : PyData} {μ : Mu} : Fi (.val d) μ (.dat d) μ
  | dat {ds : List PyData} {μ : Mu} : Fi (.newL ds) μ (.dat (.list ds)) μ
  | cell {ds : List PyData} {μ : Mu} : Fi (.newL ds) μ (.cell μ.length) (μ ++ [.lst ds])
  | tup {ds : List PyData} {μ : Mu} : Fi (.newT ds) μ (.dat (.tuple ds)) μ
theorem Fi.run {res : Res} {μ μ' : Mu} {sv : SV} (f : Fi res μ sv μ') {F H : Hp} {as : List Addr} (W : Wd F H as μ) {Q : VK}
    (k : ∀ v F' H' as', Go F H as F' H' as' → Wd F' H' as' μ' → RSV F' as' sv v → Q v H') : ResK F H Q res := by
  cases f with
  | val => exact fun v h => k v F H as (Go.refl F H as) W h
  | dat => exact fun p vs np h => k _ _ _ as (W.addF np).2 (W.addF np).1 (.lst upd_same (DVs.mono (W.addF (o := .lst vs) np).2.sub h))
  | cell => exact fun p vs np h => k _ _ _ _ (W.addC np h).2 (W.addC np h).1 ⟨p, by rw [List.getElem?_append_right (by rw [W.len]; exact Nat.le_refl _)]; simp [W.len], rfl⟩
  | tup => exact ⟨fun v h => k v F H as (Go.refl F H as) W h, fun p vs np h => k _ _ _ as (W.addF np).2 (W.addF np).1 (.tup upd_same (DVs.mono (W.addF (o := .tup vs) np).2.sub h))⟩

section
variable {X : Cx} {env : En} {μ μ1 μ2 μ3 μ' : Mu} {sv s1 s2 s3 : SV} {a b c e : Expr} {es : List Expr} {pos p0 : Pos} {x : Str}

theorem se_var (i : Nat) (h : env[i]? = some (some sv) := by rfl) (hN : X.N[i]? = some x := by rfl)
    (hv : Vis X.env.scope x := by first | exact Or.inl rfl | exact Or.inr (Or.inl rfl) | exact Or.inr (Or.inr rfl))
    (hd : (x == ("__debug__" : Str)) = false := by decide) (hcd : (x == ("__classdict__" : Str)) = false := by decide) : SE X (.Name x pos) env μ sv μ :=
  PE.imp (pe_var hN hv hd hcd) fun σ H Q ⟨F, as, he, W, k⟩ => let ⟨v, h1, h2⟩ := he.2 i sv h; ⟨v, h1, k v F H as (Go.refl F H as) W h2⟩
theorem se_c {v : V} {d : PyData} (hp : PE X e (tC v)) (hd : ∀ F, DV F v d) : SE X e env μ (.dat d) μ :=
  PE.imp hp fun σ H Q ⟨F, as, he, W, k⟩ => k v F H as (Go.refl F H as) W (hd F)
theorem se_int {i : Int} {j : Nat} : SE X (.Constant (.int i) j pos) env μ (.dat (.int i)) μ := se_c pe_int fun _ => .int i
theorem se_bool {i : Bool} {j : Nat} : SE X (.Constant (.bool i) j pos) env μ (.dat (.bool i)) μ := se_c pe_bl fun _ => .bl i
theorem se_none {j : Nat} : SE X (.Constant .none j pos) env μ (.dat .none) μ := se_c pe_non fun _ => .non
theorem se_str {i : Str} {j : Nat} : SE X (.Constant (.str i) j pos) env μ (.dat (.str i)) μ := se_c pe_str fun _ => .str i
theorem se_gstr {y : Str} {t : Tok} (hm : X.mg x = some (.str y t)) (hg : Gl X x := by rfl) (hd : (x == ("__debug__" : Str)) = false := by decide) : SE X (.Name x pos) env μ (.dat (.str y)) μ :=
  se_c (pe_glob (v := .str y) hg hm ⟨t, rfl⟩ hd) fun _ => .str y
theorem se_gint {y : Int} {t : Tok} (hm : X.mg x = some (.int y t)) (hg : Gl X x := by rfl) (hd : (x == ("__debug__" : Str)) = false := by decide) : SE X (.Name x pos) env μ (.dat (.int y)) μ :=
  se_c (pe_glob (v := .int y) hg hm ⟨t, rfl⟩ hd) fun _ => .int y

/-! ### two operands, by data -/
def OpS (r : R2) (f : PyData → PyData → Option Res) (ok : PyData → PyData → Prop) : Prop :=
  ∀ (F H : Hp) (x y : V) (d1 d2 : PyData) (res : Res) (Q : VK), Same F H → TD F H x d1 → TD F H y d2 → f d1 d2 = some res → ok d1 d2 → ResK F H Q res → r x y H Q
theorem two_run {ta tb : TE} {r : R2} {f : PyData → PyData → Option Res} {ok : PyData → PyData → Prop} {d1 d2 : PyData} {res : Res} (hs : OpS r f ok)
    (hta : ta = rdE env μ s1 μ1) (htb : tb = rdE env μ1 s2 μ2) (v1 : Sy.view μ2 s1 = some d1) (v2 : Sy.view μ2 s2 = some d2)
    (hf : f d1 d2 = some res) (hk : ok d1 d2) (fin : Fi res μ2 sv μ') : ∀ σ H Q, rdE env μ sv μ' σ H Q → tOp r ta tb σ H Q := by
  subst hta htb
  intro σ H Q ⟨F, as, he, W, k⟩
  refine ⟨F, as, he, W, fun x F1 H1 as1 g1 W1 r1 => ⟨F1, as1, he.mono g1, W1, fun y F2 H2 as2 g2 W2 r2 => ?_⟩⟩
  refine hs F2 H2 x y d1 d2 res Q W2.sub (W2.view (RSV.mono g2 r1) v1) (W2.view r2 v2) hf hk ?_
  exact fin.run W2 fun v F3 H3 as3 g3 W3 r3 => k v F3 H3 as3 ((g1.trans g2).trans g3) W3 r3
theorem se_bin {op : Operator} {r : R2} {f : PyData → PyData → Option Res} {ok : PyData → PyData → Prop} {d1 d2 : PyData} {res : Res} (ho : OpR X (binaryOp op) r) (hs : OpS r f ok)
    (ha : SE X a env μ s1 μ1) (hb : SE X b env μ1 s2 μ2) (v1 : Sy.view μ2 s1 = some d1) (v2 : Sy.view μ2 s2 = some d2)
    (hf : f d1 d2 = some res) (hk : ok d1 d2) (fin : Fi res μ2 sv μ') : SE X (.BinOp a op b pos) env μ sv μ' :=
  PE.imp (pe_op ho ha hb) (two_run hs rfl rfl v1 v2 hf hk fin)
theorem se_cmp {op : CmpOp} {r : R2} {f : PyData → PyData → Option Res} {ok : PyData → PyData → Prop} {d1 d2 : PyData} {res : Res} (ho : OpR X (compareOp op) r) (hs : OpS r f ok) (hm : behindInMarks op b = false)
    (ha : SE X a env μ s1 μ1) (hb : SE X b env μ1 s2 μ2) (v1 : Sy.view μ2 s1 = some d1) (v2 : Sy.view μ2 s2 = some d2)
    (hf : f d1 d2 = some res) (hk : ok d1 d2) (fin : Fi res μ2 sv μ') : SE X (.Compare a [op] [b] pos) env μ sv μ' :=
  PE.imp (pe_cmpR ho ha hb hm) (two_run hs rfl rfl v1 v2 hf hk fin)
theorem st_cmp {op : CmpOp} {r : R2} {f : PyData → PyData → Option Res} {ok : PyData → PyData → Prop} {d1 d2 : PyData} {q : Bool} (ho : OpR X (compareOp op) r) (hs : OpS r f ok) (hm : behindInMarks op b = false)
    (ha : SE X a env μ s1 μ1) (hb : SE X b env μ1 s2 μ2) (v1 : Sy.view μ2 s1 = some d1) (v2 : Sy.view μ2 s2 = some d2)
    (hf : f d1 d2 = some (.val (.bool q))) (hk : ok d1 d2) : ST X (.Compare a [op] [b] pos) env μ q μ2 := by
  refine PT.imp (pt_cmpR ho ha hb hm) fun σ H Q ⟨F, as, he, W, k⟩ => ?_
  refine two_run hs rfl rfl v1 v2 hf hk (Fi.val (d := .bool q) (μ := μ2)) σ H _ ⟨F, as, he, W, fun v F' H' as' g W' r => ?_⟩
  cases r
  exact ⟨q, rfl, k F' H' as' g W'⟩
theorem se_ix {r : R2} {f : PyData → PyData → Option Res} {ok : PyData → PyData → Prop} {d1 d2 : PyData} {res : Res} (ho : IxR X r) (hs : OpS r f ok) (hp : PlainIx b)
    (ha : SE X a env μ s1 μ1) (hb : SE X b env μ1 s2 μ2) (v1 : Sy.view μ2 s1 = some d1) (v2 : Sy.view μ2 s2 = some d2)
    (hf : f d1 d2 = some res) (hk : ok d1 d2) (fin : Fi res μ2 sv μ') : SE X (.Subscript a b pos) env μ sv μ' :=
  PE.imp (pe_ix ho ha hb hp) (two_run hs rfl rfl v1 v2 hf hk fin)
def UnS (r : V → Hp → VK → Prop) (f : PyData → Option Res) (ok : PyData → Prop) : Prop :=
  ∀ (F H : Hp) (x : V) (d1 : PyData) (res : Res) (Q : VK), Same F H → TD F H x d1 → f d1 = some res → ok d1 → ResK F H Q res → r x H Q
theorem se_un {op : UnaryOp} {r : V → Hp → VK → Prop} {f : PyData → Option Res} {ok : PyData → Prop} {d1 : PyData} {res : Res} (ho : UnR X (unaryOp op) r) (hs : UnS r f ok)
    (ha : SE X a env μ s1 μ1) (v1 : Sy.view μ1 s1 = some d1) (hf : f d1 = some res) (hk : ok d1) (fin : Fi res μ1 sv μ') : SE X (.UnaryOp op a pos) env μ sv μ' := by
  refine PE.imp (pe_un ho ha) fun σ H Q ⟨F, as, he, W, k⟩ => ⟨F, as, he, W, fun x F1 H1 as1 g1 W1 r1 => ?_⟩
  refine hs F1 H1 x d1 res Q W1.sub (W1.view r1 v1) hf hk ?_
  exact fin.run W1 fun v F3 H3 as3 g3 W3 r3 => k v F3 H3 as3 (g1.trans g3) W3 r3

/-! ### arguments, calls of built-ins by data -/
theorem sa_nil : SA X [] env μ [] μ := PA.imp pa_nil fun σ H Q ⟨F, as, he, W, k⟩ => k [] F H as (Go.refl F H as) W .nil
theorem sa_cons {svs : List SV} (he : SE X e env μ sv μ1) (ht : SA X es env μ1 svs μ2) (hs : starEach (e :: es) X.env = (false, eval e X.env) :: starEach es X.env := by rfl) : SA X (e :: es) env μ (sv :: svs) μ2 := by
  refine PA.imp (pa_cons he ht hs) fun σ H Q ⟨F, as, hE, W, k⟩ => ?_
  refine ⟨F, as, hE, W, fun x F1 H1 as1 g1 W1 r1 => ⟨F1, as1, hE.mono g1, W1, fun xs F2 H2 as2 g2 W2 r2 => ?_⟩⟩
  exact k _ F2 H2 as2 (g1.trans g2) W2 (.cons (RSV.mono g2 r1) r2)
def viewAll (μ : Mu) : List SV → Option (List PyData)
  | [] => some []
  | s :: r => (Sy.view μ s).bind fun d => (viewAll μ r).bind fun ds => some (d :: ds)
abbrev TDs (F H : Hp) : List V → List PyData → Prop := Paired (TD F H)
theorem Wd.views {F H : Hp} {as : List Addr} {μ : Mu} (W : Wd F H as μ) : ∀ {svs : List SV} {vs : List V} {ds : List PyData}, RAll F as svs vs → viewAll μ svs = some ds → TDs F H vs ds
  | [], _, _, .nil, h => by
    obtain rfl := Option.some.inj h
    exact .nil
  | s :: r, _, _, .cons h1 h2, h => by
    unfold viewAll at h
    cases e1 : Sy.view μ s with
    | none => rw [e1] at h; exact nomatch h
    | some d =>
      cases e2 : viewAll μ r with
      | none => rw [e1, e2] at h; exact nomatch h
      | some ds =>
        rw [e1, e2] at h
        obtain rfl := Option.some.inj h
        exact .cons (W.view h1 e1) (W.views h2 e2)
def CaS (r : List V → Hp → VK → Prop) (f : List PyData → Option Res) (ok : List PyData → Prop) : Prop :=
  ∀ (F H : Hp) (xs : List V) (ds : List PyData) (res : Res) (Q : VK), Same F H → TDs F H xs ds → f ds = some res → ok ds → ResK F H Q res → r xs H Q
theorem call_run {t : TA} {r : List V → Hp → VK → Prop} {f : List PyData → Option Res} {ok : List PyData → Prop} {ds : List PyData} {res : Res} {svs : List SV} (hs : CaS r f ok) (ht : t = rdA env μ svs μ1)
    (v1 : viewAll μ1 svs = some ds) (hf : f ds = some res) (hk : ok ds) (fin : Fi res μ1 sv μ') : ∀ σ H Q, rdE env μ sv μ' σ H Q → tCB r t σ H Q := by
  subst ht
  intro σ H Q ⟨F, as, he, W, k⟩
  refine ⟨F, as, he, W, fun xs F1 H1 as1 g1 W1 r1 => ?_⟩
  refine hs F1 H1 xs ds res Q W1.sub (W1.views r1 v1) hf hk ?_
  exact fin.run W1 fun v F3 H3 as3 g3 W3 r3 => k v F3 H3 as3 (g1.trans g3) W3 r3
theorem se_callB {id : String} {r : List V → Hp → VK → Prop} {f : List PyData → Option Res} {ok : List PyData → Prop} {ds : List PyData} {res : Res} {svs : List SV} (hc : CallR X (.builtin id) r) (hs : CaS r f ok)
    (hm : X.mg x = none) (hv : bootBuiltins x = some (.builtin id)) (ha : SA X (e :: es) env μ svs μ1) (v1 : viewAll μ1 svs = some ds) (hf : f ds = some res) (hk : ok ds) (fin : Fi res μ1 sv μ')
    (hg : Gl X x := by rfl) (hn : x ≠ "__name__" := by decide) (hdb : (x == ("__debug__" : Str)) = false := by decide)
    (he : starEach (e :: es) X.env = (false, eval e X.env) :: starEach es X.env := by rfl) (hpl : (backTo pos (starEach es X.env)).any (·.1) = false := by rfl) : SE X (.Call (.Name x p0) (e :: es) [] pos) env μ sv μ' :=
  PE.imp (pe_callB hc hg hm hv ha hn hdb he hpl) (call_run hs rfl v1 hf hk fin)
theorem se_callTy {T : String} {r : List V → Hp → VK → Prop} {f : List PyData → Option Res} {ok : List PyData → Prop} {ds : List PyData} {res : Res} {svs : List SV} (hc : CallR X (.type T) r) (hs : CaS r f ok)
    (hm : X.mg x = none) (hv : bootBuiltins x = some (.type T)) (ha : SA X (e :: es) env μ svs μ1) (v1 : viewAll μ1 svs = some ds) (hf : f ds = some res) (hk : ok ds) (fin : Fi res μ1 sv μ')
    (hg : Gl X x := by rfl) (hn : x ≠ "__name__" := by decide) (hdb : (x == ("__debug__" : Str)) = false := by decide)
    (he : starEach (e :: es) X.env = (false, eval e X.env) :: starEach es X.env := by rfl) (hpl : (backTo pos (starEach es X.env)).any (·.1) = false := by rfl) : SE X (.Call (.Name x p0) (e :: es) [] pos) env μ sv μ' :=
  PE.imp (pe_callTy hc hg hm hv ha hn hdb he hpl) (call_run hs rfl v1 hf hk fin)

/-! ### displays -/
theorem RAll.dvs {F H : Hp} {as : List Addr} : ∀ {ds : List PyData} {vs : List V}, RAll F as (ds.map SV.dat) vs → DVs F vs ds
  | [], _, .nil => .nil
  | _ :: _, _, .cons h t => .cons h (RAll.dvs (H := H) t)
def datsOf : List SV → Option (List PyData)
  | [] => some []
  | .dat d :: r => match datsOf r with
    | some ds => some (d :: ds)
    | none => none
  | .cell _ :: _ => none
theorem datsOf_eq : ∀ {svs : List SV} {ds : List PyData}, datsOf svs = some ds → svs = ds.map SV.dat
  | [], ds, h => by obtain rfl := Option.some.inj h; rfl
  | .dat d :: r, ds, h => by
    cases e : datsOf r with
    | none => simp only [datsOf, e] at h; exact nomatch h
    | some es =>
      simp only [datsOf, e] at h
      obtain rfl : d :: es = ds := Option.some.inj h
      rw [datsOf_eq e]
      rfl
  | .cell _ :: _, ds, h => nomatch h
theorem se_list {ds : List PyData} {svs : List SV} (ha : SA X es env μ svs μ1) (hd : svs = ds.map SV.dat) (hz : ds.length ≤ sizeLine) (fin : Fi (.newL ds) μ1 sv μ') : SE X (.List es pos) env μ sv μ' := by
  subst hd
  refine PE.imp (pe_lst ha) fun σ H Q ⟨F, as, he, W, k⟩ => ⟨F, as, he, W, fun xs F1 H1 as1 g1 W1 r1 => ?_⟩
  have dv := RAll.dvs (H := H1) r1
  exact ⟨by rw [dv.length]; exact hz, fun p np => fin.run W1 (fun v F3 H3 as3 g3 W3 r3 => k v F3 H3 as3 (g1.trans g3) W3 r3) p xs np dv⟩
theorem se_tuple {ds : List PyData} {svs : List SV} {j : Nat} (ha : SA X es env μ svs μ1) (hd : svs = ds.map SV.dat) (hz : ds.length ≤ sizeLine) : SE X (.Tuple es j pos) env μ (.dat (.tuple ds)) μ1 := by
  subst hd
  refine PE.imp (pe_tup ha) fun σ H Q ⟨F, as, he, W, k⟩ => ⟨F, as, he, W, fun xs F1 H1 as1 g1 W1 r1 => ?_⟩
  have dv := RAll.dvs (H := H1) r1
  exact ⟨by rw [dv.length]; exact hz, fun p np => (Fi.tup.run W1 fun v F3 H3 as3 g3 W3 r3 => k v F3 H3 as3 (g1.trans g3) W3 r3).2 p xs np dv⟩

/-! ### tests and boolean values -/
def SW (X : Cx) (e : Expr) (env : En) (μ : Mu) (b : Bool) (μ' : Mu) : Prop := PW X e (rdT env μ b μ')
theorem SW.st {q : Bool} (h : SW X e env μ q μ') : ST X e env μ q μ' := PW.pt h
theorem pt_when {P : Prop} {t : TT} (h : P → PT X e t) : PT X e (fun σ H Q => P ∧ t σ H Q) := ⟨fun pins s σ H Q I q => (h q.1).run pins s σ H Q I q.2⟩
theorem pw_when {P : Prop} {t : TT} (h : P → PW X e t) : PW X e (fun σ H Q => P ∧ t σ H Q) := ⟨fun wh pins s σ H Q I q => (h q.1).run wh pins s σ H Q I q.2⟩
theorem pe_when {P : Prop} {t : TE} (h : P → PE X e t) : PE X e (fun σ H Q => P ∧ t σ H Q) := ⟨fun pins s σ H Q I q => (h q.1).run pins s σ H Q I q.2⟩
theorem pw_imp {t t' : TT} (h : PW X e t) (i : ∀ σ H Q, t' σ H Q → t σ H Q) : PW X e t' := ⟨fun wh pins s σ H Q I q => h.run wh pins s σ H Q I (i σ H Q q)⟩
theorem sw_and1 {q : Bool} (h : ST X a env μ q μ') : SW X (.BoolOp .And [a] pos) env μ q μ' := pw_and1 h
theorem sw_or1 {q : Bool} (h : ST X a env μ q μ') : SW X (.BoolOp .Or [a] pos) env μ q μ' := pw_or1 h
theorem sw_and {q1 q2 : Bool} (ha : ST X a env μ q1 μ1) (hb : q1 = true → SW X (.BoolOp .And (b :: es) pos) env μ1 q2 μ2) (hm : (if q1 = true then μ2 else μ1) = μ' := by exact ite_self _) :
    SW X (.BoolOp .And (a :: b :: es) pos) env μ (q1 && q2) μ' := by
  refine pw_imp (pw_and ha (pw_when hb)) fun σ H Q ⟨F, as, he, W, k⟩ => ⟨F, as, he, W, fun F1 H1 as1 g1 W1 => ?_⟩
  cases q1 with
  | true =>
    subst hm
    exact ⟨rfl, F1, as1, he.mono g1, W1, fun F2 H2 as2 g2 W2 => k F2 H2 as2 (g1.trans g2) W2⟩
  | false => subst hm; exact k F1 H1 as1 g1 W1
theorem sw_or {q1 q2 : Bool} (ha : ST X a env μ q1 μ1) (hb : q1 = false → SW X (.BoolOp .Or (b :: es) pos) env μ1 q2 μ2) (hm : (if q1 = true then μ1 else μ2) = μ' := by exact ite_self _) :
    SW X (.BoolOp .Or (a :: b :: es) pos) env μ (q1 || q2) μ' := by
  refine pw_imp (pw_or ha (pw_when hb)) fun σ H Q ⟨F, as, he, W, k⟩ => ⟨F, as, he, W, fun F1 H1 as1 g1 W1 => ?_⟩
  cases q1 with
  | false =>
    subst hm
    exact ⟨rfl, F1, as1, he.mono g1, W1, fun F2 H2 as2 g2 W2 => k F2 H2 as2 (g1.trans g2) W2⟩
  | true => subst hm; exact k F1 H1 as1 g1 W1
theorem st_not {q : Bool} (h : ST X a env μ q μ') : ST X (.UnaryOp .Not a pos) env μ (!q) μ' :=
  PT.imp (pt_not h) fun σ H Q ⟨F, as, he, W, k⟩ => ⟨F, as, he, W, fun F1 H1 as1 g1 W1 => k F1 H1 as1 g1 W1⟩
theorem st_val {q : Bool} (h : SE X e env μ (.dat (.bool q)) μ') (hp : ∀ whole, isTrue e X.env whole = (do let v ← whole; standAt e.pos; holding [v] (truthy v)) := by intro _; rfl) : ST X e env μ q μ' :=
  PT.imp (pt_val h hp) fun σ H Q ⟨F, as, he, W, k⟩ => ⟨F, as, he, W, fun v F1 H1 as1 g1 W1 r1 => by
    cases r1
    exact ⟨q, rfl, k F1 H1 as1 g1 W1⟩⟩
theorem se_and1 {q : SV} {op : BoolOp} (h : SE X a env μ q μ') : SE X (.BoolOp op [a] pos) env μ q μ' := pe_one h
theorem se_and {q1 q2 : Bool} (ha : SE X a env μ (.dat (.bool q1)) μ1) (hb : q1 = true → SE X (.BoolOp .And (b :: es) pos) env μ1 (.dat (.bool q2)) μ2) (hm : (if q1 = true then μ2 else μ1) = μ' := by exact ite_self _) :
    SE X (.BoolOp .And (a :: b :: es) pos) env μ (.dat (.bool (q1 && q2))) μ' := by
  refine PE.imp (pe_and ha (pe_when hb)) fun σ H Q ⟨F, as, he, W, k⟩ => ⟨F, as, he, W, fun v F1 H1 as1 g1 W1 r1 => ?_⟩
  cases r1
  refine ⟨q1, rfl, ?_⟩
  cases q1 with
  | true =>
    subst hm
    exact ⟨rfl, F1, as1, he.mono g1, W1, fun v F2 H2 as2 g2 W2 r2 => k v F2 H2 as2 (g1.trans g2) W2 r2⟩
  | false => subst hm; exact k _ F1 H1 as1 g1 W1 (.bl false)
theorem se_or {q1 q2 : Bool} (ha : SE X a env μ (.dat (.bool q1)) μ1) (hb : q1 = false → SE X (.BoolOp .Or (b :: es) pos) env μ1 (.dat (.bool q2)) μ2) (hm : (if q1 = true then μ1 else μ2) = μ' := by exact ite_self _) :
    SE X (.BoolOp .Or (a :: b :: es) pos) env μ (.dat (.bool (q1 || q2))) μ' := by
  refine PE.imp (pe_or ha (pe_when hb)) fun σ H Q ⟨F, as, he, W, k⟩ => ⟨F, as, he, W, fun v F1 H1 as1 g1 W1 r1 => ?_⟩
  cases r1
  refine ⟨q1, rfl, ?_⟩
  cases q1 with
  | false =>
    subst hm
    exact ⟨rfl, F1, as1, he.mono g1, W1, fun v F2 H2 as2 g2 W2 r2 => k v F2 H2 as2 (g1.trans g2) W2 r2⟩
  | true => subst hm; exact k _ F1 H1 as1 g1 W1 (.bl true)
theorem se_notB {q : Bool} (h : SE X a env μ (.dat (.bool q)) μ') : SE X (.UnaryOp .Not a pos) env μ (.dat (.bool (!q))) μ' :=
  PE.imp (pe_not h) fun σ H Q ⟨F, as, he, W, k⟩ => ⟨F, as, he, W, fun v F1 H1 as1 g1 W1 r1 => by
    cases r1
    exact ⟨q, rfl, k _ F1 H1 as1 g1 W1 (.bl _)⟩⟩
/-- a if c else b -/
theorem se_if {q : Bool} (hc : ST X c env μ q μ1) (ha : q = true → SE X a env μ1 sv μ') (hb : q = false → SE X b env μ1 sv μ') : SE X (.IfExp c a b pos) env μ sv μ' := by
  refine PE.imp (pe_ifExp hc (pe_when ha) (pe_when hb)) fun σ H Q ⟨F, as, he, W, k⟩ => ⟨F, as, he, W, fun F1 H1 as1 g1 W1 => ?_⟩
  cases q with
  | true => exact ⟨rfl, F1, as1, he.mono g1, W1, fun v F2 H2 as2 g2 W2 r2 => k v F2 H2 as2 (g1.trans g2) W2 r2⟩
  | false => exact ⟨rfl, F1, as1, he.mono g1, W1, fun v F2 H2 as2 g2 W2 r2 => k v F2 H2 as2 (g1.trans g2) W2 r2⟩
end
end Sy

/-! Sy3: the operators on data. -/
namespace Sy
open PySem PySem.Spec PyProof.Rows L2

mutual
theorem DV.dp (K : PySem.W.Frag) {H : Hp} {v : V} {d : PyData} (h : DV H v d) (c : d.canLay0 = true) : Dp K H v d := by
  cases h with
  | non => exact .non
  | bl b => exact .bl b
  | int i => exact .int i
  | str x => exact .str x
  | lst h1 h2 => exact .lst (.inl (.inl h1)) (DVs.dp K h2 (by simpa [PyData.canLay0] using c))
  | tup h1 h2 => exact .tup (.inl (.inl h1)) (DVs.dp K h2 (by simpa [PyData.canLay0] using c))
  | dct0 h1 => simp [PyData.canLay0] at c
theorem DVs.dp (K : PySem.W.Frag) {H : Hp} {vs : List V} {ds : List PyData} (h : DVs H vs ds) (c : PyData.canLayAll0 ds = true) : DpAll K H vs ds := by
  cases h with
  | nil => exact .nil
  | cons h1 h2 =>
    simp only [PyData.canLayAll0, Bool.and_eq_true] at c
    exact .cons (DV.dp K h1 c.1) (DVs.dp K h2 c.2)
end
mutual
theorem DV.dpn (K : PySem.W.Frag) {H : Hp} {v : V} {d : PyData} (h : DV H v d) (c : d.hasDict = false) : Dp K H v d := by
  cases h with
  | non => exact .non
  | bl b => exact .bl b
  | int i => exact .int i
  | str x => exact .str x
  | lst h1 h2 => exact .lst (.inl (.inl h1)) (DVs.dpn K h2 (by simpa [PyData.hasDict] using c))
  | tup h1 h2 => exact .tup (.inl (.inl h1)) (DVs.dpn K h2 (by simpa [PyData.hasDict] using c))
  | dct0 h1 => simp [PyData.hasDict] at c
theorem DVs.dpn (K : PySem.W.Frag) {H : Hp} {vs : List V} {ds : List PyData} (h : DVs H vs ds) (c : PyData.hasDictAll ds = false) : DpAll K H vs ds := by
  cases h with
  | nil => exact .nil
  | cons h1 h2 =>
    simp only [PyData.hasDictAll, Bool.or_eq_false_iff] at c
    exact .cons (DV.dpn K h1 c.1) (DVs.dpn K h2 c.2)
end

section
variable {X : Cx}
/-! ### + -/
def addD : PyData → PyData → Option Res
  | .int a, .int b => some (.val (.int (a + b)))
  | .str a, .str b => some (.val (.str (a ++ b)))
  | .list a, .list b => some (.newL (a ++ b))
  | .tuple a, .tuple b => some (.newT (a ++ b))
  | _, _ => none
@[reducible] def addOk : PyData → PyData → Prop
  | .str a, .str b => a.length + b.length ≤ sizeLine
  | .list a, .list b => a.length + b.length ≤ sizeLine
  | .tuple a, .tuple b => a.length + b.length ≤ sizeLine
  | _, _ => True
def rStrCat : R2 := fun x y H Q => ∃ i j, x = .str i ∧ y = .str j ∧ i.length + j.length ≤ sizeLine ∧ Q (.str (i ++ j)) H
def rAddA (K : PySem.W.Frag) : R2 := fun x y H Q => (rI0 (fun i j => .int (i + j)) x y H Q ∨ rStrCat x y H Q) ∨ rCat x y H Q ∨ rCatA K x y H Q
theorem op_addA : OpR X (binaryOp .Add) (rAddA X.K) := (op_add.or op_add_str).or (op_cat.or op_catA)
theorem os_add {K : PySem.W.Frag} : OpS (rAddA K) addD addOk := by
  intro F H x y d1 d2 res Q s h1 h2 hf hk k
  cases d1 <;> cases d2 <;> simp only [addD, reduceCtorEq, Option.some.injEq] at hf <;> subst hf
  · cases h1; cases h2
    exact .inl (.inl ⟨_, _, rfl, rfl, k _ (.int _)⟩)
  · cases h1; cases h2
    exact .inl (.inr ⟨_, _, rfl, rfl, hk, k _ (.str _)⟩)
  · obtain ⟨a, vs, rfl, e1, q1⟩ := h1
    obtain ⟨b, ws, rfl, e2, q2⟩ := h2
    exact .inr (.inl ⟨a, b, vs, ws, rfl, rfl, e1, e2, by rw [q1.length, q2.length]; exact hk, fun p np => k p _ np (q1.append q2)⟩)
  · cases h1 with
    | tup e1 q1 =>
      cases h2 with
      | tup e2 q2 =>
        refine .inr (.inr ⟨_, _, _, _, rfl, rfl, .inl (.inl (s _ _ e1)), .inl (.inl (s _ _ e2)), by rw [q1.length, q2.length]; exact hk, fun z => ?_, fun _ z => ?_, fun _ _ p np => k.2 p _ np (q1.append q2)⟩)
        · subst z
          cases q1
          exact k.1 _ (.tup e2 q2)
        · subst z
          cases q2
          rw [List.append_nil] at k
          exact k.1 _ (.tup e1 q1)
/-! ### -, //, %, ** -/
def subD : PyData → PyData → Option Res
  | .int a, .int b => some (.val (.int (a - b)))
  | _, _ => none
@[reducible] def noOk : PyData → PyData → Prop := fun _ _ => True
theorem os_sub : OpS (rI0 fun i j => .int (i - j)) subD noOk := by
  intro F H x y d1 d2 res Q s h1 h2 hf hk k
  cases d1 <;> cases d2 <;> simp only [subD, reduceCtorEq, Option.some.injEq] at hf <;> subst hf
  cases h1; cases h2
  exact ⟨_, _, rfl, rfl, k _ (.int _)⟩
def fdivD : PyData → PyData → Option Res
  | .int a, .int b => some (.val (.int (a / b)))
  | _, _ => none
@[reducible] def fdivOk : PyData → PyData → Prop
  | .int _, .int b => 0 < b ∧ b < 1073741824
  | _, _ => True
theorem os_fdiv : OpS (rI CDiv fun i j => .int (i / j)) fdivD fdivOk := by
  intro F H x y d1 d2 res Q s h1 h2 hf hk k
  cases d1 <;> cases d2 <;> simp only [fdivD, reduceCtorEq, Option.some.injEq] at hf <;> subst hf
  cases h1; cases h2
  exact ⟨_, _, rfl, rfl, hk, k _ (.int _)⟩
def modD : PyData → PyData → Option Res
  | .int a, .int b => some (.val (.int (a % b)))
  | _, _ => none
@[reducible] def modOk : PyData → PyData → Prop
  | .int _, .int b => 0 < b
  | _, _ => True
theorem os_mod : OpS (rI (fun _ j => 0 < j) fun i j => .int (i % j)) modD modOk := by
  intro F H x y d1 d2 res Q s h1 h2 hf hk k
  cases d1 <;> cases d2 <;> simp only [modD, reduceCtorEq, Option.some.injEq] at hf <;> subst hf
  cases h1; cases h2
  exact ⟨_, _, rfl, rfl, hk, k _ (.int _)⟩
def powD : PyData → PyData → Option Res
  | .int a, .int b => some (.val (.int (a ^ b.toNat)))
  | _, _ => none
@[reducible] def powOk : PyData → PyData → Prop
  | .int a, .int b => 0 ≤ b ∧ b ≤ 1000000 ∧ a.natAbs < 2 ^ 64
  | _, _ => True
theorem os_pow : OpS (rI CPow fun i j => .int (i ^ j.toNat)) powD powOk := by
  intro F H x y d1 d2 res Q s h1 h2 hf hk k
  cases d1 <;> cases d2 <;> simp only [powD, reduceCtorEq, Option.some.injEq] at hf <;> subst hf
  cases h1; cases h2
  exact ⟨_, _, rfl, rfl, hk, k _ (.int _)⟩
/-! ### * -/
def rMulS : R2 := fun x y H Q => ∃ a n, x = .str a ∧ y = .int n ∧ PySem.MulOk a n ∧ Q (.str (PySem.Txt.mul a n)) H
theorem op_mulS : OpR X (binaryOp .Mult) rMulS := by
  intro pins s σ H x y v u Q I rx ry h
  obtain ⟨a, n, rfl, rfl, hok, q⟩ := h
  obtain ⟨t, rfl⟩ := rx
  obtain ⟨t', rfl⟩ := ry
  exact PySem.SB.mul hok fun t2 k => ⟨.str _, H, I.tok _, ⟨t2, rfl⟩, q⟩
def mulD : PyData → PyData → Option Res
  | .int a, .int b => some (.val (.int (a * b)))
  | .str a, .int n => some (.val (.str (PySem.Txt.mul a n)))
  | .list a, .int n => some (.newL (List.replicate n.toNat a).flatten)
  | _, _ => none
@[reducible] def mulOk : PyData → PyData → Prop
  | .int a, .int b => CMul a b
  | .str a, .int n => PySem.MulOk a n
  | .list a, .int n => -(2 ^ 63) ≤ n ∧ n < 2 ^ 63 ∧ a.length * n.toNat ≤ sizeLine
  | _, _ => True
def rMulA : R2 := fun x y H Q => rI CMul (fun i j => .int (i * j)) x y H Q ∨ rMulS x y H Q ∨ rRep x y H Q
theorem op_mulA : OpR X (binaryOp .Mult) rMulA := op_mul.or (op_mulS.or op_rep)
theorem os_mul : OpS rMulA mulD mulOk := by
  intro F H x y d1 d2 res Q s h1 h2 hf hk k
  cases d1 <;> cases d2 <;> simp only [mulD, reduceCtorEq, Option.some.injEq] at hf <;> subst hf
  · cases h1; cases h2
    exact .inl ⟨_, _, rfl, rfl, hk, k _ (.int _)⟩
  · cases h1; cases h2
    exact .inr (.inl ⟨_, _, rfl, rfl, hk, k _ (.str _)⟩)
  · obtain ⟨a, vs, rfl, e1, q1⟩ := h1
    cases h2
    obtain ⟨z1, z2, z3⟩ := hk
    exact .inr (.inr ⟨a, _, vs, rfl, rfl, e1, z1, z2, by rw [q1.length]; exact z3, fun p np => k p _ np (q1.rep _)⟩)

/-! ### comparisons -/
def eqD (d e : PyData) : Option Res := some (.val (.bool (PyData.eqv d e)))
def neD (d e : PyData) : Option Res := some (.val (.bool (!PyData.eqv d e)))
@[reducible] def eqOk (d e : PyData) : Prop := SeqAt.shaped d = true ∧ SeqAt.shaped e = true
theorem lay_of {d : PyData} (h : SeqAt.shaped d = true) : d.canLay0 = true := by
  unfold SeqAt.shaped at h
  simp only [Bool.and_eq_true] at h
  exact h.1
theorem os_eq {K : PySem.W.Frag} : OpS (rEqD K) eqD eqOk := by
  intro F H x y d1 d2 res Q s h1 h2 hf hk k
  obtain rfl := Option.some.inj hf
  exact ⟨d1, d2, (h1.dv s).dp K (lay_of hk.1), (h2.dv s).dp K (lay_of hk.2), hk.1, hk.2, k _ (.bl _)⟩
theorem os_ne {K : PySem.W.Frag} : OpS (rNeD K) neD eqOk := by
  intro F H x y d1 d2 res Q s h1 h2 hf hk k
  obtain rfl := Option.some.inj hf
  exact ⟨d1, d2, (h1.dv s).dp K (lay_of hk.1), (h2.dv s).dp K (lay_of hk.2), hk.1, hk.2, k _ (.bl _)⟩
def ltD : PyData → PyData → Option Res
  | .int a, .int b => some (.val (.bool (decide (a < b))))
  | _, _ => none
def leD : PyData → PyData → Option Res
  | .int a, .int b => some (.val (.bool (decide (a ≤ b))))
  | _, _ => none
def gtD : PyData → PyData → Option Res
  | .int a, .int b => some (.val (.bool (decide (b < a))))
  | _, _ => none
def geD : PyData → PyData → Option Res
  | .int a, .int b => some (.val (.bool (decide (b ≤ a))))
  | _, _ => none
theorem os_lt : OpS (rI0 fun i j => .bl (decide (i < j))) ltD noOk := by
  intro F H x y d1 d2 res Q s h1 h2 hf hk k
  cases d1 <;> cases d2 <;> simp only [ltD, reduceCtorEq, Option.some.injEq] at hf <;> subst hf
  cases h1; cases h2
  exact ⟨_, _, rfl, rfl, k _ (.bl _)⟩
theorem os_le : OpS (rI0 fun i j => .bl (decide (i ≤ j))) leD noOk := by
  intro F H x y d1 d2 res Q s h1 h2 hf hk k
  cases d1 <;> cases d2 <;> simp only [leD, reduceCtorEq, Option.some.injEq] at hf <;> subst hf
  cases h1; cases h2
  exact ⟨_, _, rfl, rfl, k _ (.bl _)⟩
theorem os_gt : OpS (rI0 fun i j => .bl (decide (j < i))) gtD noOk := by
  intro F H x y d1 d2 res Q s h1 h2 hf hk k
  cases d1 <;> cases d2 <;> simp only [gtD, reduceCtorEq, Option.some.injEq] at hf <;> subst hf
  cases h1; cases h2
  exact ⟨_, _, rfl, rfl, k _ (.bl _)⟩
theorem os_ge : OpS (rI0 fun i j => .bl (decide (j ≤ i))) geD noOk := by
  intro F H x y d1 d2 res Q s h1 h2 hf hk k
  cases d1 <;> cases d2 <;> simp only [geD, reduceCtorEq, Option.some.injEq] at hf <;> subst hf
  cases h1; cases h2
  exact ⟨_, _, rfl, rfl, k _ (.bl _)⟩
def isNone : PyData → Bool
  | .none => true
  | _ => false
def isD : PyData → PyData → Option Res
  | d, .none => some (.val (.bool (isNone d)))
  | _, _ => none
def isntD : PyData → PyData → Option Res
  | d, .none => some (.val (.bool (!isNone d)))
  | _, _ => none
theorem isNone_v {F H : Hp} {v : V} {d : PyData} (h : TD F H v d) : decide (v = .non) = isNone d := by
  cases d with
  | list ds => obtain ⟨a, vs, rfl, _⟩ := h; rfl
  | none => cases h; rfl
  | bool b => cases h; rfl
  | int b => cases h; rfl
  | str b => cases h; rfl
  | tuple b => cases h; rfl
  | dict b => cases h; rfl
def rIsA : R2 := fun x y H Q => y = .non ∧ Q (.bl (decide (x = .non))) H
def rIsntA : R2 := fun x y H Q => y = .non ∧ Q (.bl (!decide (x = .non))) H
theorem os_is : OpS rIsA isD noOk := by
  intro F H x y d1 d2 res Q s h1 h2 hf hk k
  cases d2 <;> simp only [isD, reduceCtorEq, Option.some.injEq] at hf <;> subst hf
  cases h2
  exact ⟨rfl, k _ (by rw [isNone_v h1]; exact .bl _)⟩
theorem os_isnt : OpS rIsntA isntD noOk := by
  intro F H x y d1 d2 res Q s h1 h2 hf hk k
  cases d2 <;> simp only [isntD, reduceCtorEq, Option.some.injEq] at hf <;> subst hf
  cases h2
  exact ⟨rfl, k _ (by rw [isNone_v h1]; exact .bl _)⟩
/-! ### subscripts -/
def ixD : PyData → PyData → Option Res
  | .list ds, .int i => (atI ds i).map Res.val
  | .tuple ds, .int i => (atI ds i).map Res.val
  | .str z, .int i => (atI z.cps.toList i).map fun c => .val (.str ⟨#[c]⟩)
  | _, _ => none
@[reducible] def ixOk : PyData → PyData → Prop
  | .str z, .int _ => z.length ≤ sizeLine
  | _, _ => True
theorem atI_dv {F : Hp} {vs : List V} {ds : List PyData} {i : Int} {d : PyData} (h : DVs F vs ds) (e : atI ds i = some d) : ∃ v, atI vs i = some v ∧ DV F v d := by
  unfold atI at e ⊢
  rw [h.length]
  cases hi : ixN ds.length i with
  | none => rw [hi] at e; exact nomatch e
  | some j => rw [hi] at e; exact h.get e
theorem os_ix {K : PySem.W.Frag} : OpS (rIx K) ixD ixOk := by
  intro F H x y d1 d2 res Q s h1 h2 hf hk k
  cases d1 <;> cases d2 <;> simp only [ixD, reduceCtorEq] at hf
  · rename_i z i
    cases e : atI z.cps.toList i with
    | none => rw [e] at hf; exact nomatch hf
    | some c =>
      rw [e] at hf
      obtain rfl := Option.some.inj hf
      cases h1; cases h2
      exact .inr (.inr ⟨_, _, c, rfl, rfl, hk, e, k _ (.str _)⟩)
  · rename_i ds i
    cases e : atI ds i with
    | none => rw [e] at hf; exact nomatch hf
    | some c =>
      rw [e] at hf
      obtain rfl := Option.some.inj hf
      obtain ⟨a, vs, rfl, e1, q1⟩ := h1
      cases h2
      obtain ⟨v, hv, dv⟩ := atI_dv q1 e
      exact .inl ⟨a, vs, _, v, rfl, rfl, .inl (.inl e1), hv, k v dv⟩
  · rename_i ds i
    cases e : atI ds i with
    | none => rw [e] at hf; exact nomatch hf
    | some c =>
      rw [e] at hf
      obtain rfl := Option.some.inj hf
      cases h2
      cases h1 with
      | tup e1 q1 =>
        obtain ⟨v, hv, dv⟩ := atI_dv q1 e
        exact .inr (.inl ⟨_, _, _, v, rfl, rfl, .inl (.inl (s _ _ e1)), hv, k v dv⟩)
/-! ### built-in calls -/
def lenD : List PyData → Option Res
  | [.list ds] => some (.val (.int ds.length))
  | [.tuple ds] => some (.val (.int ds.length))
  | [.str z] => some (.val (.int z.length))
  | _ => none
@[reducible] def lenOk : List PyData → Prop
  | [.str z] => z.length ≤ sizeLine
  | _ => True
def rLenA (K : PySem.W.Frag) : List V → Hp → VK → Prop := fun xs H Q =>
  (∃ p ys, xs = [.ref p] ∧ (SqL K H p ys ∨ SqT K H p ys) ∧ Q (.int ys.length) H) ∨ ∃ z, xs = [.str z] ∧ z.length ≤ sizeLine ∧ Q (.int z.length) H
theorem cr_len : CallR X (.builtin "len") (rLenA X.K) := call_len_seq.or call_len_str
theorem tds1 {F H : Hp} {xs : List V} {d : PyData} (h : TDs F H xs [d]) : ∃ x, xs = [x] ∧ TD F H x d := by
  cases h with
  | cons h t => cases t; exact ⟨_, rfl, h⟩
theorem cs_len {K : PySem.W.Frag} : CaS (rLenA K) lenD lenOk := by
  intro F H xs ds res Q s h hf hk k
  match ds, hf with
  | [.list ds], hf =>
    obtain rfl := Option.some.inj hf
    obtain ⟨x, rfl, a, vs, rfl, e, q⟩ := tds1 h
    exact .inl ⟨a, vs, rfl, .inl (.inl (.inl e)), by rw [q.length]; exact k _ (.int _)⟩
  | [.tuple ds], hf =>
    obtain rfl := Option.some.inj hf
    obtain ⟨x, rfl, h'⟩ := tds1 h
    cases h' with
    | tup e q => exact .inl ⟨_, _, rfl, .inr (.inl (.inl (s _ _ e))), by rw [q.length]; exact k _ (.int _)⟩
  | [.str z], hf =>
    obtain rfl := Option.some.inj hf
    obtain ⟨x, rfl, h'⟩ := tds1 h
    cases h'
    exact .inr ⟨z, rfl, hk, k _ (.int _)⟩
def intD : List PyData → Option Res
  | [.int i] => some (.val (.int i))
  | [.bool b] => some (.val (.int (if b then 1 else 0)))
  | _ => none
@[reducible] def okAll : List PyData → Prop := fun _ => True
def rInt1 : List V → Hp → VK → Prop := fun xs H Q => (∃ i, xs = [.int i] ∧ Q (.int i) H) ∨ ∃ k, xs = [.bl k] ∧ Q (.int (if k then 1 else 0)) H
theorem cs_int : CaS rInt1 intD okAll := by
  intro F H xs ds res Q s h hf hk k
  match ds, hf with
  | [.int i], hf =>
    obtain rfl := Option.some.inj hf
    obtain ⟨x, rfl, h'⟩ := tds1 h
    cases h'
    exact .inl ⟨i, rfl, k _ (.int _)⟩
  | [.bool b], hf =>
    obtain rfl := Option.some.inj hf
    obtain ⟨x, rfl, h'⟩ := tds1 h
    cases h'
    exact .inr ⟨b, rfl, k _ (.int _)⟩
def absD : List PyData → Option Res
  | [.int i] => some (.val (.int (if i < 0 then -i else i)))
  | _ => none
def rAbs1 : List V → Hp → VK → Prop := fun xs H Q => ∃ i, xs = [.int i] ∧ Q (.int (if i < 0 then -i else i)) H
theorem cs_abs : CaS rAbs1 absD okAll := by
  intro F H xs ds res Q s h hf hk k
  match ds, hf with
  | [.int i], hf =>
    obtain rfl := Option.some.inj hf
    obtain ⟨x, rfl, h'⟩ := tds1 h
    cases h'
    exact ⟨i, rfl, k _ (.int _)⟩
def tupD : List PyData → Option Res
  | [.list ds] => some (.newT ds)
  | [.tuple ds] => some (.newT ds)
  | _ => none
def rTupOf (K : PySem.W.Frag) : List V → Hp → VK → Prop := fun xs H Q =>
  ∃ p ys, xs = [.ref p] ∧ ((SqL K H p ys ∧ ∀ l, H l = none → Q (.ref l) (upd H l (.tup ys))) ∨ (SqT K H p ys ∧ Q (.ref p) H))
theorem cs_tup {K : PySem.W.Frag} : CaS (rTupOf K) tupD okAll := by
  intro F H xs ds res Q s h hf hk k
  match ds, hf with
  | [.list ds], hf =>
    obtain rfl := Option.some.inj hf
    obtain ⟨x, rfl, a, vs, rfl, e, q⟩ := tds1 h
    exact ⟨a, vs, rfl, .inl ⟨.inl (.inl e), fun l hl => k.2 l vs hl q⟩⟩
  | [.tuple ds], hf =>
    obtain rfl := Option.some.inj hf
    obtain ⟨x, rfl, h'⟩ := tds1 h
    cases h' with
    | tup e q => exact ⟨_, _, rfl, .inr ⟨.inl (.inl (s _ _ e)), k.1 _ (.tup e q)⟩⟩
def lstD : List PyData → Option Res
  | [.list ds] => some (.newL ds)
  | [.tuple ds] => some (.newL ds)
  | _ => none
def rLstOf (K : PySem.W.Frag) : List V → Hp → VK → Prop := fun xs H Q =>
  ∃ p ys, xs = [.ref p] ∧ (SqL K H p ys ∨ SqT K H p ys) ∧ ∀ l, H l = none → Q (.ref l) (upd H l (.lst ys))
theorem cs_lst {K : PySem.W.Frag} : CaS (rLstOf K) lstD okAll := by
  intro F H xs ds res Q s h hf hk k
  match ds, hf with
  | [.list ds], hf =>
    obtain rfl := Option.some.inj hf
    obtain ⟨x, rfl, a, vs, rfl, e, q⟩ := tds1 h
    exact ⟨a, vs, rfl, .inl (.inl (.inl e)), fun l hl => k l vs hl q⟩
  | [.tuple ds], hf =>
    obtain rfl := Option.some.inj hf
    obtain ⟨x, rfl, h'⟩ := tds1 h
    cases h' with
    | tup e q => exact ⟨_, _, rfl, .inr (.inl (.inl (s _ _ e))), fun l hl => k l _ hl q⟩
def reprD : List PyData → Option Res
  | [d] => some (.val (.str d.shown))
  | _ => none
@[reducible] def reprOk : List PyData → Prop
  | [d] => d.showable = true ∧ d.hasDict = false ∧ d.depth ≤ 64 ∧ d.shown.length ≤ sizeLine
  | _ => True
theorem cs_repr {K : PySem.W.Frag} : CaS (Gd.rRepr K) reprD reprOk := by
  intro F H xs ds res Q s h hf hk k
  match ds, hf with
  | [d], hf =>
    obtain rfl := Option.some.inj hf
    obtain ⟨x, rfl, h'⟩ := tds1 h
    exact ⟨x, d, rfl, (h'.dv s).dpn K hk.2.1, hk.1, hk.2.1, hk.2.2.1, hk.2.2.2, k _ (.str _)⟩
/-! ### slices -/
def cutD (ds : List PyData) (lo hi : Option Int) : List PyData := (ds.drop (HT.sIx ds.length 0 lo)).take (HT.sIx ds.length ds.length hi - HT.sIx ds.length 0 lo)
theorem DVs.cut {F : Hp} {vs : List V} {ds : List PyData} (h : DVs F vs ds) (lo hi : Option Int) : DVs F (cutV vs lo hi) (cutD ds lo hi) := by
  unfold cutV cutD
  rw [h.length]
  exact (h.drop _).take _
def slD (d : PyData) (lo hi : Option Int) : Option Res := match d with
  | .list ds => some (.newL (cutD ds lo hi))
  | .tuple ds => some (.newT (cutD ds lo hi))
  | .str z => some (.val (.str (cutS z lo hi)))
  | _ => none
@[reducible] def slOk : PyData → Prop
  | .str z => z.length ≤ sizeLine
  | _ => True
def rSlAll (K : PySem.W.Frag) : V → Option Int → Option Int → Hp → VK → Prop := fun x lo hi H Q => rSlL K x lo hi H Q ∨ rSlA K x lo hi H Q ∨ rSlS x lo hi H Q
theorem sl_all : SlR X (rSlAll X.K) := sl_list.or (sl_tupA.or sl_str)
theorem cut_all (vs : List V) (lo hi : Option Int) (h : HT.sIx vs.length 0 lo = 0 ∧ HT.sIx vs.length vs.length hi = vs.length) : cutV vs lo hi = vs := by
  unfold cutV
  rw [h.1, h.2, List.drop_zero, Nat.sub_zero, List.take_length]
theorem cut_allD (vs : List PyData) (lo hi : Option Int) (h : HT.sIx vs.length 0 lo = 0 ∧ HT.sIx vs.length vs.length hi = vs.length) : cutD vs lo hi = vs := by
  unfold cutD
  rw [h.1, h.2, List.drop_zero, Nat.sub_zero, List.take_length]
theorem sl_run {K : PySem.W.Frag} {F H : Hp} {x : V} {d : PyData} {lo hi : Option Int} {res : Res} {Q : VK} (s : Same F H) (h : TD F H x d) (hf : slD d lo hi = some res) (hk : slOk d) (k : ResK F H Q res) : rSlAll K x lo hi H Q := by
  cases d <;> simp only [slD, reduceCtorEq, Option.some.injEq] at hf <;> subst hf
  · cases h
    exact .inr (.inr ⟨_, rfl, hk, k _ (.str _)⟩)
  · obtain ⟨a, vs, rfl, e, q⟩ := h
    exact .inl ⟨a, vs, rfl, .inl (.inl e), fun p np => k p _ np (q.cut lo hi)⟩
  · cases h with
    | tup e q =>
      refine .inr (.inl ⟨_, _, rfl, .inl (.inl (s _ _ e)), fun z => ?_, fun _ p np => k.2 p _ np (q.cut lo hi)⟩)
      have z' := z
      rw [q.length] at z'
      rw [cut_allD _ lo hi z'] at k
      exact k.1 _ (.tup e q)
end
/-- an end of a slice -/
def rdO (env : En) (μ : Mu) (o : Option Int) (μ' : Mu) : TO := fun σ H Q =>
  ∃ F as, EnvOk F as env σ ∧ Wd F H as μ ∧ ∀ F' H' as', Go F H as F' H' as' → Wd F' H' as' μ' → Q o H'
section
variable {X : Cx} {env : En} {μ μ1 μ2 μ3 μ' : Mu} {sv s1 : SV} {e : Expr} {lo hi : Option Expr} {pos p2 : Pos}
def SO (X : Cx) (e : Option Expr) (env : En) (μ : Mu) (o : Option Int) (μ' : Mu) : Prop := PO X e (rdO env μ o μ')
theorem PO.imp {t t' : TO} {o : Option Expr} (h : PO X o t) (i : ∀ σ H Q, t' σ H Q → t σ H Q) : PO X o t' := by
  obtain ⟨f⟩ := h
  exact ⟨fun pins s σ H Q I q => f pins s σ H Q I (i σ H Q q)⟩
theorem so_none : SO X none env μ none μ := PO.imp po_none fun σ H Q ⟨F, as, he, W, k⟩ => k F H as (Go.refl F H as) W
theorem so_some {i : Int} (h : SE X e env μ (.dat (.int i)) μ') : SO X (some e) env μ (some i) μ' :=
  PO.imp (po_some h) fun σ H Q ⟨F, as, he, W, k⟩ => ⟨F, as, he, W, fun v F1 H1 as1 g1 W1 r1 => by
    cases r1
    exact ⟨i, rfl, k F1 H1 as1 g1 W1⟩⟩
theorem se_slice {i j : Option Int} {d : PyData} {res : Res} (he : SE X e env μ s1 μ1) (hl : SO X lo env μ1 i μ2) (hh : SO X hi env μ2 j μ3) (v1 : Sy.view μ3 s1 = some d) (hf : slD d i j = some res) (hk : slOk d) (fin : Fi res μ3 sv μ') :
    SE X (.Subscript e (.Slice lo hi none p2) pos) env μ sv μ' := by
  refine PE.imp (pe_slice sl_all he hl hh) fun σ H Q ⟨F, as, hE, W, k⟩ => ?_
  refine ⟨F, as, hE, W, fun x F1 H1 as1 g1 W1 r1 => ⟨F1, as1, hE.mono g1, W1, fun F2 H2 as2 g2 W2 => ⟨F2, as2, (hE.mono g1).mono g2, W2, fun F3 H3 as3 g3 W3 => ?_⟩⟩⟩
  refine sl_run W3.sub (W3.view (RSV.mono g3 (RSV.mono g2 r1)) v1) hf hk ?_
  exact fin.run W3 fun v F4 H4 as4 g4 W4 r4 => k v F4 H4 as4 (((g1.trans g2).trans g3).trans g4) W4 r4
end
end Sy

/-! Sy4: statements, loops, comprehensions, methods of lists. -/
namespace Sy
open PySem PySem.Spec PyProof.Rows L2

section
variable {X : Cx} {env : En} {μ μ1 μ2 μ' : Mu} {sv s1 s2 : SV} {a b c e : Expr} {st : Stmt} {rest A B : List Stmt} {R : Out → Prop} {pos p0 p1 : Pos} {x y : Str}

/-- a block that the rest follows -/
def Thn (X : Cx) (rest : List Stmt) (R : Out → Prop) : Out → Prop
  | .next env μ => SSs X rest env μ R
  | o => R o
theorem sss_nil (h : R (.next env μ)) : SSs X [] env μ R :=
  PSs.imp pss_nil fun D σ H ⟨F, as, he, W, kn, _⟩ => kn env μ σ F H as h (Go.refl F H as) he W
theorem sss_cons (h1 : SS X st env μ (Thn X rest R)) : SSs X (st :: rest) env μ R := by
  have h2 : PSs X rest (fun D σ H => ∃ env' μ', SSs X rest env' μ' R ∧ rdS env' μ' R D σ H) :=
    ⟨fun pins s σ H D I ⟨env', μ', h, q⟩ => h.run pins s σ H D I q⟩
  refine PSs.imp (pss_cons h1 h2) fun D σ H ⟨F, as, he, W, kn, kr, kb, kc⟩ => ?_
  refine ⟨F, as, he, W, fun env' μ' σ' F' H' as' h g he' W' => ⟨env', μ', h, F', as', he', W', ?_, ?_, ?_, ?_⟩, kr, kb, kc⟩
  · exact fun e2 m2 s2 F2 H2 as2 r2 g2 => kn e2 m2 s2 F2 H2 as2 r2 (g.trans g2)
  · exact fun e2 m2 s2 F2 H2 as2 r2 g2 => kr e2 m2 s2 F2 H2 as2 r2 (g.trans g2)
  · exact fun e2 m2 s2 F2 H2 as2 r2 g2 => kb e2 m2 s2 F2 H2 as2 r2 (g.trans g2)
  · exact fun e2 m2 s2 F2 H2 as2 r2 g2 => kc e2 m2 s2 F2 H2 as2 r2 (g.trans g2)
/-- name = value -/
theorem sss_set (i : Nat) (hN : X.N.Nodup) (he : SE X e env μ sv μ1) (hr : SSs X rest (env.set i (some sv)) μ1 R) (hi : X.N[i]? = some x := by rfl)
    (hx : Loc X.env.scope x := by first | exact .inl rfl | exact .inr rfl) (hs : swapsWith e (some (.Name x p0)) pos.line X.env = pure false := by rfl)
    (hf : X.fn x = true ∨ X.env.scope.names.lookup x = some .local := by first | exact .inl rfl | exact .inr rfl) : SSs X (.Assign [.Name x p0] e pos :: rest) env μ R := by
  refine sss_cons (PS.imp (ps_set hN hi hx he hs hf) fun D σ H ⟨F, as, hE, W, kn, _⟩ => ?_)
  refine ⟨F, as, hE, W, fun v F1 H1 as1 g1 W1 r1 => ?_⟩
  exact kn _ μ1 _ F1 H1 as1 hr g1 ((hE.mono g1).set r1 i) W1
theorem sss_ret (he : SE X e env μ sv μ1) (hr : R (.ret sv μ1)) : SSs X (.Return (some e) pos :: rest) env μ R := by
  refine sss_cons (PS.imp (ps_ret he) fun D σ H ⟨F, as, hE, W, _, kr, _⟩ => ?_)
  exact ⟨F, as, hE, W, fun v F1 H1 as1 g1 W1 r1 => kr sv μ1 v F1 H1 as1 hr g1 W1 r1⟩
theorem sss_expr (he : SE X e env μ sv μ1) (hr : SSs X rest env μ1 R) (hs : swapsWith e none pos.line X.env = pure false := by rfl) : SSs X (.Expr e pos :: rest) env μ R := by
  refine sss_cons (PS.imp (ps_expr he hs) fun D σ H ⟨F, as, hE, W, kn, _⟩ => ?_)
  exact ⟨F, as, hE, W, fun v F1 H1 as1 g1 W1 r1 => kn env μ1 σ F1 H1 as1 hr g1 (hE.mono g1) W1⟩
theorem sss_brk (hr : R (.brk env μ)) : SSs X (.Break pos :: rest) env μ R :=
  sss_cons (PS.imp ps_break fun D σ H ⟨F, as, hE, W, _, _, kb, _⟩ => kb env μ σ F H as hr (Go.refl F H as) hE W)
theorem sss_cont (hr : R (.cont env μ)) : SSs X (.Continue pos :: rest) env μ R :=
  sss_cons (PS.imp ps_continue fun D σ H ⟨F, as, hE, W, _, _, _, kc⟩ => kc env μ σ F H as hr (Go.refl F H as) hE W)
theorem pss_when {P : Prop} {t : TS} (h : P → PSs X A t) : PSs X A (fun D σ H => P ∧ t D σ H) := ⟨fun pins s σ H D I q => (h q.1).run pins s σ H D I q.2⟩
theorem sss_if {q : Bool} (ht : ST X c env μ q μ1) (hA : q = true → SSs X A env μ1 (Thn X rest R)) (hB : q = false → SSs X B env μ1 (Thn X rest R)) : SSs X (.If c A B pos :: rest) env μ R := by
  refine sss_cons (PS.imp (ps_if ht (pss_when hA) (pss_when hB)) fun D σ H ⟨F, as, hE, W, kn, kr, kb, kc⟩ => ?_)
  refine ⟨F, as, hE, W, fun F1 H1 as1 g1 W1 => ?_⟩
  have go : rdS env μ1 (Thn X rest R) D σ H1 := ⟨F1, as1, hE.mono g1, W1, fun e2 m2 s2 F2 H2 as2 r2 g2 => kn e2 m2 s2 F2 H2 as2 r2 (g1.trans g2), fun e2 m2 s2 F2 H2 as2 r2 g2 => kr e2 m2 s2 F2 H2 as2 r2 (g1.trans g2),
    fun e2 m2 s2 F2 H2 as2 r2 g2 => kb e2 m2 s2 F2 H2 as2 r2 (g1.trans g2), fun e2 m2 s2 F2 H2 as2 r2 g2 => kc e2 m2 s2 F2 H2 as2 r2 (g1.trans g2)⟩
  cases q with
  | true => exact ⟨rfl, go⟩
  | false => exact ⟨rfl, go⟩
/-- x, y = a, b -/
theorem sss_par (i j : Nat) {pt pt2 : Pos} {kt k2 : Nat} (hc : X.calm = true) (hN : X.N.Nodup) (ha : SA X [a, b] env μ [s1, s2] μ1) (hr : SSs X rest ((env.set i (some s1)).set j (some s2)) μ1 R)
    (hi : X.N[i]? = some x := by rfl) (hj : X.N[j]? = some y := by rfl) (hij : i ≠ j := by decide) (hx : X.env.scope.names.lookup x = some .local := by rfl) (hy : X.env.scope.names.lookup y = some .local := by rfl)
    (hw : swappedStores [.Tuple [.Name x p0, .Name y p1] kt pt] (.Tuple [a, b] k2 pt2) X.env = pure (some [x, y]) := by rfl)
    (hs : swapsWithSole [.Tuple [.Name x p0, .Name y p1] kt pt] (.Tuple [a, b] k2 pt2) pos.line X.env = pure false := by rfl) :
    SSs X (.Assign [.Tuple [.Name x p0, .Name y p1] kt pt] (.Tuple [a, b] k2 pt2) pos :: rest) env μ R := by
  refine sss_cons (PS.imp (ps_par hc hN hi hj hij hx hy ha hw hs) fun D σ H ⟨F, as, hE, W, kn, _⟩ => ?_)
  refine ⟨F, as, hE, W, fun vs F1 H1 as1 g1 W1 r1 => ?_⟩
  cases r1 with
  | cons h1 t1 =>
    cases t1 with
    | cons h2 t2 =>
      cases t2
      exact ⟨_, _, rfl, kn _ μ1 _ F1 H1 as1 hr g1 (((hE.mono g1).set h1 i).set h2 j) W1⟩
end

/-! ### targets, iterables -/
section
variable {X : Cx} {env : En} {μ μ1 μ2 μ' : Mu} {sv s1 s2 : SV} {a b c e tg iter : Expr} {rest body : List Stmt} {R : Out → Prop} {pos p0 p1 : Pos} {x y : Str}
/-- a datum goes to a target -/
def rdG (rel : PyData → En → En → Prop) : TG := fun v σ H Q =>
  ∃ d env env' F as, rel d env env' ∧ DV F v d ∧ Same F H ∧ EnvOk F as env σ ∧ ∀ σ', EnvOk F as env' σ' → Q σ' H
def SG (X : Cx) (tg : Expr) (rel : PyData → En → En → Prop) : Prop := PG X tg (rdG rel)
theorem sg_name (i : Nat) (hN : X.N.Nodup) (hi : X.N[i]? = some x := by rfl) (hx : Loc X.env.scope x := by first | exact .inl rfl | exact .inr rfl)
    (hf : X.fn x = true ∨ X.env.scope.names.lookup x = some .local := by first | exact .inl rfl | exact .inr rfl) : SG X (.Name x pos) (fun d env env' => env' = env.set i (some (.dat d))) :=
  ⟨fun pins s σ H v u Q I r ⟨d, env, env', F, as, h, dv, sm, he, k⟩ => (pg_name (i := i) hN hi hx hf).run pins s σ H v u Q I r (k _ (h ▸ he.set (sv := .dat d) dv i))⟩
theorem sg_tup2 (i j : Nat) {k : Nat} (hc : X.calm = true) (hN : X.N.Nodup) (hi : X.N[i]? = some x := by rfl) (hj : X.N[j]? = some y := by rfl) (hx : Loc X.env.scope x := by first | exact .inl rfl | exact .inr rfl) (hy : Loc X.env.scope y := by first | exact .inl rfl | exact .inr rfl)
    (hf : X.fn x = true ∨ X.env.scope.names.lookup x = some .local := by first | exact .inl rfl | exact .inr rfl) (hf2 : X.fn y = true ∨ X.env.scope.names.lookup y = some .local := by first | exact .inl rfl | exact .inr rfl) :
    SG X (.Tuple [.Name x p0, .Name y p1] k pos) (fun d env env' => ∃ d1 d2, d = .tuple [d1, d2] ∧ env' = (env.set i (some (.dat d1))).set j (some (.dat d2))) := by
  refine ⟨fun pins s σ H v u Q I r ⟨d, env, env', F, as, ⟨d1, d2, e1, e2⟩, dv, sm, he, kk⟩ => ?_⟩
  subst e1 e2
  cases dv with
  | tup e q =>
    cases q with
    | cons q1 t1 =>
      cases t1 with
      | cons q2 t2 =>
        cases t2
        refine (pg_tup hc (pgs_cons (pg_name (i := i) hN hi hx hf) (pgs_cons (pg_name (i := j) hN hj hy hf2) pgs_nil))).run pins s σ H _ u Q I r ?_
        exact ⟨_, _, rfl, .inl (.inl (sm _ _ e)), rfl, _, _, rfl, _, _, rfl, rfl, kk _ ((he.set (sv := .dat d1) q1 i).set (sv := .dat d2) q2 j)⟩

/-- what a for walks: the data ds, while S holds of the cells -/
def rdI (env : En) (μ : Mu) (ds : List PyData) (μ1 : Mu) (S : Mu → Prop) : TI := fun σ H R =>
  ∃ F as, EnvOk F as env σ ∧ Wd F H as μ ∧ ∀ J G Y F1 H1 as1, Go F H as F1 H1 as1 → Wd F1 H1 as1 μ1 → Walk J ds.length G Y →
    (∀ F2 H2 as2 μ2, Go F1 H1 as1 F2 H2 as2 → Wd F2 H2 as2 μ2 → S μ2 → G H2) →
    (∀ (i : Nat) F2 H2 as2 μ2 x H', Go F1 H1 as1 F2 H2 as2 → Wd F2 H2 as2 μ2 → S μ2 → Y i H2 x H' → i < ds.length → H' = H2 ∧ ∃ d, ds[i]? = some d ∧ DV F2 x d) → R J H1
def SI (X : Cx) (tg iter : Expr) (env : En) (μ : Mu) (ds : List PyData) (μ1 : Mu) (S : Mu → Prop) : Prop := PI X tg iter (rdI env μ ds μ1 S)
theorem PI.imp {wi wi' : TI} (h : PI X tg iter wi) (i : ∀ σ H R, wi' σ H R → wi σ H R) : PI X tg iter wi' := ⟨fun pins s σ H R I q => h.run pins s σ H R I (i σ H R q)⟩
theorem si_list {ds : List PyData} (he : SE X iter env μ sv μ1) (hv : Sy.view μ1 sv = some (.list ds)) : SI X tg iter env μ ds μ1 (fun μ2 => Sy.view μ2 sv = some (.list ds)) := by
  refine PI.imp (pi_list he) fun σ H R ⟨F, as, hE, W, k⟩ => ⟨F, as, hE, W, fun v F1 H1 as1 g1 W1 r1 => ?_⟩
  obtain ⟨a, vs, rfl, e, q⟩ := W1.view r1 hv
  have same : ∀ F2 H2 as2 μ2, Go F1 H1 as1 F2 H2 as2 → Wd F2 H2 as2 μ2 → Sy.view μ2 sv = some (.list ds) → ∃ ws, H2 a = some (.lst ws) ∧ DVs F2 ws ds := by
    intro F2 H2 as2 μ2 g2 W2 h2
    obtain ⟨a', ws, e', q1, q2⟩ := W2.view (RSV.mono g2 r1) h2
    obtain rfl := V.ref.inj e'
    exact ⟨ws, q1, q2⟩
  refine ⟨a, rfl, ⟨vs, .inl (.inl e)⟩, ?_⟩
  refine k (Itl X.K a) (fun H2 => ∃ ws, H2 a = some (.lst ws) ∧ ws.length = ds.length) (fun i H x H' => H' = H ∧ ∃ ws, H a = some (.lst ws) ∧ ws[i]? = some x) F1 H1 as1 g1 W1 ⟨?_, ?_, ?_⟩ ?_ ?_
  · exact fun i H hi ⟨ws, h1, h2⟩ => ⟨ws, ws[i]'(by omega), .inl (.inl h1), by simp [h2, hi]⟩
  · exact fun H ⟨ws, h1, h2⟩ => ⟨ws, .inl (.inl h1), by omega⟩
  · exact fun i H x H' hi ⟨ws, h1, h2⟩ y => ⟨y.1, ws, h1, y.2 ws (.inl (.inl h1))⟩
  · exact fun F2 H2 as2 μ2 g2 W2 h2 => let ⟨ws, q1, q2⟩ := same F2 H2 as2 μ2 g2 W2 h2; ⟨ws, q1, q2.length⟩
  · rintro i F2 H2 as2 μ2 x H' g2 W2 h2 ⟨rfl, ws, q1, q2⟩ hi
    obtain ⟨ws', q1', q2'⟩ := same F2 _ as2 μ2 g2 W2 h2
    rw [q1] at q1'
    obtain rfl := HO.lst.inj (Option.some.inj q1')
    exact ⟨rfl, q2'.getV q2⟩
theorem si_tup {ds : List PyData} (he : SE X iter env μ (.dat (.tuple ds)) μ1) : SI X tg iter env μ ds μ1 (fun _ => True) := by
  refine PI.imp (pi_tup he) fun σ H R ⟨F, as, hE, W, k⟩ => ⟨F, as, hE, W, fun v F1 H1 as1 g1 W1 r1 => ?_⟩
  cases r1 with
  | @tup a vs _ e q =>
    refine ⟨a, rfl, ⟨vs, .inl (.inl (W1.sub _ _ e))⟩, ?_⟩
    refine k (Itt X.K a) (fun H => SqT X.K H a vs) (YAt vs) F1 H1 as1 g1 W1 (by rw [← q.length]; exact walk_tup) ?_ ?_
    · exact fun F2 H2 as2 μ2 g2 W2 _ => .inl (.inl (W2.sub _ _ (g2.sub _ _ e)))
    · rintro i F2 H2 as2 μ2 x H' g2 W2 h2 ⟨rfl, y⟩ hi
      obtain ⟨d, h1, h2⟩ := q.getV y
      exact ⟨rfl, d, h1, DV.mono g2.sub h2⟩
def rangeD (lo : Int) (n : Nat) : List PyData := (List.range n).map fun (i : Nat) => PyData.int (lo + i)
theorem rangeD_len (lo : Int) (n : Nat) : (rangeD lo n).length = n := by unfold rangeD; simp
theorem rangeD_get {lo : Int} {n i : Nat} (h : i < n) : (rangeD lo n)[i]? = some (.int (lo + i)) := by unfold rangeD; simp [h]
theorem range_go {lo : Int} {n : Nat} {σ : L2.St} {H : Hp} {R : It → Hp → Prop} {F1 H1 : Hp} {as1 : List Addr}
    (k : ∀ J G Y, Walk J (rangeD lo n).length G Y → (∀ F2 H2 as2 μ2, Go F1 H1 as1 F2 H2 as2 → Wd F2 H2 as2 μ2 → True → G H2) →
      (∀ (i : Nat) F2 H2 as2 μ2 x H', Go F1 H1 as1 F2 H2 as2 → Wd F2 H2 as2 μ2 → True → Y i H2 x H' → i < (rangeD lo n).length → H' = H2 ∧ ∃ d, (rangeD lo n)[i]? = some d ∧ DV F2 x d) → R J H1) : R (Itr lo n) H1 := by
  refine k (Itr lo n) _ _ (by rw [rangeD_len]; exact walk_range) (fun _ _ _ _ _ _ _ => trivial) ?_
  rintro i F2 H2 as2 μ2 x H' g2 W2 h2 ⟨rfl, y⟩ hi
  rw [rangeD_len] at hi
  exact ⟨rfl, _, rangeD_get hi, y ▸ .int _⟩
theorem si_range1 {n : Int} (hm : X.mg "range" = none) (ha : SA X [a] env μ [.dat (.int n)] μ1) (hz : -(2 ^ 62) ≤ n ∧ n < 2 ^ 62) (hg : Gl X "range" := by rfl)
    (hs : starEach [a] X.env = [(false, eval a X.env)] := by rfl) : SI X tg (.Call (.Name "range" p0) [a] [] pos) env μ (rangeD 0 n.toNat) μ1 (fun _ => True) := by
  refine PI.imp (pi_range1 hg hm ha hs) fun σ H R ⟨F, as, hE, W, k⟩ => ⟨F, as, hE, W, fun vs F1 H1 as1 g1 W1 r1 => ?_⟩
  cases r1 with
  | cons r t =>
    cases t
    cases r
    exact ⟨n, rfl, hz.1, hz.2, range_go (σ := σ) (H := H) fun J G Y w h1 h2 => k J G Y F1 H1 as1 g1 W1 w h1 h2⟩
theorem si_range2 {m n : Int} (hm : X.mg "range" = none) (ha : SA X [a, b] env μ [.dat (.int m), .dat (.int n)] μ1) (hz : -(2 ^ 62) ≤ m ∧ m < 2 ^ 62 ∧ -(2 ^ 62) ≤ n ∧ n < 2 ^ 62) (hg : Gl X "range" := by rfl)
    (hs : starEach [a, b] X.env = [(false, eval a X.env), (false, eval b X.env)] := by rfl) (hs2 : starEach [b] X.env = [(false, eval b X.env)] := by rfl) :
    SI X tg (.Call (.Name "range" p0) [a, b] [] pos) env μ (rangeD m (n - m).toNat) μ1 (fun _ => True) := by
  refine PI.imp (pi_range2 hg hm ha hs hs2) fun σ H R ⟨F, as, hE, W, k⟩ => ⟨F, as, hE, W, fun vs F1 H1 as1 g1 W1 r1 => ?_⟩
  cases r1 with
  | cons r t =>
    cases t with
    | cons r' t' =>
      cases t'
      cases r
      cases r'
      exact ⟨m, n, rfl, hz, range_go (σ := σ) (H := H) fun J G Y w h1 h2 => k J G Y F1 H1 as1 g1 W1 w h1 h2⟩
def signsD (z : Str) : List PyData := z.cps.toList.map fun c => PyData.str ⟨#[c]⟩
theorem si_str {z : Str} (he : SE X iter env μ (.dat (.str z)) μ1) : SI X tg iter env μ (signsD z) μ1 (fun _ => True) := by
  refine PI.imp (pi_str he) fun σ H R ⟨F, as, hE, W, k⟩ => ⟨F, as, hE, W, fun v F1 H1 as1 g1 W1 r1 => ?_⟩
  cases r1
  have hl : (signsD z).length = z.cps.size := by unfold signsD; simp
  refine ⟨z, rfl, k _ _ _ F1 H1 as1 g1 W1 (by rw [hl]; exact walk_str) (fun _ _ _ _ _ _ _ => trivial) ?_⟩
  rintro i F2 H2 as2 μ2 x H' g2 W2 h2 ⟨rfl, c, y, rfl⟩ hi
  refine ⟨rfl, _, ?_, .str _⟩
  unfold signsD
  rw [List.getElem?_map, Array.getElem?_toList, y]
  rfl

/-- what a turn may lead to -/
def LoopR (X : Cx) (rest : List Stmt) (R : Out → Prop) (I : Nat → En → Mu → Prop) (k : Nat) : Out → Prop
  | .next env μ => I (k + 1) env μ
  | .cont env μ => I (k + 1) env μ
  | .brk env μ => SSs X rest env μ R
  | .ret sv μ => R (.ret sv μ)
def rdL (X : Cx) (body rest : List Stmt) (R : Out → Prop) (I : Nat → En → Mu → Prop) : TS := fun D σ H =>
  ∃ k env' μ, SSs X body env' μ (LoopR X rest R I k) ∧ rdS env' μ (LoopR X rest R I k) D σ H
theorem sss_for {ds : List PyData} {S : Mu → Prop} {rel : PyData → En → En → Prop} (I : Nat → En → Mu → Prop) (hp : PassesOwn (model X.prog X.w) X.A X.env X.xe) (hc : X.calm = true)
    (hi : SI X tg iter env μ ds μ1 S) (hg : SG X tg rel) (h0 : I 0 env μ1) (hS : ∀ k env μ, I k env μ → S μ)
    (hs : ∀ k d env μ, ds[k]? = some d → I k env μ → ∃ env', rel d env env' ∧ SSs X body env' μ (LoopR X rest R I k)) (hd : ∀ env μ, I ds.length env μ → SSs X rest env μ R)
    (hf : ∀ x, foldedSetIterable iter X.env x = pure x := by intro _; rfl) : SSs X (.For tg iter body [] pos :: rest) env μ R := by
  have hb : PSs X body (rdL X body rest R I) :=
    ⟨fun pins s σ H D J ⟨k, env', μ, h, q⟩ => h.run pins s σ H D J q⟩
  refine sss_cons (PS.imp (ps_for hp hc hi hg hb hf) fun D σ H ⟨F, as, hE, W, kn, kr, kb, kc⟩ => ?_)
  refine ⟨F, as, hE, W, fun J G Y F1 H1 as1 g1 W1 w hG hY => ?_⟩
  refine for_it (g := rdG rel) (tb := rdL X body rest R I) (D := D) w (fun k σ H => ∃ env μ F2 as2, I k env μ ∧ EnvOk F2 as2 env σ ∧ Wd F2 H as2 μ ∧ Go F1 H1 as1 F2 H as2) ⟨env, μ1, F1, as1, h0, hE.mono g1, W1, Go.refl _ _ _⟩ ?_ ?_ ?_
  · rintro k σ2 H2 _ ⟨env2, μ2, F2, as2, i2, e2, W2, g2⟩
    exact hG F2 H2 as2 μ2 g2 W2 (hS k env2 μ2 i2)
  · rintro k v σ2 H2 H' hk ⟨env2, μ2, F2, as2, i2, e2, W2, g2⟩ y
    obtain ⟨rfl, d, hd1, dv⟩ := hY k F2 H2 as2 μ2 v H' g2 W2 (hS k env2 μ2 i2) y hk
    obtain ⟨env3, r3, b3⟩ := hs k d env2 μ2 hd1 i2
    refine ⟨d, env2, env3, F2, as2, r3, dv, W2.sub, e2, fun σ3 e3 => ⟨k, env3, μ2, b3, F2, as2, e3, W2, ?_, ?_, ?_, ?_⟩⟩
    · exact fun e4 m4 s4 F4 H4 as4 r4 g4 q4 W4 => ⟨e4, m4, F4, as4, r4, q4, W4, g2.trans g4⟩
    · exact fun e4 m4 s4 F4 H4 as4 r4 g4 q4 W4 => kr e4 m4 s4 F4 H4 as4 r4 ((g1.trans g2).trans g4) q4 W4
    · exact fun e4 m4 s4 F4 H4 as4 r4 g4 q4 W4 => kn e4 m4 s4 F4 H4 as4 r4 ((g1.trans g2).trans g4) q4 W4
    · exact fun e4 m4 s4 F4 H4 as4 r4 g4 q4 W4 => ⟨e4, m4, F4, as4, r4, q4, W4, g2.trans g4⟩
  · rintro σ2 H2 ⟨env2, μ2, F2, as2, i2, e2, W2, g2⟩
    exact kn env2 μ2 σ2 F2 H2 as2 (hd env2 μ2 i2) (g1.trans g2) e2 W2
/-- while -/
theorem sss_while (I : Nat → En → Mu → Prop) (n : Nat) (hp : PassesOwn (model X.prog X.w) X.A X.env X.xe) (h0 : I n env μ)
    (hs : ∀ n env μ, I n env μ → ∃ q μ1, ST X c env μ q μ1 ∧ (q = true → SSs X body env μ1 (fun o => match o with
      | .next env' μ' => ∃ m, m < n ∧ I m env' μ'
      | .cont env' μ' => ∃ m, m < n ∧ I m env' μ'
      | .brk env' μ' => SSs X rest env' μ' R
      | .ret sv μ' => R (.ret sv μ'))) ∧ (q = false → SSs X rest env μ1 R)) : SSs X (.While c body [] pos :: rest) env μ R := by
  let BR : Nat → Out → Prop := fun n o => match o with
      | .next env' μ' => ∃ m, m < n ∧ I m env' μ'
      | .cont env' μ' => ∃ m, m < n ∧ I m env' μ'
      | .brk env' μ' => SSs X rest env' μ' R
      | .ret sv μ' => R (.ret sv μ')
  have hc : PT X c (fun σ H Q => ∃ env μ q μ1, ST X c env μ q μ1 ∧ rdT env μ q μ1 σ H Q) := ⟨fun pins s σ H Q J ⟨env, μ, q, μ1, h, z⟩ => h.run pins s σ H Q J z⟩
  have hb : PSs X body (fun D σ H => ∃ n env' μ, SSs X body env' μ (BR n) ∧ rdS env' μ (BR n) D σ H) := ⟨fun pins s σ H D J ⟨k, env', μ, h, q⟩ => h.run pins s σ H D J q⟩
  refine sss_cons (PS.imp (ps_while hp hc hb) fun D σ H ⟨F, as, hE, W, kn, kr, kb, kc⟩ => ?_)
  refine ⟨fun m σ2 H2 => ∃ env2 μ2 F2 as2, I m env2 μ2 ∧ EnvOk F2 as2 env2 σ2 ∧ Wd F2 H2 as2 μ2 ∧ Go F H as F2 H2 as2, ⟨n, env, μ, F, as, h0, hE, W, Go.refl _ _ _⟩, ?_⟩
  rintro m σ2 H2 ⟨env2, μ2, F2, as2, i2, e2, W2, g2⟩
  obtain ⟨q, μ3, ht, hT, hF⟩ := hs m env2 μ2 i2
  refine ⟨env2, μ2, q, μ3, ht, F2, as2, e2, W2, fun F3 H3 as3 g3 W3 => ?_⟩
  cases q with
  | true =>
    refine ⟨fun σ' H' => ∃ m', m' < m ∧ ∃ env2 μ2 F2 as2, I m' env2 μ2 ∧ EnvOk F2 as2 env2 σ' ∧ Wd F2 H' as2 μ2 ∧ Go F H as F2 H' as2, fun σ' H' h => h, ?_⟩
    refine ⟨m, env2, μ3, hT rfl, F3, as3, e2.mono g3, W3, ?_, ?_, ?_, ?_⟩
    · rintro e4 m4 s4 F4 H4 as4 ⟨m', lt, r4⟩ g4 q4 W4
      exact ⟨m', lt, e4, m4, F4, as4, r4, q4, W4, (g2.trans g3).trans g4⟩
    · exact fun e4 m4 s4 F4 H4 as4 r4 g4 q4 W4 => kr e4 m4 s4 F4 H4 as4 r4 ((g2.trans g3).trans g4) q4 W4
    · exact fun e4 m4 s4 F4 H4 as4 r4 g4 q4 W4 => kn e4 m4 s4 F4 H4 as4 r4 ((g2.trans g3).trans g4) q4 W4
    · rintro e4 m4 s4 F4 H4 as4 ⟨m', lt, r4⟩ g4 q4 W4
      exact ⟨m', lt, e4, m4, F4, as4, r4, q4, W4, (g2.trans g3).trans g4⟩
  | false => exact kn env2 μ3 σ2 F3 H3 as3 (hF rfl) (g2.trans g3) (e2.mono g3) W3
end
end Sy

/-! Sy5: comprehensions, methods of lists, contracts of defs. -/
namespace Sy
open PySem PySem.Spec PyProof.Rows L2

/-! ### an object beside the world -/
theorem Wd.off {F H : Hp} {as : List Addr} {μ : Mu} (W : Wd F H as μ) {p : Addr} {o : HO} (nF : F p = none) (na : p ∉ as) : Wd F (upd H p o) as μ := by
  refine ⟨fun b u e => ?_, W.nd, W.len, fun j a c ha hc => ?_, fun a ha => ?_⟩
  · rw [upd_ne (ne_of_none e nF)]; exact W.sub b u e
  · have hap : a ≠ p := fun z => na (by rw [← z]; exact List.mem_of_getElem? ha)
    exact (W.ok j a c ha hc).go (Same.refl F) (fun z => z) (fun o z => by rw [upd_ne hap]; exact z) (fun _ _ _ z => z)
  · have hap : a ≠ p := fun z => na (by rw [← z]; exact ha)
    rw [upd_ne hap]
    exact W.seen a ha
theorem Go.off {F H F' H' : Hp} {as as' : List Addr} (g : Go F H as F' H' as') {p : Addr} {o : HO} (np : H p = none) : Go F H as F' (upd H' p o) as' :=
  ⟨fun a u h na => by rw [upd_ne (ne_of_none h np)]; exact g.keep a u h na, fun a h => by
    by_cases ha : a = p
    · rw [ha]; exact np
    · rw [upd_ne ha] at h; exact g.dom a h, g.sub, g.new, g.pre⟩
theorem Go.apart {F H F' H' : Hp} {as as' : List Addr} (g : Go F H as F' H' as') {p : Addr} {o : HO} (hp : H p = some o) (nF : F p = none) (na : p ∉ as) : H' p = some o ∧ F' p = none ∧ p ∉ as' := by
  refine ⟨g.keep p o hp na, ?_, ?_⟩
  · cases q : F' p with
    | none => rfl
    | some u =>
      rcases g.new p nF (by rw [q]; exact fun z => nomatch z) with z | z
      · rw [hp] at z; cases z
      · exact absurd z na
  · obtain ⟨more, e, n⟩ := g.pre
    rw [e]
    intro z
    rcases List.mem_append.mp z with z | z
    · exact na z
    · rw [n p z] at hp; cases hp
def era (H : Hp) (p : Addr) : Hp := fun b => if b = p then none else H b
theorem era_same {H : Hp} {p : Addr} : era H p p = none := if_pos rfl
theorem era_ne {H : Hp} {p b : Addr} (h : b ≠ p) : era H p b = H b := if_neg h
theorem era_upd {H : Hp} {p : Addr} {o : HO} (h : H p = some o) : upd (era H p) p o = H := by
  funext b
  by_cases hb : b = p
  · rw [hb, upd_same, h]
  · rw [upd_ne hb, era_ne hb]
theorem Wd.era {F H : Hp} {as : List Addr} {μ : Mu} (W : Wd F H as μ) {p : Addr} (nF : F p = none) (na : p ∉ as) : Wd F (Sy.era H p) as μ := by
  refine ⟨fun b u e => ?_, W.nd, W.len, fun j a c ha hc => ?_, fun a ha => ?_⟩
  · rw [era_ne (ne_of_none e nF)]; exact W.sub b u e
  · have hap : a ≠ p := fun z => na (by rw [← z]; exact List.mem_of_getElem? ha)
    exact (W.ok j a c ha hc).go (Same.refl F) (fun z => z) (fun o z => by rw [era_ne hap]; exact z) (fun _ _ _ z => z)
  · have hap : a ≠ p := fun z => na (by rw [← z]; exact ha)
    rw [era_ne hap]
    exact W.seen a ha
theorem Go.era {F H F' H' : Hp} {as as' : List Addr} (g : Go F H as F' H' as') {p : Addr} (np : H p = none) : Go F H as F' (Sy.era H' p) as' :=
  ⟨fun a u h na => by rw [era_ne (ne_of_none h np)]; exact g.keep a u h na, fun a h => by
    by_cases ha : a = p
    · rw [ha]; exact np
    · rw [era_ne ha] at h; exact g.dom a h, g.sub, g.new, g.pre⟩
theorem Wd.nofree {F H : Hp} {as : List Addr} {μ : Mu} (W : Wd F H as μ) {p : Addr} (np : H p = none) : F p = none ∧ p ∉ as := by
  refine ⟨?_, fun z => W.seen p z np⟩
  cases q : F p with
  | none => rfl
  | some u => rw [W.sub p u q] at np; cases np
theorem EnvOk.set0 {F : Hp} {as : List Addr} {env : En} {σ : L2.St} (h : EnvOk F as env σ) (i : Nat) : EnvOk F as (env.set i none) (σ.set i none) := by
  refine ⟨by rw [List.length_set, List.length_set, h.1], fun k sv' e => ?_⟩
  rw [List.getElem?_set] at e ⊢
  by_cases hk : i = k
  · subst hk
    rw [if_pos rfl] at e
    split at e
    · exact nomatch e
    · exact nomatch e
  · rw [if_neg hk] at e ⊢
    exact h.2 k sv' e

/-! ### comprehensions -/
/-- in every block of the comprehension -/
def AllB (X : Cx) (scope : Scope) (P : Cx → Prop) : Prop := ∀ (s : Shared) (H : Hp) (C : Addr) (cl : List (Str × Addr)) (fp : List Addr), P (X.blk s H scope (compEnvC scope cl C X.env) fp)
def STs (X : Cx) (ifs : List Expr) (env : En) (μ : Mu) (b : Bool) (μ' : Mu) : Prop := PTs X ifs (rdT env μ b μ')
section
variable {X : Cx} {env : En} {μ μ1 μ2 μ' : Mu} {sv s1 s2 : SV} {a b c e elt iter : Expr} {ifs : List Expr} {rest : List Stmt} {R : Out → Prop} {pos p0 p1 spos : Pos} {x y : Str} {scope : Scope} {ds out : List PyData} {S : Mu → Prop}
theorem sts_nil : STs X [] env μ true μ := ⟨fun pins s σ H Q I ⟨F, as, he, W, k⟩ => pts_nil.run pins s σ H Q I (k F H as (Go.refl F H as) W)⟩
theorem sts_one {q : Bool} (h : ST X c env μ q μ') : STs X [c] env μ q μ' := pts_one h
/-- one turn of a comprehension -/
def Turn1 (X : Cx) (scope : Scope) (elt : Expr) (ifs : List Expr) (env : En) (I : Nat → List PyData → Mu → Prop) (i k : Nat) (d : PyData) (acc : List PyData) (m : Mu) : Prop :=
  ∃ q m1, AllB X scope (fun B => STs B ifs (env.set i (some (.dat d))) m q m1) ∧
    (q = true → ∃ d' m2, I (k + 1) (acc ++ [d']) m2 ∧ AllB X scope fun B => SE B elt (env.set i (some (.dat d))) m1 (.dat d') m2) ∧ (q = false → I (k + 1) acc m1)
def rdTT (X : Cx) (scope : Scope) (ifs : List Expr) : TT := fun σ H Q => ∃ env m q m1, AllB X scope (fun B => STs B ifs env m q m1) ∧ rdT env m q m1 σ H Q
def rdEE (X : Cx) (scope : Scope) (elt : Expr) : TE := fun σ H Q => ∃ env m sv m1, AllB X scope (fun B => SE B elt env m sv m1) ∧ rdE env m sv m1 σ H Q
theorem lc_read (i : Nat) (I : Nat → List PyData → Mu → Prop) (hz : ds.length ≤ sizeLine) (h0 : I 0 [] μ1) (hS : ∀ k acc m, I k acc m → S m)
    (hs : ∀ k d acc m, ds[k]? = some d → I k acc m → Turn1 X scope elt ifs env I i k d acc m) (hd : ∀ acc m, I ds.length acc m → acc = out ∧ m = μ2) (fin : Fi (.newL out) μ2 sv μ') :
    ∀ σ H Q, rdE env μ sv μ' σ H Q → tLc (rdI env μ ds μ1 S) (gName i) (rdTT X scope ifs) (rdEE X scope elt) [i] σ H Q := by
  intro σ H Q ⟨F, as, hE, W, k⟩
  refine ⟨F, as, hE, W, fun J G Y F1 H1 as1 g1 W1 w hG hY D nD => ?_⟩
  have nH : H D = none := g1.dom D nD
  refine lc_it (g := gName i) (tt := rdTT X scope ifs) (te := rdEE X scope elt) w (fun k H2 => ∃ acc m F2 as2 vs, I k acc m ∧ acc.length ≤ k ∧ Wd F2 H2 as2 m ∧ Go F1 H1 as1 F2 H2 as2 ∧ H2 D = some (.lst vs) ∧ F2 D = none ∧ D ∉ as2 ∧ DVs F2 vs acc) ?_ ?_ ?_ ?_
  · obtain ⟨f1, f2⟩ := W1.nofree nD
    exact ⟨[], μ1, F1, as1, [], h0, Nat.le_refl _, W1.off f1 f2, (Go.refl _ _ _).off nD, upd_same, f1, f2, .nil⟩
  · rintro k2 H2 _ ⟨acc, m, F2, as2, vs, i2, l2, W2, g2, hD, nF, na, dv⟩
    exact hG F2 H2 as2 m g2 W2 (hS k2 acc m i2)
  · rintro k2 v H2 H' hk ⟨acc, m, F2, as2, vs, i2, l2, W2, g2, hD, nF, na, dv⟩ y
    obtain ⟨rfl, d, hd1, dvd⟩ := hY k2 F2 H2 as2 m v H' g2 W2 (hS k2 acc m i2) y hk
    obtain ⟨q, m1, ht, hT, hF⟩ := hs k2 d acc m hd1 i2
    have env2 : EnvOk F2 as2 (env.set i (some (.dat d))) ((wipe σ [i]).set i (some v)) := by
      have e1 := ((hE.mono g1).mono g2).set (sv := .dat d) dvd i
      show EnvOk F2 as2 _ ((σ.set i none).set i (some v))
      rw [List.set_set]
      exact e1
    refine ⟨?_, env.set i (some (.dat d)), m, q, m1, ht, F2, as2, env2, W2, fun F3 H3 as3 g3 W3 => ?_⟩
    · show ((σ.set i none).set i (some v)).set i none = σ.set i none
      rw [List.set_set, List.set_set]
    · obtain ⟨hD3, nF3, na3⟩ := g3.apart hD nF na
      cases q with
      | true =>
        obtain ⟨d', m2, i3, he⟩ := hT rfl
        refine ⟨env.set i (some (.dat d)), m1, .dat d', m2, he, F3, as3, env2.mono g3, W3, fun u F4 H4 as4 g4 W4 r4 => ?_⟩
        obtain ⟨hD4, nF4, na4⟩ := g4.apart hD3 nF3 na3
        refine ⟨vs, hD4, ?_, acc ++ [d'], m2, F4, as4, vs ++ [u], i3, ?_, W4.off nF4 na4, ((g2.trans g3).trans g4).off nD, upd_same, nF4, na4, ?_⟩
        · rw [dv.length]; omega
        · rw [List.length_append]
          show acc.length + 1 ≤ k2 + 1
          omega
        · exact ((dv.mono g3.sub).mono g4.sub).append (.cons r4 .nil)
      | false => exact ⟨acc, m1, F3, as3, vs, hF rfl, by omega, W3, g2.trans g3, hD3, nF3, na3, dv.mono g3.sub⟩
  · rintro H2 ⟨acc, m, F2, as2, vs, i2, l2, W2, g2, hD, nF, na, dv⟩
    obtain ⟨rfl, rfl⟩ := hd acc m i2
    have r := fin.run (W2.era nF na) (Q := Q) fun v F3 H3 as3 g3 W3 r3 => k v F3 H3 as3 ((g1.trans (g2.era nD)).trans g3) W3 r3
    have z := r D vs era_same dv
    rw [era_upd hD] at z
    exact z
theorem se_lc (i : Nat) (I : Nat → List PyData → Mu → Prop) (hc : X.calm = true) (hN : X.N.Nodup) (hi : SI X (.Name x p1) iter env μ ds μ1 S) (ok : BlkOk X.N X.env.scope scope [(x, i)]) (hz : ds.length ≤ sizeLine) (h0 : I 0 [] μ1) (hS : ∀ k acc m, I k acc m → S m)
    (hs : ∀ k d acc m, ds[k]? = some d → I k acc m → Turn1 X scope elt ifs env I i k d acc m) (hd : ∀ acc m, I ds.length acc m → acc = out ∧ m = μ2) (fin : Fi (.newL out) μ2 sv μ')
    (hn : X.N[i]? = some x := by rfl) (hl : AllB X scope (fun B => Loc B.env.scope x) := by intro _ _ _ _ _; first | exact .inl rfl | exact .inr rfl)
    (hfn : AllB X scope (fun B => B.fn x = true ∨ B.env.scope.names.lookup x = some .local) := by intro _ _ _ _ _; first | exact .inl rfl | exact .inr rfl)
    (hf : ∀ x, foldedSetIterable iter X.env x = pure x := by intro _; rfl) : SE X (.ListComp elt [⟨.Name x p1, iter, ifs, 0⟩] scope pos) env μ sv μ' := by
  refine PE.imp (pe_lc (own := [(x, i)]) (g := gName i) (tt := rdTT X scope ifs) (te := rdEE X scope elt) hc hN hi ok ?_ ?_ ?_ hf) (lc_read i I hz h0 hS hs hd fin)
  · exact fun s H C cl fp => pg_name hN hn (hl s H C cl fp) (hfn s H C cl fp)
  · exact fun s H C cl fp => ⟨fun pins s2 σ H2 Q J ⟨env, m, q, m1, h, z⟩ => (h s H C cl fp).run pins s2 σ H2 Q J z⟩
  · exact fun s H C cl fp => ⟨fun pins s2 σ H2 Q J ⟨env, m, q, m1, h, z⟩ => (h s H C cl fp).run pins s2 σ H2 Q J z⟩
/-- name = [..] -/
theorem sss_setLc (j : Nat) (i : Nat) (I : Nat → List PyData → Mu → Prop) (hc : X.calm = true) (hN : X.N.Nodup) (hi : SI X (.Name x p1) iter env μ ds μ1 S) (ok : BlkOk X.N X.env.scope scope [(x, i)]) (hz : ds.length ≤ sizeLine) (h0 : I 0 [] μ1) (hS : ∀ k acc m, I k acc m → S m)
    (hs : ∀ k d acc m, ds[k]? = some d → I k acc m → Turn1 X scope elt ifs env I i k d acc m) (hd : ∀ acc m, I ds.length acc m → acc = out ∧ m = μ2) (fin : Fi (.newL out) μ2 sv μ')
    (hsw : swapsWith (.ListComp elt [⟨.Name x p1, iter, ifs, 0⟩] scope pos) (some (.Name y p0)) spos.line X.env = pure true) (hr : SSs X rest (env.set j (some sv)) μ' R)
    (hy : X.N[j]? = some y := by rfl) (hyl : X.env.scope.names.lookup y = some .local := by rfl)
    (hn : X.N[i]? = some x := by rfl) (hl : AllB X scope (fun B => Loc B.env.scope x) := by intro _ _ _ _ _; first | exact .inl rfl | exact .inr rfl)
    (hfn : AllB X scope (fun B => B.fn x = true ∨ B.env.scope.names.lookup x = some .local) := by intro _ _ _ _ _; first | exact .inl rfl | exact .inr rfl)
    (hf : ∀ x, foldedSetIterable iter X.env x = pure x := by intro _; rfl) : SSs X (.Assign [.Name y p0] (.ListComp elt [⟨.Name x p1, iter, ifs, 0⟩] scope pos) spos :: rest) env μ R := by
  refine sss_cons (PS.imp (ps_setLc (i := j) (own := [(x, i)]) (g := gName i) (tt := rdTT X scope ifs) (te := rdEE X scope elt) hc hN hy hyl hsw hi ok ?_ ?_ ?_ hf) fun D σ H ⟨F, as, hE, W, kn, _⟩ => ?_)
  · exact fun s H C cl fp => pg_name hN hn (hl s H C cl fp) (hfn s H C cl fp)
  · exact fun s H C cl fp => ⟨fun pins s2 σ H2 Q J ⟨env, m, q, m1, h, z⟩ => (h s H C cl fp).run pins s2 σ H2 Q J z⟩
  · exact fun s H C cl fp => ⟨fun pins s2 σ H2 Q J ⟨env, m, q, m1, h, z⟩ => (h s H C cl fp).run pins s2 σ H2 Q J z⟩
  · refine lc_read i I hz h0 hS hs hd fin σ H _ ⟨F, as, hE, W, fun v F1 H1 as1 g1 W1 r1 => ?_⟩
    exact kn _ μ' _ F1 H1 as1 hr g1 ((hE.mono g1).set r1 j) W1

/-! ### methods of lists -/
theorem cell_at {F H : Hp} {as : List Addr} {j : Nat} {a : Addr} (W : Wd F H as μ) (ha : as[j]? = some a) (hj : μ[j]? = some (.lst ds)) : F a = none ∧ ∃ vs, H a = some (.lst vs) ∧ DVs F vs ds := W.ok j a _ ha hj
theorem se_append {j : Nat} {d : PyData} {apos : Pos} (ho : SE X a env μ (.cell j) μ1) (hv : SE X e env μ1 (.dat d) μ2) (h1 : ∃ ds0, μ1[j]? = some (.lst ds0)) (hj : μ2[j]? = some (.lst ds)) (hz : ds.length < sizeLine)
    (hbase : attributeBase a "append" X.env (eval a X.env) = eval a X.env := by rfl) (hline : (apos.endLine == pos.line) = true := by rfl)
    (hs : starEach [e] X.env = [(false, eval e X.env)] := by rfl) : SE X (.Call (.Attribute a "append" apos) [e] [] pos) env μ (.dat .none) (μ2.set j (.lst (ds ++ [d]))) := by
  refine PE.imp (pe_bm PySem.F.plainAttrs_list PySem.F.slot_list_append PySem.F.type_list_append mt_append ho (pa_cons hv pa_nil hs) hbase (by rw [hs]; rfl) hline hs (by rfl)) fun σ H Q ⟨F, as, hE, W, k⟩ => ?_
  refine ⟨F, as, hE, W, fun v F1 H1 as1 g1 W1 ⟨p, hp, ev⟩ => ?_⟩
  subst ev
  obtain ⟨ds0, h1⟩ := h1
  obtain ⟨_, vs0, q0, _⟩ := cell_at W1 hp h1
  refine ⟨.inl ⟨rfl, vs0, .inl (.inl q0)⟩, F1, as1, hE.mono g1, W1, fun u F2 H2 as2 g2 W2 r2 => ?_⟩
  obtain ⟨_, vs, q, dv⟩ := cell_at W2 (g2.at hp) hj
  have z := W2.setC (g2.at hp) hj (dv.append (.cons r2 .nil))
  exact ⟨p, vs, u, rfl, rfl, q, by rw [dv.length]; exact hz, k _ _ _ as2 ((g1.trans g2).trans z.2) z.1 .non⟩
theorem se_reverse {j : Nat} {apos : Pos} (ho : SE X a env μ (.cell j) μ1) (hj : μ1[j]? = some (.lst ds))
    (hbase : attributeBase a "reverse" X.env (eval a X.env) = eval a X.env := by rfl) (hline : (apos.endLine == pos.line) = true := by rfl) : SE X (.Call (.Attribute a "reverse" apos) [] [] pos) env μ (.dat .none) (μ1.set j (.lst ds.reverse)) := by
  refine PE.imp (pe_bm0 PySem.F.plainAttrs_list PySem.F.slot_list_reverse PySem.F.type_list_reverse mt_reverse ho hbase hline) fun σ H Q ⟨F, as, hE, W, k⟩ => ?_
  refine ⟨F, as, hE, W, fun v F1 H1 as1 g1 W1 ⟨p, hp, ev⟩ => ?_⟩
  subst ev
  obtain ⟨_, vs, q, dv⟩ := cell_at W1 hp hj
  have z := W1.setC hp hj dv.reverse
  exact ⟨.inl ⟨rfl, vs, .inl (.inl q)⟩, p, vs, rfl, rfl, q, k _ _ _ as1 (g1.trans z.2) z.1 .non⟩
theorem se_clear {j : Nat} {apos : Pos} (ho : SE X a env μ (.cell j) μ1) (hj : μ1[j]? = some (.lst ds))
    (hbase : attributeBase a "clear" X.env (eval a X.env) = eval a X.env := by rfl) (hline : (apos.endLine == pos.line) = true := by rfl) : SE X (.Call (.Attribute a "clear" apos) [] [] pos) env μ (.dat .none) (μ1.set j (.lst [])) := by
  refine PE.imp (pe_bm0 PySem.F.plainAttrs_list PySem.F.slot_list_clear PySem.F.type_list_clear mt_clear ho hbase hline) fun σ H Q ⟨F, as, hE, W, k⟩ => ?_
  refine ⟨F, as, hE, W, fun v F1 H1 as1 g1 W1 ⟨p, hp, ev⟩ => ?_⟩
  subst ev
  obtain ⟨_, vs, q, dv⟩ := cell_at W1 hp hj
  have z := W1.setC (ds := []) (vs := []) hp hj .nil
  exact ⟨.inl ⟨rfl, vs, .inl (.inl q)⟩, p, vs, rfl, rfl, q, k _ _ _ as1 (g1.trans z.2) z.1 .non⟩
theorem se_pop {j : Nat} {d : PyData} {apos : Pos} (ho : SE X a env μ (.cell j) μ1) (hj : μ1[j]? = some (.lst ds)) (hd : ds[ds.length - 1]? = some d)
    (hbase : attributeBase a "pop" X.env (eval a X.env) = eval a X.env := by rfl) (hline : (apos.endLine == pos.line) = true := by rfl) : SE X (.Call (.Attribute a "pop" apos) [] [] pos) env μ (.dat d) (μ1.set j (.lst ds.dropLast)) := by
  refine PE.imp (pe_bm0 PySem.F.plainAttrs_list PySem.F.slot_list_pop PySem.F.type_list_pop mt_pop ho hbase hline) fun σ H Q ⟨F, as, hE, W, k⟩ => ?_
  refine ⟨F, as, hE, W, fun v F1 H1 as1 g1 W1 ⟨p, hp, ev⟩ => ?_⟩
  subst ev
  obtain ⟨_, vs, q, dv⟩ := cell_at W1 hp hj
  obtain ⟨u, hu, du⟩ := dv.get hd
  have z := W1.setC hp hj dv.dropLast
  exact ⟨.inl ⟨rfl, vs, .inl (.inl q)⟩, p, vs, u, rfl, rfl, q, by rw [dv.length]; exact hu, k _ _ _ as1 (g1.trans z.2) z.1 du⟩
theorem se_insert {j : Nat} {i : Int} {d : PyData} {apos : Pos} (ho : SE X a env μ (.cell j) μ1) (ha : SA X [b, e] env μ1 [.dat (.int i), .dat d] μ2) (h1 : ∃ ds0, μ1[j]? = some (.lst ds0)) (hj : μ2[j]? = some (.lst ds)) (hz : ds.length < sizeLine) (hi : 0 ≤ i ∧ i < 2 ^ 63)
    (hbase : attributeBase a "insert" X.env (eval a X.env) = eval a X.env := by rfl) (hline : (apos.endLine == pos.line) = true := by rfl)
    (hs : starEach [b, e] X.env = [(false, eval b X.env), (false, eval e X.env)] := by rfl) (hs1 : starEach [e] X.env = [(false, eval e X.env)] := by rfl) :
    SE X (.Call (.Attribute a "insert" apos) [b, e] [] pos) env μ (.dat .none) (μ2.set j (.lst (ds.take i.toNat ++ [d] ++ ds.drop i.toNat))) := by
  refine PE.imp (pe_bm PySem.F.plainAttrs_list PySem.F.slot_list_insert PySem.F.type_list_insert mt_insert ho ha hbase (by rw [hs]; rfl) hline (by rw [hs, hs1]) (by rw [hs1]; rfl)) fun σ H Q ⟨F, as, hE, W, k⟩ => ?_
  refine ⟨F, as, hE, W, fun v F1 H1 as1 g1 W1 ⟨p, hp, ev⟩ => ?_⟩
  subst ev
  obtain ⟨ds0, h1⟩ := h1
  obtain ⟨_, vs0, q0, _⟩ := cell_at W1 hp h1
  refine ⟨.inl ⟨rfl, vs0, .inl (.inl q0)⟩, F1, as1, hE.mono g1, W1, fun us F2 H2 as2 g2 W2 r2 => ?_⟩
  cases r2 with
  | cons r t =>
    cases t with
    | cons r' t' =>
      cases t'
      cases r
      obtain ⟨_, vs, q, dv⟩ := cell_at W2 (g2.at hp) hj
      have z := W2.setC (g2.at hp) hj (((dv.take i.toNat).append (.cons r' .nil)).append (dv.drop i.toNat))
      exact ⟨p, vs, i, _, rfl, rfl, q, by rw [dv.length]; exact hz, hi.1, hi.2, k _ _ _ as2 ((g1.trans g2).trans z.2) z.1 .non⟩
end
end Sy

/-! Sy6: contracts of defs, calls. -/
namespace Sy
open PySem PySem.Spec PyProof.Rows L2

/-- what a def promises: from arguments and cells to a value and cells -/
def spC (C : List SV → Mu → SV → Mu → Prop) : Sp := fun vs H Q _ => ∃ F as args μ sv μ', C args μ sv μ' ∧ RAll F as args vs ∧ Wd F H as μ ∧
  ∀ v F' H' as', Go F H as F' H' as' → Wd F' H' as' μ' → RSV F' as' sv v → Q v H'

/-- from a body's end to the promise: local cells are dropped, a local list goes out -/
inductive Ret : SV → Mu → SV → Mu → Prop
  | same {sv : SV} {μ : Mu} : Ret sv μ sv μ
  | drop {d : PyData} {μ ext : Mu} : Ret (.dat d) (μ ++ ext) (.dat d) μ
  | frz {j : Nat} {ds : List PyData} {μ ext : Mu} : (μ ++ ext)[j]? = some (.lst ds) → μ.length ≤ j → Ret (.cell j) (μ ++ ext) (.dat (.list ds)) μ
  | fresh {j : Nat} {ds : List PyData} {μ ext : Mu} : (μ ++ ext)[j]? = some (.lst ds) → μ.length ≤ j → Ret (.cell j) (μ ++ ext) (.cell μ.length) (μ ++ [.lst ds])

theorem take_at {α : Type} {l : List α} {n j : Nat} {x : α} (h : (l.take n)[j]? = some x) : l[j]? = some x ∧ j < n := by
  rw [List.getElem?_take] at h
  split at h
  · exact ⟨h, by assumption⟩
  · exact nomatch h
/-- what is new among the cells speaks of cells among them, and not of what is told -/
def Keeps (sv : SV) (μ μ' : Mu) : Prop := ∀ (j : Nat) (c : Cell), μ'[j]? = some c → μ[j]? = some c ∨ ∀ i ∈ c.refs, i < μ'.length ∧ sv ≠ .cell i
theorem Keeps.same {sv : SV} {μ : Mu} : Keeps sv μ μ := fun _ _ h => .inl h
/-- the cells speak of cells among them -/
def Low (μ : Mu) : Prop := ∀ (j : Nat) (c : Cell), μ[j]? = some c → ∀ i ∈ c.refs, i < μ.length
theorem Wd.lows {F H : Hp} {as : List Addr} {μ : Mu} (W : Wd F H as μ) : Low μ := fun _ _ h => W.low h
theorem Wd.cut {F H : Hp} {as : List Addr} {μ ext : Mu} (W : Wd F H as (μ ++ ext)) (lo : Low μ) : Wd F H (as.take μ.length) μ := by
  refine ⟨W.sub, List.Sublist.nodup (List.take_sublist _ _) W.nd, ?_, fun j a c ha hc => ?_, fun a ha => W.seen a (List.mem_of_mem_take ha)⟩
  · have := W.len
    rw [List.length_append] at this
    rw [List.length_take]
    omega
  · obtain ⟨h1, h2⟩ := take_at ha
    refine (W.ok j a c h1 (by rw [List.getElem?_append_left h2]; exact hc)).go (Same.refl F) (fun z => z) (fun o z => z) (fun i hi b z => ?_)
    rw [List.getElem?_take, if_pos (lo j c hc i hi)]
    exact z
theorem Go.cut {F H F' H' : Hp} {as as' : List Addr} (g : Go F H as F' H' as') {n : Nat} (h : as.length ≤ n) : Go F H as F' H' (as'.take n) := by
  obtain ⟨more, e, nw⟩ := g.pre
  refine ⟨g.keep, g.dom, g.sub, g.new, more.take (n - as.length), ?_, fun a ha => nw a (List.mem_of_mem_take ha)⟩
  rw [e, List.take_append, List.take_of_length_le h]
/-- a local cell becomes stable -/
theorem Wd.frz {F H : Hp} {as : List Addr} {μ ext : Mu} {j : Nat} {a : Addr} {ds : List PyData} (W : Wd F H as (μ ++ ext)) (ha : as[j]? = some a) (hj : (μ ++ ext)[j]? = some (.lst ds)) (hl : μ.length ≤ j) (lo : Low μ) :
    ∃ vs, H a = some (.lst vs) ∧ F a = none ∧ Wd (upd F a (.lst vs)) H (as.take μ.length) μ ∧ DV (upd F a (.lst vs)) (.ref a) (.list ds) ∧ Same F (upd F a (.lst vs)) := by
  obtain ⟨nF, vs, hv, dv⟩ := W.ok j a _ ha hj
  have sF : Same F (upd F a (.lst vs)) := fun b u e => by rw [upd_ne (ne_of_none e nF)]; exact e
  refine ⟨vs, hv, nF, ⟨fun b u e => ?_, (W.cut lo).nd, (W.cut lo).len, fun k b c hb hc => ?_, (W.cut lo).seen⟩, .lst upd_same (dv.mono sF), sF⟩
  · by_cases hb : b = a
    · subst hb; rw [upd_same] at e; rw [hv]; exact e
    · rw [upd_ne hb] at e; exact W.sub b u e
  · have kk := (W.cut lo).ok k b c hb hc
    have hba : b ≠ a := fun z => by
      subst z
      have h1 := (take_at hb)
      have := nodup_inj W.nd h1.1 ha
      omega
    exact kk.go sF (fun z => by rw [upd_ne hba]; exact z) (fun _ z => z) (fun _ _ _ z => z)
theorem Ret.run {sv2 sv : SV} {μ2 μ' μ0 : Mu} (r : Ret sv2 μ2 sv μ') {F H F2 H2 : Hp} {as as2 : List Addr} {v : V} (W0 : Wd F H as μ0) (hl : μ0.length ≤ μ'.length) (hc : ∀ j, sv = .cell j → μ0.length ≤ j) (lo0 : Keeps sv μ0 μ') (g : Go F H as F2 H2 as2) (W : Wd F2 H2 as2 μ2) (rv : RSV F2 as2 sv2 v) : ∃ F3 as3, Go F H as F3 H2 as3 ∧ Wd F3 H2 as3 μ' ∧ RSV F3 as3 sv v := by
  have l0 := W0.len
  have lo : Low μ' := fun j c h i hi => by
    rcases lo0 j c h with z | z
    · exact Nat.lt_of_lt_of_le (W0.low z i hi) hl
    · exact (z i hi).1
  cases r with
  | same => exact ⟨F2, as2, g, W, rv⟩
  | drop => exact ⟨F2, _, g.cut (by omega), W.cut lo, rv⟩
  | @frz j ds _ ext hj hle =>
    obtain ⟨a, ha, rfl⟩ := rv
    obtain ⟨vs, hv, nF, W3, d3, sF⟩ := W.frz ha hj hle lo
    have gc := g.cut (n := μ'.length) (by omega)
    refine ⟨_, _, ⟨gc.keep, gc.dom, gc.sub.trans sF, fun b h h' => ?_, gc.pre⟩, W3, d3⟩
    by_cases hb : b = a
    · subst hb
      obtain ⟨more, e, nw⟩ := g.pre
      rw [e, List.getElem?_append_right (by omega)] at ha
      exact .inl (nw b (List.mem_of_getElem? ha))
    · rw [upd_ne hb] at h'; exact g.new b h h'
  | @fresh j ds μ ext hj hle =>
    obtain ⟨a, ha, rfl⟩ := rv
    have loF : Low μ := fun k c h i hi => by
      have hk : (μ ++ [Cell.lst ds])[k]? = some c := by rw [List.getElem?_append_left (List.getElem?_eq_some_iff.mp h).1]; exact h
      have h0 := hc _ rfl
      rcases lo0 k c hk with z | z
      · have := W0.low z i hi
        omega
      · obtain ⟨z1, z2⟩ := z i hi
        rw [List.length_append] at z1
        have : i ≠ μ.length := fun q => z2 (by rw [q])
        have z1 : i < μ.length + 1 := z1
        omega
    obtain ⟨nF, vs, hv, dv⟩ := W.ok j a _ ha hj
    have hlen : (as2.take μ.length).length = μ.length := (W.cut loF).len
    have hm : μ0.length ≤ μ.length := hc _ rfl
    have gc := g.cut (n := μ.length) (by omega)
    obtain ⟨more, e, nw⟩ := gc.pre
    obtain ⟨more2, e2, nw2⟩ := g.pre
    have na : a ∉ as2.take μ.length := fun z => by
      obtain ⟨k, hk⟩ := List.getElem?_of_mem z
      have h1 := take_at hk
      have := nodup_inj W.nd h1.1 ha
      omega
    have fresh0 : H a = none := by
      have ha' := ha
      rw [e2, List.getElem?_append_right (by omega)] at ha'
      exact nw2 a (List.mem_of_getElem? ha')
    refine ⟨F2, as2.take μ.length ++ [a], ⟨gc.keep, gc.dom, gc.sub, gc.new, more ++ [a], by rw [e, List.append_assoc], fun b hb => ?_⟩, ⟨W.sub, ?_, by rw [List.length_append, List.length_append, hlen]; rfl, fun k b c hb hk => ?_, fun b hb => ?_⟩, a, ?_, rfl⟩
    · rcases List.mem_append.mp hb with z | z
      · exact nw b z
      · rw [List.mem_singleton.mp z]; exact fresh0
    · rw [List.nodup_append]
      exact ⟨(W.cut loF).nd, by simp, fun b hb b' hb' z => na (by rw [List.mem_singleton.mp hb'] at z; rw [← z]; exact hb)⟩
    · by_cases hk2 : k < μ.length
      · rw [List.getElem?_append_left (by omega)] at hb
        rw [List.getElem?_append_left hk2] at hk
        exact ((W.cut loF).ok k b c hb hk).go (Same.refl _) (fun z => z) (fun _ z => z) (fun i _ b z => by rw [List.getElem?_append_left (List.getElem?_eq_some_iff.mp z).1]; exact z)
      · rw [List.getElem?_append_right (by omega)] at hb hk
        rw [hlen] at hb
        have e0 : k - μ.length = 0 := by
          have := (List.getElem?_eq_some_iff.mp hb).1
          simp at this
          omega
        rw [e0] at hb hk
        simp at hb hk
        subst hb hk
        exact ⟨nF, vs, hv, dv⟩
    · rcases List.mem_append.mp hb with z | z
      · exact (W.cut loF).seen b z
      · rw [List.mem_singleton.mp z, hv]; exact fun q => nomatch q
    · rw [List.getElem?_append_right (by omega), hlen, Nat.sub_self]; rfl
/-- the outcomes that make a promise true -/
def RetTo (sv : SV) (μ' : Mu) : Out → Prop
  | .ret s2 m2 => Ret s2 m2 sv μ'
  | .next _ m2 => Ret (.dat .none) m2 sv μ'
  | _ => False
theorem env_start {F : Hp} {as : List Addr} : ∀ {args : List SV} {vs : List V}, RAll F as args vs → ∀ n : Nat, EnvOk F as (args.map some ++ List.replicate (n - args.length) none) (vs.map some ++ List.replicate (n - vs.length) none) := by
  intro args vs r n
  have hl : args.length = vs.length := Paired.length r
  refine ⟨by simp [hl], fun i sv e => ?_⟩
  by_cases hi : i < args.length
  · rw [List.getElem?_append_left (by simpa using hi), List.getElem?_map] at e
    cases ea : args[i]? with
    | none => rw [ea] at e; exact nomatch e
    | some s =>
      rw [ea] at e
      obtain rfl : s = sv := Option.some.inj (Option.some.inj e)
      have : ∀ {l : List SV} {k : List V} {i : Nat}, RAll F as l k → l[i]? = some s → ∃ v, k[i]? = some v ∧ RSV F as s v := by
        intro l k i h
        induction h generalizing i with
        | nil => intro z; simp at z
        | cons h1 h2 ih =>
          intro z
          cases i with
          | zero => simp at z; subst z; exact ⟨_, rfl, h1⟩
          | succ i => obtain ⟨v, q1, q2⟩ := ih (i := i) (by simpa using z); exact ⟨v, by simpa using q1, q2⟩
      obtain ⟨v, q1, q2⟩ := this r ea
      refine ⟨v, ?_, q2⟩
      rw [List.getElem?_append_left (by simpa [← hl] using hi), List.getElem?_map, q1]
      rfl
  · rw [List.getElem?_append_right (by simpa using hi)] at e
    rw [List.getElem?_replicate] at e
    split at e
    · exact nomatch e
    · exact nomatch e
/-- the arity, and no cell is lost -/
def CtOk (C : List SV → Mu → SV → Mu → Prop) (n : Nat) : Prop := ∀ args μ sv μ', C args μ sv μ' → args.length = n ∧ μ.length ≤ μ'.length ∧ (∀ j, sv = .cell j → μ.length ≤ j) ∧ Keeps sv μ μ'
section
variable {w : World} {P : Program} {base : Heap} {mg : Str → Option Value} {K : PySem.W.Frag}
abbrev bodyX (P : Program) (w : World) (K : PySem.W.Frag) (mg : Str → Option Value) (base : Heap) (N : List Str) (qual : Str) (st : Stmt) (f : Addr) (cdv : Value) (A : Around) (outer : List Env) (s : Shared) (H : Hp) (E : XK) : Cx :=
  (cxOf CX0 P w K mg base N qual (defScope st) f cdv A outer s H E).nox
theorem body_run {X : Cx} {body : List Stmt} {N ps : List Str} {C : List SV → Mu → SV → Mu → Prop} {vs : List V} {H : Hp} {Q : VK} {E : XK} (ct : CtOk C ps.length) (h : spC C vs H Q E)
    (hb : ∀ args μ sv μ', C args μ sv μ' → SSs X body (args.map some ++ List.replicate (N.length - args.length) none) μ (RetTo sv μ')) :
    ∃ t, PSs X body t ∧ t { nx := fun _ H' => Q .non H', rt := Q } (start N vs) H := by
  obtain ⟨F, as, args, μ, sv, μ', hC, r, W, k⟩ := h
  obtain ⟨c1, c2, c3, c4⟩ := ct _ _ _ _ hC
  refine ⟨_, hb args μ sv μ' hC, F, as, env_start r N.length, W, ?_, ?_, ?_, ?_⟩
  · intro env2 m2 σ2 F2 H2 as2 h2 g2 e2 W2
    obtain ⟨F3, as3, g3, W3, r3⟩ := Ret.run h2 W c2 c3 c4 g2 W2 .non
    exact k _ F3 H2 as3 g3 W3 r3
  · intro s2 m2 v F2 H2 as2 h2 g2 W2 r2
    obtain ⟨F3, as3, g3, W3, r3⟩ := Ret.run h2 W c2 c3 c4 g2 W2 r2
    exact k _ F3 H2 as3 g3 W3 r3
  · exact fun _ _ _ _ _ _ h => h.elim
  · exact fun _ _ _ _ _ _ h => h.elim
theorem okC {x qual : Str} {st : Stmt} {f : Addr} {fd : FuncData} {N ps : List Str} {k : Nat} {C : List SV → Mu → SV → Mu → Prop} (F : Fun K x qual st f fd) (S : FnScope N ps (defScope st)) (ct : CtOk C ps.length)
    (hb : ∀ (cdv : Value) (A : Around) (outer : List Env) (s : Shared) (H : Hp) (E : XK), Room k (A.deeper (envOfC qual (defScope st) s.heap.objs.size f cdv)) → ∀ args μ sv μ', C args μ sv μ' →
      SSs (bodyX P w K mg base N qual st f cdv A outer s H E) (defBody st) (args.map some ++ List.replicate (N.length - args.length) none) μ (RetTo sv μ')) : FnOk P w K mg base CX0 (k + 1) f fd ps (spC C) := by
  refine F.ok S (fun vs H Q E ⟨F, as, args, μ, sv, μ', hC, r, _⟩ => ?_) fun cdv A outer s H vs Q E hr h => body_run ct h (hb cdv A outer s H E hr)
  rw [← (ct _ _ _ _ hC).1]
  exact (Paired.length r).symm
theorem okCG {x qual : Str} {st : Stmt} {f : Addr} {fd : FuncData} {N ps : List Str} {k : Nat} {C : List SV → Mu → SV → Mu → Prop} (F : Fun K x qual st f fd) (S : FnScope N ps (defScope st)) (ct : CtOk C ps.length)
    (hb : ∀ (cdv : Value) (A : Around) (outer : List Env) (s : Shared) (H : Hp) (E : XK), A.guards = some [] → Room k (A.deeper (envOfC qual (defScope st) s.heap.objs.size f cdv)) → ∀ args μ sv μ', C args μ sv μ' →
      SSs (bodyX P w K mg base N qual st f cdv A outer s H E) (defBody st) (args.map some ++ List.replicate (N.length - args.length) none) μ (RetTo sv μ')) : Gd.FnG P w K mg base CX0 (k + 1) f fd ps (spC C) := by
  refine Gd.okG F S (fun vs H Q E ⟨F, as, args, μ, sv, μ', hC, r, _⟩ => ?_) fun cdv A outer s H vs Q E gA hr h => body_run ct h (hb cdv A outer s H E gA hr)
  rw [← (ct _ _ _ _ hC).1]
  exact (Paired.length r).symm
/-- a def of the module by its name -/
structure FnS (P : Program) (w : World) (K : PySem.W.Frag) (mg : Str → Option Value) (base : Heap) (k : Nat) (x : Str) (C : List SV → Mu → SV → Mu → Prop) : Prop where
  ex : ∃ f fd ps, FnOk P w K mg base CX0 k f fd ps (spC C) ∧ mg x = some (.ref f) ∧ PySem.W.keepIn K (.ref f) = true ∧ Binds K fd ps []
structure FnSG (P : Program) (w : World) (K : PySem.W.Frag) (mg : Str → Option Value) (base : Heap) (k : Nat) (x : Str) (C : List SV → Mu → SV → Mu → Prop) : Prop where
  ex : ∃ f fd ps, Gd.FnG P w K mg base CX0 k f fd ps (spC C) ∧ mg x = some (.ref f) ∧ PySem.W.keepIn K (.ref f) = true ∧ Binds K fd ps []
theorem FnS.g {k : Nat} {x : Str} {C : List SV → Mu → SV → Mu → Prop} (h : FnS P w K mg base k x C) : FnSG P w K mg base k x C :=
  let ⟨f, fd, ps, h1, h2⟩ := h.ex; ⟨f, fd, ps, Gd.FnG.of h1, h2⟩
end
section
variable {X : Cx} {env : En} {μ μ1 μ' : Mu} {sv : SV} {e : Expr} {es : List Expr} {svs : List SV} {pos p0 : Pos} {x : Str} {k j : Nat} {C : List SV → Mu → SV → Mu → Prop}
theorem call_read {t : TA} (ht : t = rdA env μ svs μ1) (hC : C svs μ1 sv μ') : ∀ σ H Q, rdE env μ sv μ' σ H Q → tCall (spC C) [] E0 t σ H Q := by
  subst ht
  intro σ H Q ⟨F, as, hE, W, k⟩
  refine ⟨F, as, hE, W, fun vs F1 H1 as1 g1 W1 r1 => ?_⟩
  show spC C (vs ++ []) H1 Q E0
  rw [List.append_nil]
  exact ⟨F1, as1, svs, μ1, sv, μ', hC, r1, W1, fun v F2 H2 as2 g2 W2 r2 => k v F2 H2 as2 (g1.trans g2) W2 r2⟩
theorem se_call (F : FnS X.prog X.w X.K X.mg X.base k x C) (hr : Room j X.A) (ha : SA X (e :: es) env μ svs μ1) (hC : C svs μ1 sv μ') (hkj : k ≤ j := by decide) (hg : Gl X x := by rfl) (hdb : (x == ("__debug__" : Str)) = false := by decide)
    (he : starEach (e :: es) X.env = (false, eval e X.env) :: starEach es X.env := by rfl) (hpl : (backTo pos (starEach es X.env)).any (·.1) = false := by rfl) : SE X (.Call (.Name x p0) (e :: es) [] pos) env μ sv μ' := by
  obtain ⟨f, fd, ps, h1, h2, h3, h4⟩ := F.ex
  exact PE.imp (pe_call h1 (hr.mono hkj) hg h2 h3 h4 .nil pass0 ha hdb he hpl) (call_read rfl hC)
theorem se_callG (F : FnSG X.prog X.w X.K X.mg X.base k x C) (gX : X.A.guards = some []) (hr : Room j X.A) (ha : SA X (e :: es) env μ svs μ1) (hC : C svs μ1 sv μ') (hkj : k ≤ j := by decide) (hg : Gl X x := by rfl) (hdb : (x == ("__debug__" : Str)) = false := by decide)
    (he : starEach (e :: es) X.env = (false, eval e X.env) :: starEach es X.env := by rfl) (hpl : (backTo pos (starEach es X.env)).any (·.1) = false := by rfl) : SE X (.Call (.Name x p0) (e :: es) [] pos) env μ sv μ' := by
  obtain ⟨f, fd, ps, h1, h2, h3, h4⟩ := F.ex
  exact PE.imp (Gd.pe_callG h1 gX (hr.mono hkj) hg h2 h3 h4 .nil pass0 ha hdb he hpl) (call_read rfl hC)
end
end Sy

/-! Sy7: the rules in short. -/
namespace Sy
open PySem PySem.Spec PyProof.Rows L2

/-- the built-in names that the module leaves alone -/
structure Bi (mg : Str → Option Value) : Prop where
  len : mg "len" = none
  int : mg "int" = none
  abs : mg "abs" = none
  tuple : mg "tuple" = none
  list : mg "list" = none
  repr : mg "repr" = none
  range : mg "range" = none
section
variable {X : Cx} {env : En} {μ μ1 μ2 μ3 μ' : Mu} {sv s1 s2 s3 : SV} {a b c e : Expr} {es : List Expr} {svs : List SV} {pos p0 p2 : Pos} {k : Nat} {d1 d2 : PyData} {ds : List PyData} {res : Res} {q : Bool}
theorem e_add (ha : SE X a env μ s1 μ1) (hb : SE X b env μ1 s2 μ2) (v1 : Sy.view μ2 s1 = some d1 := by rfl) (v2 : Sy.view μ2 s2 = some d2 := by rfl) (hf : addD d1 d2 = some res := by rfl) (hk : addOk d1 d2 := by first | trivial | assumption | omega | decide | (show Str.length _ ≤ sizeLine; decide))
    (fin : Fi res μ2 sv μ' := by first | exact Sy.Fi.val | exact Sy.Fi.dat | exact Sy.Fi.tup) : SE X (.BinOp a .Add b pos) env μ sv μ' := se_bin op_addA os_add ha hb v1 v2 hf hk fin
theorem e_sub (ha : SE X a env μ s1 μ1) (hb : SE X b env μ1 s2 μ2) (v1 : Sy.view μ2 s1 = some d1 := by rfl) (v2 : Sy.view μ2 s2 = some d2 := by rfl) (hf : subD d1 d2 = some res := by rfl) (hk : noOk d1 d2 := by first | trivial | assumption | omega | decide | (show Str.length _ ≤ sizeLine; decide))
    (fin : Fi res μ2 sv μ' := by exact Sy.Fi.val) : SE X (.BinOp a .Sub b pos) env μ sv μ' := se_bin op_sub os_sub ha hb v1 v2 hf hk fin
theorem e_mul (ha : SE X a env μ s1 μ1) (hb : SE X b env μ1 s2 μ2) (v1 : Sy.view μ2 s1 = some d1 := by rfl) (v2 : Sy.view μ2 s2 = some d2 := by rfl) (hf : mulD d1 d2 = some res := by rfl) (hk : mulOk d1 d2 := by first | exact Or.inr ⟨by decide, by decide⟩ | exact Or.inl ⟨by decide, by decide⟩ | assumption | trivial)
    (fin : Fi res μ2 sv μ' := by first | exact Sy.Fi.val | exact Sy.Fi.dat) : SE X (.BinOp a .Mult b pos) env μ sv μ' := se_bin op_mulA os_mul ha hb v1 v2 hf hk fin
theorem e_fdiv (ha : SE X a env μ s1 μ1) (hb : SE X b env μ1 s2 μ2) (v1 : Sy.view μ2 s1 = some d1 := by rfl) (v2 : Sy.view μ2 s2 = some d2 := by rfl) (hf : fdivD d1 d2 = some res := by rfl) (hk : fdivOk d1 d2 := by first | trivial | assumption | omega | decide | (show Str.length _ ≤ sizeLine; decide))
    (fin : Fi res μ2 sv μ' := by exact Sy.Fi.val) : SE X (.BinOp a .FloorDiv b pos) env μ sv μ' := se_bin op_fdiv os_fdiv ha hb v1 v2 hf hk fin
theorem e_mod (ha : SE X a env μ s1 μ1) (hb : SE X b env μ1 s2 μ2) (v1 : Sy.view μ2 s1 = some d1 := by rfl) (v2 : Sy.view μ2 s2 = some d2 := by rfl) (hf : modD d1 d2 = some res := by rfl) (hk : modOk d1 d2 := by first | trivial | assumption | omega | decide | (show Str.length _ ≤ sizeLine; decide))
    (fin : Fi res μ2 sv μ' := by exact Sy.Fi.val) : SE X (.BinOp a .Mod b pos) env μ sv μ' := se_bin op_mod os_mod ha hb v1 v2 hf hk fin
theorem e_pow (ha : SE X a env μ s1 μ1) (hb : SE X b env μ1 s2 μ2) (v1 : Sy.view μ2 s1 = some d1 := by rfl) (v2 : Sy.view μ2 s2 = some d2 := by rfl) (hf : powD d1 d2 = some res := by rfl) (hk : powOk d1 d2 := by first | trivial | assumption | omega | decide | (show Str.length _ ≤ sizeLine; decide))
    (fin : Fi res μ2 sv μ' := by exact Sy.Fi.val) : SE X (.BinOp a .Pow b pos) env μ sv μ' := se_bin op_pow os_pow ha hb v1 v2 hf hk fin
theorem e_eq (hr : Room k X.A) (ha : SE X a env μ s1 μ1) (hb : SE X b env μ1 s2 μ2) (v1 : Sy.view μ2 s1 = some d1 := by rfl) (v2 : Sy.view μ2 s2 = some d2 := by rfl) (hk : eqOk d1 d2 := by first | trivial | assumption | omega | decide | (show Str.length _ ≤ sizeLine; decide)) :
    SE X (.Compare a [.Eq] [b] pos) env μ (.dat (.bool (PyData.eqv d1 d2))) μ2 := se_cmp (op_eqD hr.units) os_eq (nomark _) ha hb v1 v2 rfl hk Fi.val
theorem t_eq (hr : Room k X.A) (ha : SE X a env μ s1 μ1) (hb : SE X b env μ1 s2 μ2) (v1 : Sy.view μ2 s1 = some d1 := by rfl) (v2 : Sy.view μ2 s2 = some d2 := by rfl) (hk : eqOk d1 d2 := by first | trivial | assumption | omega | decide | (show Str.length _ ≤ sizeLine; decide)) :
    ST X (.Compare a [.Eq] [b] pos) env μ (PyData.eqv d1 d2) μ2 := st_cmp (op_eqD hr.units) os_eq (nomark _) ha hb v1 v2 rfl hk
theorem e_ne (hr : Room k X.A) (ha : SE X a env μ s1 μ1) (hb : SE X b env μ1 s2 μ2) (v1 : Sy.view μ2 s1 = some d1 := by rfl) (v2 : Sy.view μ2 s2 = some d2 := by rfl) (hk : eqOk d1 d2 := by first | trivial | assumption | omega | decide | (show Str.length _ ≤ sizeLine; decide)) :
    SE X (.Compare a [.NotEq] [b] pos) env μ (.dat (.bool (!PyData.eqv d1 d2))) μ2 := se_cmp (op_neD hr.units) os_ne (nomark _) ha hb v1 v2 rfl hk Fi.val
theorem t_ne (hr : Room k X.A) (ha : SE X a env μ s1 μ1) (hb : SE X b env μ1 s2 μ2) (v1 : Sy.view μ2 s1 = some d1 := by rfl) (v2 : Sy.view μ2 s2 = some d2 := by rfl) (hk : eqOk d1 d2 := by first | trivial | assumption | omega | decide | (show Str.length _ ≤ sizeLine; decide)) :
    ST X (.Compare a [.NotEq] [b] pos) env μ (!PyData.eqv d1 d2) μ2 := st_cmp (op_neD hr.units) os_ne (nomark _) ha hb v1 v2 rfl hk
variable {i j : Int}
theorem e_lt (ha : SE X a env μ (.dat (.int i)) μ1) (hb : SE X b env μ1 (.dat (.int j)) μ2) : SE X (.Compare a [.Lt] [b] pos) env μ (.dat (.bool (decide (i < j)))) μ2 := se_cmp op_lt os_lt (nomark _) ha hb rfl rfl rfl trivial Fi.val
theorem e_le (ha : SE X a env μ (.dat (.int i)) μ1) (hb : SE X b env μ1 (.dat (.int j)) μ2) : SE X (.Compare a [.LtE] [b] pos) env μ (.dat (.bool (decide (i ≤ j)))) μ2 := se_cmp op_le os_le (nomark _) ha hb rfl rfl rfl trivial Fi.val
theorem e_gt (ha : SE X a env μ (.dat (.int i)) μ1) (hb : SE X b env μ1 (.dat (.int j)) μ2) : SE X (.Compare a [.Gt] [b] pos) env μ (.dat (.bool (decide (j < i)))) μ2 := se_cmp op_gt os_gt (nomark _) ha hb rfl rfl rfl trivial Fi.val
theorem e_ge (ha : SE X a env μ (.dat (.int i)) μ1) (hb : SE X b env μ1 (.dat (.int j)) μ2) : SE X (.Compare a [.GtE] [b] pos) env μ (.dat (.bool (decide (j ≤ i)))) μ2 := se_cmp op_ge os_ge (nomark _) ha hb rfl rfl rfl trivial Fi.val
theorem t_lt (ha : SE X a env μ (.dat (.int i)) μ1) (hb : SE X b env μ1 (.dat (.int j)) μ2) : ST X (.Compare a [.Lt] [b] pos) env μ (decide (i < j)) μ2 := st_cmp op_lt os_lt (nomark _) ha hb rfl rfl rfl trivial
theorem t_le (ha : SE X a env μ (.dat (.int i)) μ1) (hb : SE X b env μ1 (.dat (.int j)) μ2) : ST X (.Compare a [.LtE] [b] pos) env μ (decide (i ≤ j)) μ2 := st_cmp op_le os_le (nomark _) ha hb rfl rfl rfl trivial
theorem t_gt (ha : SE X a env μ (.dat (.int i)) μ1) (hb : SE X b env μ1 (.dat (.int j)) μ2) : ST X (.Compare a [.Gt] [b] pos) env μ (decide (j < i)) μ2 := st_cmp op_gt os_gt (nomark _) ha hb rfl rfl rfl trivial
theorem t_ge (ha : SE X a env μ (.dat (.int i)) μ1) (hb : SE X b env μ1 (.dat (.int j)) μ2) : ST X (.Compare a [.GtE] [b] pos) env μ (decide (j ≤ i)) μ2 := st_cmp op_ge os_ge (nomark _) ha hb rfl rfl rfl trivial
/-- ints compared -/
theorem t_eqI (hr : Room k X.A) (ha : SE X a env μ (.dat (.int i)) μ1) (hb : SE X b env μ1 (.dat (.int j)) μ2) : ST X (.Compare a [.Eq] [b] pos) env μ (i == j) μ2 :=
  st_cmp (op_eqD hr.units) os_eq (nomark _) ha hb rfl rfl rfl ⟨rfl, rfl⟩
theorem t_neI (hr : Room k X.A) (ha : SE X a env μ (.dat (.int i)) μ1) (hb : SE X b env μ1 (.dat (.int j)) μ2) : ST X (.Compare a [.NotEq] [b] pos) env μ (!(i == j)) μ2 :=
  st_cmp (op_neD hr.units) os_ne (nomark _) ha hb rfl rfl rfl ⟨rfl, rfl⟩
theorem e_eqI (hr : Room k X.A) (ha : SE X a env μ (.dat (.int i)) μ1) (hb : SE X b env μ1 (.dat (.int j)) μ2) : SE X (.Compare a [.Eq] [b] pos) env μ (.dat (.bool (i == j))) μ2 :=
  se_cmp (op_eqD hr.units) os_eq (nomark _) ha hb rfl rfl rfl ⟨rfl, rfl⟩ Fi.val
theorem e_ix (ha : SE X a env μ s1 μ1) (hb : SE X b env μ1 s2 μ2) (v1 : Sy.view μ2 s1 = some d1 := by rfl) (v2 : Sy.view μ2 s2 = some d2 := by rfl) (hf : ixD d1 d2 = some res := by rfl) (hk : ixOk d1 d2 := by first | trivial | assumption | omega | decide | (show Str.length _ ≤ sizeLine; decide))
    (fin : Fi res μ2 sv μ' := by exact Sy.Fi.val) (hp : PlainIx b := by exact fun _ _ => rfl) : SE X (.Subscript a b pos) env μ sv μ' := se_ix ix_seq os_ix hp ha hb v1 v2 hf hk fin
/-- texts compared -/
theorem e_eqS {x y : Str} (ha : SE X a env μ (.dat (.str x)) μ1) (hb : SE X b env μ1 (.dat (.str y)) μ2) : SE X (.Compare a [.Eq] [b] pos) env μ (.dat (.bool (decide (x = y)))) μ2 := by
  refine PE.imp (pe_cmpR op_eq ha hb (nomark _)) fun σ H Q ⟨F, as, he, W, k⟩ => ⟨F, as, he, W, fun u F1 H1 as1 g1 W1 r1 => ⟨F1, as1, he.mono g1, W1, fun v F2 H2 as2 g2 W2 r2 => ?_⟩⟩
  cases r1
  cases r2
  refine ⟨rfl, k _ F2 H2 as2 (g1.trans g2) W2 ?_⟩
  have e : decide (V.str x = V.str y) = decide (x = y) := by simp
  rw [e]
  exact .bl _
theorem e_neS {x y : Str} (ha : SE X a env μ (.dat (.str x)) μ1) (hb : SE X b env μ1 (.dat (.str y)) μ2) : SE X (.Compare a [.NotEq] [b] pos) env μ (.dat (.bool (!decide (x = y)))) μ2 := by
  refine PE.imp (pe_cmpR op_ne ha hb (nomark _)) fun σ H Q ⟨F, as, he, W, k⟩ => ⟨F, as, he, W, fun u F1 H1 as1 g1 W1 r1 => ⟨F1, as1, he.mono g1, W1, fun v F2 H2 as2 g2 W2 r2 => ?_⟩⟩
  cases r1
  cases r2
  refine ⟨rfl, k _ F2 H2 as2 (g1.trans g2) W2 ?_⟩
  have e : decide (V.str x = V.str y) = decide (x = y) := by simp
  rw [e]
  exact .bl _
theorem t_eqS {x y : Str} (ha : SE X a env μ (.dat (.str x)) μ1) (hb : SE X b env μ1 (.dat (.str y)) μ2) : ST X (.Compare a [.Eq] [b] pos) env μ (decide (x = y)) μ2 := by
  refine PT.imp (pt_cmpR op_eq ha hb (nomark _)) fun σ H Q ⟨F, as, he, W, k⟩ => ⟨F, as, he, W, fun u F1 H1 as1 g1 W1 r1 => ⟨F1, as1, he.mono g1, W1, fun v F2 H2 as2 g2 W2 r2 => ?_⟩⟩
  cases r1
  cases r2
  exact ⟨rfl, decide (x = y), by simp, k F2 H2 as2 (g1.trans g2) W2⟩
theorem t_neS {x y : Str} (ha : SE X a env μ (.dat (.str x)) μ1) (hb : SE X b env μ1 (.dat (.str y)) μ2) : ST X (.Compare a [.NotEq] [b] pos) env μ (!decide (x = y)) μ2 := by
  refine PT.imp (pt_cmpR op_ne ha hb (nomark _)) fun σ H Q ⟨F, as, he, W, k⟩ => ⟨F, as, he, W, fun u F1 H1 as1 g1 W1 r1 => ⟨F1, as1, he.mono g1, W1, fun v F2 H2 as2 g2 W2 r2 => ?_⟩⟩
  cases r1
  cases r2
  exact ⟨rfl, !decide (x = y), by simp, k F2 H2 as2 (g1.trans g2) W2⟩
theorem e_neg (ha : SE X a env μ (.dat (.int i)) μ1) : SE X (.UnaryOp .USub a pos) env μ (.dat (.int (-i))) μ1 :=
  PE.imp (pe_un un_neg ha) fun σ H Q ⟨F, as, he, W, k⟩ => ⟨F, as, he, W, fun x F1 H1 as1 g1 W1 r1 => by
    cases r1
    exact ⟨i, rfl, k _ F1 H1 as1 g1 W1 (.int _)⟩⟩
theorem e_sl {i j : Option Int} {lo hi : Option Expr} (he : SE X e env μ s1 μ1) (hl : SO X lo env μ1 i μ2) (hh : SO X hi env μ2 j μ3) (v1 : Sy.view μ3 s1 = some d1 := by rfl) (hk : slOk d1 := by first | trivial | assumption | omega | decide | (show Str.length _ ≤ sizeLine; decide)) (hf : slD d1 i j = some res := by rfl)
    (fin : Fi res μ3 sv μ' := by first | exact Sy.Fi.val | exact Sy.Fi.dat | exact Sy.Fi.tup) : SE X (.Subscript e (.Slice lo hi none p2) pos) env μ sv μ' := se_slice he hl hh v1 hf hk fin
theorem e_l (ha : SA X es env μ svs μ1) (hd : datsOf svs = some ds := by rfl) (hz : ds.length ≤ sizeLine := by first | decide | (simp only [List.length_cons, List.length_nil]; decide) | assumption) : SE X (.List es pos) env μ (.dat (.list ds)) μ1 := se_list ha (datsOf_eq hd) hz Fi.dat
theorem e_lC (ha : SA X es env μ svs μ1) (hd : datsOf svs = some ds := by rfl) (hz : ds.length ≤ sizeLine := by first | decide | (simp only [List.length_cons, List.length_nil]; decide) | assumption) : SE X (.List es pos) env μ (.cell μ1.length) (μ1 ++ [.lst ds]) := se_list ha (datsOf_eq hd) hz Fi.cell
theorem e_t {n : Nat} (ha : SA X es env μ svs μ1) (hd : datsOf svs = some ds := by rfl) (hz : ds.length ≤ sizeLine := by first | decide | (simp only [List.length_cons, List.length_nil]; decide) | assumption) : SE X (.Tuple es n pos) env μ (.dat (.tuple ds)) μ1 := se_tuple ha (datsOf_eq hd) hz
theorem e_len (B : Bi X.mg) (ha : SA X [e] env μ [s1] μ1) (v1 : Sy.view μ1 s1 = some d1 := by rfl) (hk : lenOk [d1] := by first | trivial | assumption | omega | decide | (show Str.length _ ≤ sizeLine; decide)) (hf : lenD [d1] = some res := by rfl) (fin : Fi res μ1 sv μ' := by exact Sy.Fi.val) (hg : Gl X "len" := by rfl)
    (he : starEach [e] X.env = (false, eval e X.env) :: starEach [] X.env := by rfl) : SE X (.Call (.Name "len" p0) [e] [] pos) env μ sv μ' :=
  se_callB cr_len cs_len B.len PySem.boot_len ha (by simp [viewAll, v1]) hf hk fin hg (by decide) (by decide) he rfl
theorem e_int (B : Bi X.mg) (ha : SA X [e] env μ [s1] μ1) (v1 : Sy.view μ1 s1 = some d1 := by rfl) (hf : intD [d1] = some res := by rfl) (fin : Fi res μ1 sv μ' := by exact Sy.Fi.val) (hg : Gl X "int" := by rfl)
    (he : starEach [e] X.env = (false, eval e X.env) :: starEach [] X.env := by rfl) : SE X (.Call (.Name "int" p0) [e] [] pos) env μ sv μ' :=
  se_callTy call_int1 cs_int B.int (by decide +kernel) ha (by simp [viewAll, v1]) hf trivial fin hg (by decide) (by decide) he rfl
theorem e_abs (B : Bi X.mg) (ha : SA X [e] env μ [s1] μ1) (v1 : Sy.view μ1 s1 = some d1 := by rfl) (hf : absD [d1] = some res := by rfl) (fin : Fi res μ1 sv μ' := by exact Sy.Fi.val) (hg : Gl X "abs" := by rfl)
    (he : starEach [e] X.env = (false, eval e X.env) :: starEach [] X.env := by rfl) : SE X (.Call (.Name "abs" p0) [e] [] pos) env μ sv μ' :=
  se_callB call_abs cs_abs B.abs (by decide +kernel) ha (by simp [viewAll, v1]) hf trivial fin hg (by decide) (by decide) he rfl
theorem e_tup (B : Bi X.mg) (ha : SA X [e] env μ [s1] μ1) (v1 : Sy.view μ1 s1 = some d1 := by rfl) (hf : tupD [d1] = some res := by rfl) (fin : Fi res μ1 sv μ' := by exact Sy.Fi.tup) (hg : Gl X "tuple" := by rfl)
    (he : starEach [e] X.env = (false, eval e X.env) :: starEach [] X.env := by rfl) : SE X (.Call (.Name "tuple" p0) [e] [] pos) env μ sv μ' :=
  se_callTy call_tuple_of cs_tup B.tuple (by decide +kernel) ha (by simp [viewAll, v1]) hf trivial fin hg (by decide) (by decide) he rfl
theorem e_lst (B : Bi X.mg) (ha : SA X [e] env μ [s1] μ1) (v1 : Sy.view μ1 s1 = some d1 := by rfl) (hf : lstD [d1] = some res := by rfl) (fin : Fi res μ1 sv μ' := by exact Sy.Fi.dat) (hg : Gl X "list" := by rfl)
    (he : starEach [e] X.env = (false, eval e X.env) :: starEach [] X.env := by rfl) : SE X (.Call (.Name "list" p0) [e] [] pos) env μ sv μ' :=
  se_callTy call_list_of cs_lst B.list (by decide +kernel) ha (by simp [viewAll, v1]) hf trivial fin hg (by decide) (by decide) he rfl
theorem e_repr (B : Bi X.mg) (gX : X.A.guards = some []) (hr : Room k X.A) (ha : SA X [e] env μ [s1] μ1) (v1 : Sy.view μ1 s1 = some d1 := by rfl) (hk : reprOk [d1] := by first | trivial | assumption | omega | decide | (show Str.length _ ≤ sizeLine; decide)) (hg : Gl X "repr" := by rfl)
    (he : starEach [e] X.env = (false, eval e X.env) :: starEach [] X.env := by rfl) : SE X (.Call (.Name "repr" p0) [e] [] pos) env μ (.dat (.str d1.shown)) μ1 :=
  se_callB (Gd.cr_repr gX (by have := hr.un; omega)) cs_repr B.repr (by decide +kernel) ha (by simp [viewAll, v1]) rfl hk Fi.val hg (by decide) (by decide) he rfl
theorem a1 (h : SE X e env μ sv μ1) (hs : starEach [e] X.env = (false, eval e X.env) :: starEach [] X.env := by rfl) : SA X [e] env μ [sv] μ1 := sa_cons h sa_nil hs
theorem a2 {e2 : Expr} (h : SE X e env μ s1 μ1) (h2 : SE X e2 env μ1 s2 μ2) (hs : starEach [e, e2] X.env = (false, eval e X.env) :: starEach [e2] X.env := by rfl) (hs2 : starEach [e2] X.env = (false, eval e2 X.env) :: starEach [] X.env := by rfl) :
    SA X [e, e2] env μ [s1, s2] μ2 := sa_cons h (sa_cons h2 sa_nil hs2) hs
end
end Sy

/-! Sy8: stores by place. -/
namespace Sy
open PySem PySem.Spec PyProof.Rows L2
section
variable {X : Cx} {env : En} {μ μ1 μ2 μ3 μ' : Mu} {sv s1 s2 s3 : SV} {a b c e : Expr} {rest : List Stmt} {R : Out → Prop} {ds : List PyData} {d : PyData} {pos p0 tpos : Pos} {j n : Nat}
def rGetL (K : PySem.W.Frag) : R2 := fun o i H Q => ∃ p xs k v, o = .ref p ∧ i = .int (k : Nat) ∧ SqL K H p xs ∧ xs[k]? = some v ∧ Q v H
theorem get_list : PGet X (rGetL X.K) := by
  intro pins s σ H o i ov iv Q I ro ri h
  obtain ⟨p, xs, k, v, rfl, rfl, hq, hk, q⟩ := h
  cases ro
  obtain ⟨t, rfl⟩ := ri
  obtain ⟨its, r, hl, hz⟩ := I.list hq
  obtain ⟨u, hu, ru⟩ := r.get hk
  have hlt := (List.getElem?_eq_some_iff.mp hu).1
  have hn := line63
  have hrl := r.length
  refine wpAny_getItem_list hl.isList (by omega) (by omega) (x := u) (by simpa using hu) ⟨v, H, I, ru, q⟩
/-- x[n] = e, x a cell -/
theorem sss_setIx (n : Nat) (he : SE X e env μ (.dat d) μ1) (ho : SE X a env μ1 (.cell j) μ2) (hi : SE X b env μ2 (.dat (.int (n : Int))) μ3) (hj : μ3[j]? = some (.lst ds)) (hn : n < ds.length) (hr : SSs X rest env (μ3.set j (.lst (ds.set n d))) R)
    (hs : swapsWithSole [.Subscript a b p0] e pos.line X.env = pure false := by rfl) (hw : swappedStores [.Subscript a b p0] e X.env = pure none := by rfl)
    (h1 : (assignEach [.Subscript a b p0] X.env).map (·.2) = [assign (.Subscript a b p0) X.env] := by rfl)
    (ha : ∀ v, assign (.Subscript a b p0) X.env v = (do
      let ov ← holding [v] (eval a X.env)
      let iv ← holding [v, ov] (eval b X.env)
      standAt p0
      holding [v, ov, iv] (setItem ov iv v)
      release [v, ov, iv] []) := by intro _; rfl) : SSs X (.Assign [.Subscript a b p0] e pos :: rest) env μ R := by
  refine sss_cons (PS.imp (ps_asg he (pg_sub ho hi set_list ha) hs hw h1) fun D σ H ⟨F, as, hE, W, kn, _⟩ => ?_)
  refine ⟨F, as, hE, W, fun v F1 H1 as1 g1 W1 r1 => ⟨F1, as1, hE.mono g1, W1, fun o F2 H2 as2 g2 W2 r2 => ⟨F2, as2, (hE.mono g1).mono g2, W2, fun i F3 H3 as3 g3 W3 r3 => ?_⟩⟩⟩
  obtain ⟨p, hp, rfl⟩ := r2
  cases r3
  obtain ⟨_, vs, q, dv⟩ := cell_at W3 (g3.at hp) hj
  have z := W3.setC (g3.at hp) hj (dv.set (DV.mono g3.sub (DV.mono g2.sub r1)) n)
  have g := (g1.trans g2).trans g3
  refine ⟨p, vs, n, n, rfl, rfl, q, ?_, kn env _ σ _ _ as3 hr (g.trans z.2) (((hE.mono g1).mono g2).mono g3 |>.mono z.2) z.1⟩
  unfold ixN
  rw [if_pos (Int.natCast_nonneg n), if_pos (by rw [dv.length]; omega)]
  rfl
/-- x[n] += e, ints -/
theorem sss_augIx (n : Nat) {i k : Int} (ho : SE X a env μ (.cell j) μ1) (hi : SE X b env μ1 (.dat (.int (n : Int))) μ2) (hj : μ2[j]? = some (.lst ds)) (hd : ds[n]? = some (.int i)) (he : SE X e env μ2 (.dat (.int k)) μ2) (hr : SSs X rest env (μ2.set j (.lst (ds.set n (.int (i + k))))) R)
    (ha : ∀ ov iv new, augStore b ov iv new = (do holding [new, ov, iv] (setItem ov iv new); release [new, ov, iv] []; pure .next) := by intros; rfl) : SSs X (.AugAssign (.Subscript a b tpos) .Add e pos :: rest) env μ R := by
  refine sss_cons (PS.imp (ps_augS ho hi get_list he ip_add set_list ha) fun D σ H ⟨F, as, hE, W, kn, _⟩ => ?_)
  refine ⟨F, as, hE, W, fun o F1 H1 as1 g1 W1 r1 => ⟨F1, as1, hE.mono g1, W1, fun v F2 H2 as2 g2 W2 r2 => ?_⟩⟩
  obtain ⟨p, hp, rfl⟩ := r1
  cases r2
  obtain ⟨_, vs, q, dv⟩ := cell_at W2 (g2.at hp) hj
  obtain ⟨u, hu, du⟩ := dv.get hd
  cases du
  refine ⟨p, vs, n, _, rfl, rfl, .inl (.inl q), hu, F2, as2, (hE.mono g1).mono g2, W2, fun y F3 H3 as3 g3 W3 r3 => ?_⟩
  cases r3
  obtain ⟨_, vs3, q3, dv3⟩ := cell_at W3 (g3.at (g2.at hp)) hj
  have z := W3.setC (g3.at (g2.at hp)) hj (dv3.set (.int (i + k)) n)
  have g := (g1.trans g2).trans g3
  refine ⟨i, k, rfl, rfl, p, vs3, n, n, rfl, rfl, q3, ?_, kn env _ σ _ _ as3 hr (g.trans z.2) ((((hE.mono g1).mono g2).mono g3).mono z.2) z.1⟩
  have hlt := (List.getElem?_eq_some_iff.mp hd).1
  unfold ixN
  rw [if_pos (Int.natCast_nonneg n), if_pos (by rw [dv3.length]; omega)]
  rfl
/-- the last cell -/
theorem at_last (m : Mu) (c : Cell) : (m ++ [c])[m.length]? = some c := by simp
end
end Sy

/-! Sy9: outcomes that are told by a property alone. -/
namespace Sy
open PySem PySem.Spec PyProof.Rows L2

def rdEn (env : En) (μ : Mu) (P : SV → Mu → Prop) : TE := fun σ H Q =>
  ∃ F as, EnvOk F as env σ ∧ Wd F H as μ ∧ ∀ sv μ' v F' H' as', P sv μ' → Go F H as F' H' as' → Wd F' H' as' μ' → RSV F' as' sv v → Q v H'
def rdAn (env : En) (μ : Mu) (P : List SV → Mu → Prop) : TA := fun σ H Q =>
  ∃ F as, EnvOk F as env σ ∧ Wd F H as μ ∧ ∀ svs μ' vs F' H' as', P svs μ' → Go F H as F' H' as' → Wd F' H' as' μ' → RAll F' as' svs vs → Q vs H'
def SEn (X : Cx) (e : Expr) (env : En) (μ : Mu) (P : SV → Mu → Prop) : Prop := PE X e (rdEn env μ P)
def SAn (X : Cx) (es : List Expr) (env : En) (μ : Mu) (P : List SV → Mu → Prop) : Prop := PA X es (rdAn env μ P)
/-- what a def promises, by a property of what comes out -/
def spN (Pre : List SV → Mu → Prop) (Post : List SV → Mu → SV → Mu → Prop) : Sp := fun vs H Q _ => ∃ F as args μ, Pre args μ ∧ RAll F as args vs ∧ Wd F H as μ ∧
  ∀ sv μ' v F' H' as', Post args μ sv μ' → Go F H as F' H' as' → Wd F' H' as' μ' → RSV F' as' sv v → Q v H'
section
variable {X : Cx} {env : En} {μ μ1 μ2 μ' : Mu} {sv s1 s2 : SV} {svs : List SV} {a b c e elt iter : Expr} {es ifs : List Expr} {rest body : List Stmt} {R : Out → Prop} {pos p0 p1 spos : Pos} {x y : Str} {scope : Scope} {ds : List PyData} {S : Mu → Prop}
  {P P' : SV → Mu → Prop} {PA : List SV → Mu → Prop}
theorem SE.n (h : SE X e env μ sv μ') : SEn X e env μ (fun s m => s = sv ∧ m = μ') :=
  PE.imp h fun σ H Q ⟨F, as, he, W, k⟩ => ⟨F, as, he, W, fun v F' H' as' g W' r => k _ _ v F' H' as' ⟨rfl, rfl⟩ g W' r⟩
theorem SEn.imp (h : SEn X e env μ P) (i : ∀ s m, P s m → P' s m) : SEn X e env μ P' :=
  PE.imp h fun σ H Q ⟨F, as, he, W, k⟩ => ⟨F, as, he, W, fun s m v F' H' as' p g W' r => k s m v F' H' as' (i s m p) g W' r⟩
theorem SE.p (h : SE X e env μ sv μ') (hp : P sv μ') : SEn X e env μ P := h.n.imp fun _ _ ⟨h1, h2⟩ => h1 ▸ h2 ▸ hp
theorem SA.n (h : SA X es env μ svs μ') : SAn X es env μ (fun s m => s = svs ∧ m = μ') :=
  Sy.PA.imp h fun σ H Q ⟨F, as, he, W, k⟩ => ⟨F, as, he, W, fun v F' H' as' g W' r => k _ _ v F' H' as' ⟨rfl, rfl⟩ g W' r⟩
theorem SAn.imp {PA' : List SV → Mu → Prop} (h : SAn X es env μ PA) (i : ∀ s m, PA s m → PA' s m) : SAn X es env μ PA' :=
  Sy.PA.imp h fun σ H Q ⟨F, as, he, W, k⟩ => ⟨F, as, he, W, fun s m v F' H' as' p g W' r => k s m v F' H' as' (i s m p) g W' r⟩
/-- first an expression, then the other arguments -/
theorem san_cons {PA : SV → List SV → Mu → Prop} (he : SEn X e env μ P) (ht : ∀ s m, P s m → SAn X es env m (PA s)) (hs : starEach (e :: es) X.env = (false, eval e X.env) :: starEach es X.env := by rfl) :
    SAn X (e :: es) env μ (fun svs m => ∃ s r, svs = s :: r ∧ PA s r m) := by
  have h2 : L2.PA X es (fun σ H Q => ∃ s m, SAn X es env m (PA s) ∧ rdAn env m (PA s) σ H Q) := ⟨fun pos pins s σ H Q I ⟨s0, m, h, q⟩ => h.run pos pins s σ H Q I q⟩
  refine Sy.PA.imp (pa_cons he h2 hs) fun σ H Q ⟨F, as, hE, W, k⟩ => ⟨F, as, hE, W, fun s m v F1 H1 as1 p g1 W1 r1 => ?_⟩
  refine ⟨s, m, ht s m p, F1, as1, hE.mono g1, W1, fun svs m2 vs F2 H2 as2 p2 g2 W2 r2 => ?_⟩
  exact k (s :: svs) m2 _ F2 H2 as2 ⟨s, svs, rfl, p2⟩ (g1.trans g2) W2 (.cons (RSV.mono g2 r1) r2)
theorem san_nil : SAn X [] env μ (fun svs m => svs = [] ∧ m = μ) := SA.n sa_nil
/-- statements -/
theorem sss_setN (i : Nat) (hN : X.N.Nodup) (he : SEn X e env μ P) (hr : ∀ sv m, P sv m → SSs X rest (env.set i (some sv)) m R) (hi : X.N[i]? = some x := by rfl)
    (hx : Loc X.env.scope x := by first | exact .inl rfl | exact .inr rfl) (hs : swapsWith e (some (.Name x p0)) pos.line X.env = pure false := by rfl)
    (hf : X.fn x = true ∨ X.env.scope.names.lookup x = some .local := by first | exact .inl rfl | exact .inr rfl) : SSs X (.Assign [.Name x p0] e pos :: rest) env μ R := by
  refine sss_cons (PS.imp (ps_set hN hi hx he hs hf) fun D σ H ⟨F, as, hE, W, kn, _⟩ => ?_)
  refine ⟨F, as, hE, W, fun s m v F1 H1 as1 p g1 W1 r1 => ?_⟩
  exact kn _ m _ F1 H1 as1 (hr s m p) g1 ((hE.mono g1).set r1 i) W1
theorem sss_retN (he : SEn X e env μ P) (hr : ∀ sv m, P sv m → R (.ret sv m)) : SSs X (.Return (some e) pos :: rest) env μ R := by
  refine sss_cons (PS.imp (ps_ret he) fun D σ H ⟨F, as, hE, W, _, kr, _⟩ => ?_)
  exact ⟨F, as, hE, W, fun s m v F1 H1 as1 p g1 W1 r1 => kr s m v F1 H1 as1 (hr s m p) g1 W1 r1⟩
theorem sss_exprN (he : SEn X e env μ P) (hr : ∀ sv m, P sv m → SSs X rest env m R) (hs : swapsWith e none pos.line X.env = pure false := by rfl) : SSs X (.Expr e pos :: rest) env μ R := by
  refine sss_cons (PS.imp (ps_expr he hs) fun D σ H ⟨F, as, hE, W, kn, _⟩ => ?_)
  exact ⟨F, as, hE, W, fun s m v F1 H1 as1 p g1 W1 r1 => kn env m σ F1 H1 as1 (hr s m p) g1 (hE.mono g1) W1⟩
theorem sss_parN (i j : Nat) {pt pt2 : Pos} {kt k2 : Nat} (hc : X.calm = true) (hN : X.N.Nodup) (ha : SAn X [a, b] env μ PA) (hr : ∀ s1 s2 m, PA [s1, s2] m → SSs X rest ((env.set i (some s1)).set j (some s2)) m R)
    (hi : X.N[i]? = some x := by rfl) (hj : X.N[j]? = some y := by rfl) (hij : i ≠ j := by decide) (hx : X.env.scope.names.lookup x = some .local := by rfl) (hy : X.env.scope.names.lookup y = some .local := by rfl)
    (hw : swappedStores [.Tuple [.Name x p0, .Name y p1] kt pt] (.Tuple [a, b] k2 pt2) X.env = pure (some [x, y]) := by rfl)
    (hs : swapsWithSole [.Tuple [.Name x p0, .Name y p1] kt pt] (.Tuple [a, b] k2 pt2) pos.line X.env = pure false := by rfl)
    (h2 : ∀ svs m, PA svs m → svs.length = 2 := by first | (rintro _ _ ⟨_, _, rfl, _, _, rfl, rfl, _⟩; rfl) | (rintro _ _ ⟨rfl, _⟩; rfl)) :
    SSs X (.Assign [.Tuple [.Name x p0, .Name y p1] kt pt] (.Tuple [a, b] k2 pt2) pos :: rest) env μ R := by
  refine sss_cons (PS.imp (ps_par hc hN hi hj hij hx hy ha hw hs) fun D σ H ⟨F, as, hE, W, kn, _⟩ => ?_)
  refine ⟨F, as, hE, W, fun svs m vs F1 H1 as1 p g1 W1 r1 => ?_⟩
  match svs, h2 svs m p with
  | [s1, s2], _ =>
    cases r1 with
    | cons h1 t1 =>
      cases t1 with
      | cons h2 t2 =>
        cases t2
        exact ⟨_, _, rfl, kn _ m _ F1 H1 as1 (hr s1 s2 m p) g1 (((hE.mono g1).set h1 i).set h2 j) W1⟩
/-- built-in calls over data that is told by a property -/
theorem callN_run {t : TA} {r : List V → Hp → VK → Prop} {f : List PyData → Option Res} {ok : List PyData → Prop} (hs : CaS r f ok) (ht : t = rdAn env μ PA)
    (hp : ∀ svs m, PA svs m → ∃ ds res s m', viewAll m svs = some ds ∧ f ds = some res ∧ ok ds ∧ Fi res m s m' ∧ P s m') : ∀ σ H Q, rdEn env μ P σ H Q → tCB r t σ H Q := by
  subst ht
  intro σ H Q ⟨F, as, he, W, k⟩
  refine ⟨F, as, he, W, fun svs m xs F1 H1 as1 p g1 W1 r1 => ?_⟩
  obtain ⟨ds, res, s, m', h1, h2, h3, h4, h5⟩ := hp svs m p
  refine hs F1 H1 xs ds res Q W1.sub (W1.views r1 h1) h2 h3 ?_
  exact h4.run W1 fun v F3 H3 as3 g3 W3 r3 => k s m' v F3 H3 as3 h5 (g1.trans g3) W3 r3
theorem sen_tup (B : Bi X.mg) (ha : SEn X e env μ (fun s m => ∃ ds, s = .dat (.list ds) ∧ P (.dat (.tuple ds)) m)) (hg : Gl X "tuple" := by rfl) (he : starEach [e] X.env = (false, eval e X.env) :: starEach [] X.env := by rfl) :
    SEn X (.Call (.Name "tuple" p0) [e] [] pos) env μ P := by
  refine PE.imp (pe_callTy call_tuple_of hg B.tuple (by decide +kernel) (san_cons ha (PA := fun s r m => r = [] ∧ ∃ ds, s = .dat (.list ds) ∧ P (.dat (.tuple ds)) m) (fun s m h => san_nil.imp fun r m2 ⟨h1, h2⟩ => ⟨h1, h2 ▸ h⟩) he) (by decide) (by decide) he rfl)
    (callN_run cs_tup rfl fun svs m ⟨s, r, e1, e2, ds, e3, hp⟩ => ?_)
  subst e2 e3 e1
  exact ⟨[.list ds], .newT ds, _, m, rfl, rfl, trivial, Fi.tup, hp⟩
/-- a comprehension whose elements are told by a property -/
def TurnN (X : Cx) (scope : Scope) (elt : Expr) (ifs : List Expr) (env : En) (I : Nat → List PyData → Mu → Prop) (i k : Nat) (d : PyData) (acc : List PyData) (m : Mu) : Prop :=
  ∃ q m1, AllB X scope (fun B => STs B ifs (env.set i (some (.dat d))) m q m1) ∧
    (q = true → AllB X scope fun B => SEn B elt (env.set i (some (.dat d))) m1 (fun s m2 => ∃ d', s = .dat d' ∧ I (k + 1) (acc ++ [d']) m2)) ∧ (q = false → I (k + 1) acc m1)
def rdEEn (X : Cx) (scope : Scope) (elt : Expr) : TE := fun σ H Q => ∃ env m P, AllB X scope (fun B => SEn B elt env m P) ∧ rdEn env m P σ H Q
theorem lcN_read (i : Nat) (I : Nat → List PyData → Mu → Prop) (hz : ds.length ≤ sizeLine) (h0 : I 0 [] μ1) (hS : ∀ k acc m, I k acc m → S m)
    (hs : ∀ k d acc m, ds[k]? = some d → I k acc m → TurnN X scope elt ifs env I i k d acc m) (hd : ∀ acc m, I ds.length acc m → ∃ s m', Fi (.newL acc) m s m' ∧ P s m') :
    ∀ σ H Q, rdEn env μ P σ H Q → tLc (rdI env μ ds μ1 S) (gName i) (rdTT X scope ifs) (rdEEn X scope elt) [i] σ H Q := by
  intro σ H Q ⟨F, as, hE, W, k⟩
  refine ⟨F, as, hE, W, fun J G Y F1 H1 as1 g1 W1 w hG hY D nD => ?_⟩
  have nH : H D = none := g1.dom D nD
  refine lc_it (g := gName i) (tt := rdTT X scope ifs) (te := rdEEn X scope elt) w (fun k H2 => ∃ acc m F2 as2 vs, I k acc m ∧ acc.length ≤ k ∧ Wd F2 H2 as2 m ∧ Go F1 H1 as1 F2 H2 as2 ∧ H2 D = some (.lst vs) ∧ F2 D = none ∧ D ∉ as2 ∧ DVs F2 vs acc) ?_ ?_ ?_ ?_
  · obtain ⟨f1, f2⟩ := W1.nofree nD
    exact ⟨[], μ1, F1, as1, [], h0, Nat.le_refl _, W1.off f1 f2, (Go.refl _ _ _).off nD, upd_same, f1, f2, .nil⟩
  · rintro k2 H2 _ ⟨acc, m, F2, as2, vs, i2, l2, W2, g2, hD, nF, na, dv⟩
    exact hG F2 H2 as2 m g2 W2 (hS k2 acc m i2)
  · rintro k2 v H2 H' hk ⟨acc, m, F2, as2, vs, i2, l2, W2, g2, hD, nF, na, dv⟩ y
    obtain ⟨rfl, d, hd1, dvd⟩ := hY k2 F2 H2 as2 m v H' g2 W2 (hS k2 acc m i2) y hk
    obtain ⟨q, m1, ht, hT, hF⟩ := hs k2 d acc m hd1 i2
    have env2 : EnvOk F2 as2 (env.set i (some (.dat d))) ((wipe σ [i]).set i (some v)) := by
      have e1 := ((hE.mono g1).mono g2).set (sv := .dat d) dvd i
      show EnvOk F2 as2 _ ((σ.set i none).set i (some v))
      rw [List.set_set]
      exact e1
    refine ⟨?_, env.set i (some (.dat d)), m, q, m1, ht, F2, as2, env2, W2, fun F3 H3 as3 g3 W3 => ?_⟩
    · show ((σ.set i none).set i (some v)).set i none = σ.set i none
      rw [List.set_set, List.set_set]
    · obtain ⟨hD3, nF3, na3⟩ := g3.apart hD nF na
      cases q with
      | true =>
        refine ⟨env.set i (some (.dat d)), m1, _, hT rfl, F3, as3, env2.mono g3, W3, fun s m2 u F4 H4 as4 ⟨d', e', i3⟩ g4 W4 r4 => ?_⟩
        subst e'
        obtain ⟨hD4, nF4, na4⟩ := g4.apart hD3 nF3 na3
        refine ⟨vs, hD4, ?_, acc ++ [d'], m2, F4, as4, vs ++ [u], i3, ?_, W4.off nF4 na4, ((g2.trans g3).trans g4).off nD, upd_same, nF4, na4, ?_⟩
        · rw [dv.length]; omega
        · rw [List.length_append]
          show acc.length + 1 ≤ k2 + 1
          omega
        · exact ((dv.mono g3.sub).mono g4.sub).append (.cons r4 .nil)
      | false => exact ⟨acc, m1, F3, as3, vs, hF rfl, by omega, W3, g2.trans g3, hD3, nF3, na3, dv.mono g3.sub⟩
  · rintro H2 ⟨acc, m, F2, as2, vs, i2, l2, W2, g2, hD, nF, na, dv⟩
    obtain ⟨s, m', fin, hP⟩ := hd acc m i2
    have r := fin.run (W2.era nF na) (Q := Q) fun v F3 H3 as3 g3 W3 r3 => k s m' v F3 H3 as3 hP ((g1.trans (g2.era nD)).trans g3) W3 r3
    have z := r D vs era_same dv
    rw [era_upd hD] at z
    exact z
theorem sen_lc (i : Nat) (I : Nat → List PyData → Mu → Prop) (hc : X.calm = true) (hN : X.N.Nodup) (hi : SI X (.Name x p1) iter env μ ds μ1 S) (ok : BlkOk X.N X.env.scope scope [(x, i)]) (hz : ds.length ≤ sizeLine) (h0 : I 0 [] μ1) (hS : ∀ k acc m, I k acc m → S m)
    (hs : ∀ k d acc m, ds[k]? = some d → I k acc m → TurnN X scope elt ifs env I i k d acc m) (hd : ∀ acc m, I ds.length acc m → ∃ s m', Fi (.newL acc) m s m' ∧ P s m')
    (hn : X.N[i]? = some x := by rfl) (hl : AllB X scope (fun B => Loc B.env.scope x) := by intro _ _ _ _ _; first | exact .inl rfl | exact .inr rfl)
    (hfn : AllB X scope (fun B => B.fn x = true ∨ B.env.scope.names.lookup x = some .local) := by intro _ _ _ _ _; first | exact .inl rfl | exact .inr rfl)
    (hf : ∀ x, foldedSetIterable iter X.env x = pure x := by intro _; rfl) : SEn X (.ListComp elt [⟨.Name x p1, iter, ifs, 0⟩] scope pos) env μ P := by
  refine PE.imp (pe_lc (own := [(x, i)]) (g := gName i) (tt := rdTT X scope ifs) (te := rdEEn X scope elt) hc hN hi ok ?_ ?_ ?_ hf) (lcN_read i I hz h0 hS hs hd)
  · exact fun s H C cl fp => pg_name hN hn (hl s H C cl fp) (hfn s H C cl fp)
  · exact fun s H C cl fp => ⟨fun pins s2 σ H2 Q J ⟨env, m, q, m1, h, z⟩ => (h s H C cl fp).run pins s2 σ H2 Q J z⟩
  · exact fun s H C cl fp => ⟨fun pins s2 σ H2 Q J ⟨env, m, q, h, z⟩ => (h s H C cl fp).run pins s2 σ H2 Q J z⟩
/-- name = [..] -/
theorem sss_setLcN (j : Nat) (i : Nat) (I : Nat → List PyData → Mu → Prop) (hc : X.calm = true) (hN : X.N.Nodup) (hi : SI X (.Name x p1) iter env μ ds μ1 S) (ok : BlkOk X.N X.env.scope scope [(x, i)]) (hz : ds.length ≤ sizeLine) (h0 : I 0 [] μ1) (hS : ∀ k acc m, I k acc m → S m)
    (hs : ∀ k d acc m, ds[k]? = some d → I k acc m → TurnN X scope elt ifs env I i k d acc m) (hd : ∀ acc m, I ds.length acc m → ∃ s m', Fi (.newL acc) m s m' ∧ P s m')
    (hsw : swapsWith (.ListComp elt [⟨.Name x p1, iter, ifs, 0⟩] scope pos) (some (.Name y p0)) spos.line X.env = pure true) (hr : ∀ s m, P s m → SSs X rest (env.set j (some s)) m R)
    (hy : X.N[j]? = some y := by rfl) (hyl : X.env.scope.names.lookup y = some .local := by rfl)
    (hn : X.N[i]? = some x := by rfl) (hl : AllB X scope (fun B => Loc B.env.scope x) := by intro _ _ _ _ _; first | exact .inl rfl | exact .inr rfl)
    (hfn : AllB X scope (fun B => B.fn x = true ∨ B.env.scope.names.lookup x = some .local) := by intro _ _ _ _ _; first | exact .inl rfl | exact .inr rfl)
    (hf : ∀ x, foldedSetIterable iter X.env x = pure x := by intro _; rfl) : SSs X (.Assign [.Name y p0] (.ListComp elt [⟨.Name x p1, iter, ifs, 0⟩] scope pos) spos :: rest) env μ R := by
  refine sss_cons (PS.imp (ps_setLc (i := j) (own := [(x, i)]) (g := gName i) (tt := rdTT X scope ifs) (te := rdEEn X scope elt) hc hN hy hyl hsw hi ok ?_ ?_ ?_ hf) fun D σ H ⟨F, as, hE, W, kn, _⟩ => ?_)
  · exact fun s H C cl fp => pg_name hN hn (hl s H C cl fp) (hfn s H C cl fp)
  · exact fun s H C cl fp => ⟨fun pins s2 σ H2 Q J ⟨env, m, q, m1, h, z⟩ => (h s H C cl fp).run pins s2 σ H2 Q J z⟩
  · exact fun s H C cl fp => ⟨fun pins s2 σ H2 Q J ⟨env, m, q, h, z⟩ => (h s H C cl fp).run pins s2 σ H2 Q J z⟩
  · refine lcN_read i I hz h0 hS hs hd σ H _ ⟨F, as, hE, W, fun s m v F1 H1 as1 p g1 W1 r1 => ?_⟩
    exact kn _ m _ F1 H1 as1 (hr s m p) g1 ((hE.mono g1).set r1 j) W1
end

/-! ### contracts by properties -/
def RetN (Post : SV → Mu → Prop) : Out → Prop := fun o => ∃ sv μ', RetTo sv μ' o ∧ Post sv μ'
def CtN (Pre : List SV → Mu → Prop) (Post : List SV → Mu → SV → Mu → Prop) (n : Nat) : Prop := (∀ args μ, Pre args μ → args.length = n) ∧ ∀ args μ sv μ', Pre args μ → Post args μ sv μ' → μ.length ≤ μ'.length ∧ (∀ j, sv = .cell j → μ.length ≤ j) ∧ Keeps sv μ μ'
section
variable {w : World} {P : Program} {base : Heap} {mg : Str → Option Value} {K : PySem.W.Frag} {Pre : List SV → Mu → Prop} {Post : List SV → Mu → SV → Mu → Prop}
theorem bodyN_run {X : Cx} {body : List Stmt} {N ps : List Str} {vs : List V} {H : Hp} {Q : VK} {E : XK} (ct : CtN Pre Post ps.length) (h : spN Pre Post vs H Q E)
    (hb : ∀ args μ, Pre args μ → SSs X body (args.map some ++ List.replicate (N.length - args.length) none) μ (RetN (Post args μ))) :
    ∃ t, PSs X body t ∧ t { nx := fun _ H' => Q .non H', rt := Q } (start N vs) H := by
  obtain ⟨F, as, args, μ, hC, r, W, k⟩ := h
  refine ⟨_, hb args μ hC, F, as, env_start r N.length, W, ?_, ?_, ?_, ?_⟩
  · rintro env2 m2 σ2 F2 H2 as2 ⟨sv, μ', h2, hp⟩ g2 e2 W2
    obtain ⟨c2, c3, c4⟩ := ct.2 _ _ _ _ hC hp
    obtain ⟨F3, as3, g3, W3, r3⟩ := Ret.run h2 W c2 c3 c4 g2 W2 .non
    exact k _ _ _ F3 H2 as3 hp g3 W3 r3
  · rintro s2 m2 v F2 H2 as2 ⟨sv, μ', h2, hp⟩ g2 W2 r2
    obtain ⟨c2, c3, c4⟩ := ct.2 _ _ _ _ hC hp
    obtain ⟨F3, as3, g3, W3, r3⟩ := Ret.run h2 W c2 c3 c4 g2 W2 r2
    exact k _ _ _ F3 H2 as3 hp g3 W3 r3
  · rintro _ _ _ _ _ _ ⟨_, _, h, _⟩
    exact h.elim
  · rintro _ _ _ _ _ _ ⟨_, _, h, _⟩
    exact h.elim
theorem okN {x qual : Str} {st : Stmt} {f : Addr} {fd : FuncData} {N ps : List Str} {k : Nat} (F : Fun K x qual st f fd) (S : FnScope N ps (defScope st)) (ct : CtN Pre Post ps.length)
    (hb : ∀ (cdv : Value) (A : Around) (outer : List Env) (s : Shared) (H : Hp) (E : XK), Room k (A.deeper (envOfC qual (defScope st) s.heap.objs.size f cdv)) → ∀ args μ, Pre args μ →
      SSs (bodyX P w K mg base N qual st f cdv A outer s H E) (defBody st) (args.map some ++ List.replicate (N.length - args.length) none) μ (RetN (Post args μ))) : FnOk P w K mg base CX0 (k + 1) f fd ps (spN Pre Post) := by
  refine F.ok S (fun vs H Q E ⟨F, as, args, μ, hC, r, _⟩ => ?_) fun cdv A outer s H vs Q E hr h => bodyN_run ct h (hb cdv A outer s H E hr)
  rw [← ct.1 _ _ hC]
  exact (Paired.length r).symm
theorem okNG {x qual : Str} {st : Stmt} {f : Addr} {fd : FuncData} {N ps : List Str} {k : Nat} (F : Fun K x qual st f fd) (S : FnScope N ps (defScope st)) (ct : CtN Pre Post ps.length)
    (hb : ∀ (cdv : Value) (A : Around) (outer : List Env) (s : Shared) (H : Hp) (E : XK), A.guards = some [] → Room k (A.deeper (envOfC qual (defScope st) s.heap.objs.size f cdv)) → ∀ args μ, Pre args μ →
      SSs (bodyX P w K mg base N qual st f cdv A outer s H E) (defBody st) (args.map some ++ List.replicate (N.length - args.length) none) μ (RetN (Post args μ))) : Gd.FnG P w K mg base CX0 (k + 1) f fd ps (spN Pre Post) := by
  refine Gd.okG F S (fun vs H Q E ⟨F, as, args, μ, hC, r, _⟩ => ?_) fun cdv A outer s H vs Q E gA hr h => bodyN_run ct h (hb cdv A outer s H E gA hr)
  rw [← ct.1 _ _ hC]
  exact (Paired.length r).symm
structure FnN (P : Program) (w : World) (K : PySem.W.Frag) (mg : Str → Option Value) (base : Heap) (k : Nat) (x : Str) (Pre : List SV → Mu → Prop) (Post : List SV → Mu → SV → Mu → Prop) : Prop where
  ex : ∃ f fd ps, FnOk P w K mg base CX0 k f fd ps (spN Pre Post) ∧ mg x = some (.ref f) ∧ PySem.W.keepIn K (.ref f) = true ∧ Binds K fd ps []
structure FnNG (P : Program) (w : World) (K : PySem.W.Frag) (mg : Str → Option Value) (base : Heap) (k : Nat) (x : Str) (Pre : List SV → Mu → Prop) (Post : List SV → Mu → SV → Mu → Prop) : Prop where
  ex : ∃ f fd ps, Gd.FnG P w K mg base CX0 k f fd ps (spN Pre Post) ∧ mg x = some (.ref f) ∧ PySem.W.keepIn K (.ref f) = true ∧ Binds K fd ps []
end
section
variable {X : Cx} {env : En} {μ : Mu} {e : Expr} {es : List Expr} {pos p0 : Pos} {x : Str} {k j : Nat} {Pre : List SV → Mu → Prop} {Post : List SV → Mu → SV → Mu → Prop} {PA : List SV → Mu → Prop} {P : SV → Mu → Prop}
theorem callN_read {t : TA} (ht : t = rdAn env μ PA) (hC : ∀ svs m, PA svs m → Pre svs m ∧ ∀ s m', Post svs m s m' → P s m') : ∀ σ H Q, rdEn env μ P σ H Q → tCall (spN Pre Post) [] E0 t σ H Q := by
  subst ht
  intro σ H Q ⟨F, as, hE, W, k⟩
  refine ⟨F, as, hE, W, fun svs m vs F1 H1 as1 p g1 W1 r1 => ?_⟩
  show spN Pre Post (vs ++ []) H1 Q E0
  rw [List.append_nil]
  obtain ⟨h1, h2⟩ := hC svs m p
  exact ⟨F1, as1, svs, m, h1, r1, W1, fun s m' v F2 H2 as2 q g2 W2 r2 => k s m' v F2 H2 as2 (h2 s m' q) (g1.trans g2) W2 r2⟩
theorem sen_call (F : FnN X.prog X.w X.K X.mg X.base k x Pre Post) (hr : Room j X.A) (ha : SAn X (e :: es) env μ PA) (hC : ∀ svs m, PA svs m → Pre svs m ∧ ∀ s m', Post svs m s m' → P s m') (hkj : k ≤ j := by decide) (hg : Gl X x := by rfl) (hdb : (x == ("__debug__" : Str)) = false := by decide)
    (he : starEach (e :: es) X.env = (false, eval e X.env) :: starEach es X.env := by rfl) (hpl : (backTo pos (starEach es X.env)).any (·.1) = false := by rfl) : SEn X (.Call (.Name x p0) (e :: es) [] pos) env μ P := by
  obtain ⟨f, fd, ps, h1, h2, h3, h4⟩ := F.ex
  exact PE.imp (pe_call h1 (hr.mono hkj) hg h2 h3 h4 .nil pass0 ha hdb he hpl) (callN_read rfl hC)
theorem sen_callG (F : FnNG X.prog X.w X.K X.mg X.base k x Pre Post) (gX : X.A.guards = some []) (hr : Room j X.A) (ha : SAn X (e :: es) env μ PA) (hC : ∀ svs m, PA svs m → Pre svs m ∧ ∀ s m', Post svs m s m' → P s m') (hkj : k ≤ j := by decide) (hg : Gl X x := by rfl) (hdb : (x == ("__debug__" : Str)) = false := by decide)
    (he : starEach (e :: es) X.env = (false, eval e X.env) :: starEach es X.env := by rfl) (hpl : (backTo pos (starEach es X.env)).any (·.1) = false := by rfl) : SEn X (.Call (.Name x p0) (e :: es) [] pos) env μ P := by
  obtain ⟨f, fd, ps, h1, h2, h3, h4⟩ := F.ex
  exact PE.imp (Gd.pe_callG h1 gX (hr.mono hkj) hg h2 h3 h4 .nil pass0 ha hdb he hpl) (callN_read rfl hC)
/-- the common case: plain arguments -/
theorem c_call {svs : List SV} {m : Mu} (F : FnN X.prog X.w X.K X.mg X.base k x Pre Post) (hr : Room j X.A) (ha : SA X (e :: es) env μ svs m) (hC : Pre svs m) (hkj : k ≤ j := by decide) (hg : Gl X x := by rfl) (hdb : (x == ("__debug__" : Str)) = false := by decide)
    (he : starEach (e :: es) X.env = (false, eval e X.env) :: starEach es X.env := by rfl) (hpl : (backTo pos (starEach es X.env)).any (·.1) = false := by rfl) : SEn X (.Call (.Name x p0) (e :: es) [] pos) env μ (Post svs m) :=
  sen_call F hr ha.n (fun _ _ ⟨h1, h2⟩ => by subst h1 h2; exact ⟨hC, fun _ _ h => h⟩) hkj hg hdb he hpl
theorem c_callG {svs : List SV} {m : Mu} (F : FnNG X.prog X.w X.K X.mg X.base k x Pre Post) (gX : X.A.guards = some []) (hr : Room j X.A) (ha : SA X (e :: es) env μ svs m) (hC : Pre svs m) (hkj : k ≤ j := by decide) (hg : Gl X x := by rfl) (hdb : (x == ("__debug__" : Str)) = false := by decide)
    (he : starEach (e :: es) X.env = (false, eval e X.env) :: starEach es X.env := by rfl) (hpl : (backTo pos (starEach es X.env)).any (·.1) = false := by rfl) : SEn X (.Call (.Name x p0) (e :: es) [] pos) env μ (Post svs m) :=
  sen_callG F gX hr ha.n (fun _ _ ⟨h1, h2⟩ => by subst h1 h2; exact ⟨hC, fun _ _ h => h⟩) hkj hg hdb he hpl
end
end Sy

/-! Sy10: x, y = a tuple. -/
namespace Sy
open PySem PySem.Spec PyProof.Rows L2
section
variable {X : Cx} {env : En} {μ μ1 : Mu} {e : Expr} {rest : List Stmt} {R : Out → Prop} {pos p0 p1 pt : Pos} {x y : Str} {P : SV → Mu → Prop}
theorem sss_tup2N (i j : Nat) {kt : Nat} (hc : X.calm = true) (hN : X.N.Nodup) (he : SEn X e env μ P) (hr : ∀ sv m, P sv m → ∃ d1 d2, sv = .dat (.tuple [d1, d2]) ∧ SSs X rest ((env.set i (some (.dat d1))).set j (some (.dat d2))) m R)
    (hi : X.N[i]? = some x := by rfl) (hj : X.N[j]? = some y := by rfl) (hx : Loc X.env.scope x := by first | exact .inl rfl | exact .inr rfl) (hy : Loc X.env.scope y := by first | exact .inl rfl | exact .inr rfl)
    (hf : X.fn x = true ∨ X.env.scope.names.lookup x = some .local := by first | exact .inl rfl | exact .inr rfl) (hf2 : X.fn y = true ∨ X.env.scope.names.lookup y = some .local := by first | exact .inl rfl | exact .inr rfl)
    (hs : swapsWithSole [.Tuple [.Name x p0, .Name y p1] kt pt] e pos.line X.env = pure false := by rfl) (hw : swappedStores [.Tuple [.Name x p0, .Name y p1] kt pt] e X.env = pure none := by rfl)
    (h1 : (assignEach [.Tuple [.Name x p0, .Name y p1] kt pt] X.env).map (·.2) = [assign (.Tuple [.Name x p0, .Name y p1] kt pt) X.env] := by rfl) :
    SSs X (.Assign [.Tuple [.Name x p0, .Name y p1] kt pt] e pos :: rest) env μ R := by
  refine sss_cons (PS.imp (ps_asg he (pg_tup hc (pgs_cons (pg_name (i := i) hN hi hx hf) (pgs_cons (pg_name (i := j) hN hj hy hf2) pgs_nil))) hs hw h1) fun D σ H ⟨F, as, hE, W, kn, _⟩ => ?_)
  refine ⟨F, as, hE, W, fun sv m v F1 H1 as1 p g1 W1 r1 => ?_⟩
  obtain ⟨d1, d2, rfl, hq⟩ := hr sv m p
  cases r1 with
  | tup e q =>
    cases q with
    | cons q1 t1 =>
      cases t1 with
      | cons q2 t2 =>
        cases t2
        exact ⟨_, _, rfl, .inl (.inl (W1.sub _ _ e)), rfl, _, _, rfl, _, _, rfl, rfl, kn _ m _ F1 H1 as1 hq g1 (((hE.mono g1).set (sv := .dat d1) q1 i).set (sv := .dat d2) q2 j) W1⟩
theorem sss_tup2 (i j : Nat) {kt : Nat} {d1 d2 : PyData} (hc : X.calm = true) (hN : X.N.Nodup) (he : SE X e env μ (.dat (.tuple [d1, d2])) μ1) (hr : SSs X rest ((env.set i (some (.dat d1))).set j (some (.dat d2))) μ1 R)
    (hi : X.N[i]? = some x := by rfl) (hj : X.N[j]? = some y := by rfl) (hx : Loc X.env.scope x := by first | exact .inl rfl | exact .inr rfl) (hy : Loc X.env.scope y := by first | exact .inl rfl | exact .inr rfl)
    (hf : X.fn x = true ∨ X.env.scope.names.lookup x = some .local := by first | exact .inl rfl | exact .inr rfl) (hf2 : X.fn y = true ∨ X.env.scope.names.lookup y = some .local := by first | exact .inl rfl | exact .inr rfl)
    (hs : swapsWithSole [.Tuple [.Name x p0, .Name y p1] kt pt] e pos.line X.env = pure false := by rfl) (hw : swappedStores [.Tuple [.Name x p0, .Name y p1] kt pt] e X.env = pure none := by rfl)
    (h1 : (assignEach [.Tuple [.Name x p0, .Name y p1] kt pt] X.env).map (·.2) = [assign (.Tuple [.Name x p0, .Name y p1] kt pt) X.env] := by rfl) :
    SSs X (.Assign [.Tuple [.Name x p0, .Name y p1] kt pt] e pos :: rest) env μ R :=
  sss_tup2N i j hc hN he.n (fun _ _ ⟨h, h'⟩ => ⟨d1, d2, h, h' ▸ hr⟩) hi hj hx hy hf hf2 hs hw h1
end
end Sy

set_option maxHeartbeats 2000000
/-! SyT: tuple * int. -/
namespace Sy
open PySem PySem.Spec PyProof.Rows L2
theorem tup_mul1 (l : Addr) (items : Array Value) (n : Nat) (sl : Array (Option Value)) (dd : Option Addr) (u : Tok) :
    Meets (Builtin.«tuple.__mul__» ⟨[.ref l, .int 1 u], []⟩) (fun _ R s => s.heap.get? l = some { cls := .type "tuple", dict := dd, data := .seq items n, slots := sl } ∧ R (.ok (.ret (.ref l))) s) :=
  .of_wp fun prog w A R s h => by
    obtain ⟨hp, g, d, tk, os⟩ := s
    obtain ⟨hl, h⟩ := h
    have f1 := AutoSeq1.idx_int
    wp_walk using wpAny_loadPart' hl
    exact ⟨_, rfl, h⟩
section
variable {X : Cx}
def rRep1 (K : PySem.W.Frag) : R2 := fun x y H Q => ∃ l xs, x = .ref l ∧ y = .int 1 ∧ SqT K H l xs ∧ Q (.ref l) H
theorem op_rep1 : OpR X (binaryOp .Mult) (rRep1 X.K) := by
  intro pins s σ H x y v u Q I rx ry h
  obtain ⟨l, xs, rfl, rfl, hT, q⟩ := h
  cases rx
  obtain ⟨t, rfl⟩ := ry
  obtain ⟨its, r, ⟨⟨cls, dd, data, sl⟩, ho, hc, n, hd⟩, hs⟩ := I.tuple hT
  simp only at hc hd
  subst hc hd
  refine wpAny_binaryOp_repeat_ref (T := "tuple") (U := "int") (by decide) ⟨_, ho, rfl⟩ (fun s' => typeIs_int s' 1 t) noFill_tuple_mul F.fills_int_mul F.slot_int_rmul repeat_tuple F.slot_int_index.lookup
    (call_meets F.slot_int_rmul (typeIs_int s 1 t) F.entry_int_rmul (F.args_int_rmul_2 _ _) (int_rmul_tuple 1 t l its.toArray n dd sl)
      ⟨ho, rfl, ⟨_, ho, rfl⟩, call_meets F.slot_tuple_mul ⟨_, ho, rfl⟩ F.entry_tuple_mul (F.args_tuple_mul_2 _ _) (tup_mul1 l its.toArray n sl dd t) ⟨ho, ?_⟩⟩)
  exact ⟨.ref l, H, I, rfl, q⟩
def mulTD : PyData → PyData → Option Res
  | .tuple a, .int n => some (.newT (List.replicate n.toNat a).flatten)
  | _, _ => none
@[reducible] def mulTOk : PyData → PyData → Prop
  | .tuple a, .int n => a ≠ [] ∧ 1 ≤ n ∧ n ≤ 1000 ∧ a.length ≤ 1000
  | _, _ => True
def rMulT (K : PySem.W.Frag) : R2 := fun x y H Q => rRep1 K x y H Q ∨ rRepT K x y H Q
theorem op_mulT : OpR X (binaryOp .Mult) (rMulT X.K) := op_rep1.or op_repT
theorem os_mulT {K : PySem.W.Frag} : OpS (rMulT K) mulTD mulTOk := by
  intro F H x y d1 d2 res Q s h1 h2 hf hk k
  cases d1 <;> cases d2 <;> simp only [mulTD, reduceCtorEq, Option.some.injEq] at hf <;> subst hf
  rename_i ds n
  cases h2
  cases h1 with
  | tup e q =>
    obtain ⟨z0, z1, z2, z3⟩ := hk
    by_cases hn : n = 1
    · subst hn
      refine .inl ⟨_, _, rfl, rfl, .inl (.inl (s _ _ e)), k.1 _ ?_⟩
      have e1 : (List.replicate (1 : Int).toNat ds).flatten = ds := by
        show (List.replicate 1 ds).flatten = ds
        simp
      rw [e1]
      exact .tup e q
    · exact .inr ⟨_, n, _, rfl, rfl, .inl (.inl (s _ _ e)), fun z => z0 (by have := q.length; rw [z] at this; exact List.eq_nil_of_length_eq_zero this.symm), by omega, z2, by rw [q.length]; exact z3, fun p np => k.2 p _ np (q.rep _)⟩
variable {env : En} {μ μ1 μ2 μ' : Mu} {sv s1 s2 : SV} {a b : Expr} {pos : Pos} {d1 d2 : PyData} {res : Res}
theorem e_mulT (ha : SE X a env μ s1 μ1) (hb : SE X b env μ1 s2 μ2) (v1 : Sy.view μ2 s1 = some d1 := by rfl) (v2 : Sy.view μ2 s2 = some d2 := by rfl) (hf : mulTD d1 d2 = some res := by rfl) (hk : mulTOk d1 d2 := by first | assumption | trivial)
    (fin : Fi res μ2 sv μ' := by exact Sy.Fi.tup) : SE X (.BinOp a .Mult b pos) env μ sv μ' := se_bin op_mulT os_mulT ha hb v1 v2 hf hk fin
end
end Sy

/-! Sy11: an if whose two ways meet; a tuple of things told by a property. -/
namespace Sy
open PySem PySem.Spec PyProof.Rows L2
section
variable {X : Cx} {env : En} {μ μ1 : Mu} {c : Expr} {es : List Expr} {A B rest sts : List Stmt} {R R1 R2 : Out → Prop} {pos : Pos} {P : SV → Mu → Prop} {PA : List SV → Mu → Prop}
theorem SSs.mono (h : SSs X sts env μ R1) (i : ∀ o, R1 o → R2 o) : SSs X sts env μ R2 :=
  PSs.imp h fun D σ H ⟨F, as, he, W, kn, kr, kb, kc⟩ => ⟨F, as, he, W, fun e m s F' H' as' r => kn e m s F' H' as' (i _ r), fun e m s F' H' as' r => kr e m s F' H' as' (i _ r), fun e m s F' H' as' r => kb e m s F' H' as' (i _ r), fun e m s F' H' as' r => kc e m s F' H' as' (i _ r)⟩
def JR (J : En → Mu → Prop) (R : Out → Prop) : Out → Prop
  | .next env μ => J env μ
  | o => R o
theorem JR.thn {J : En → Mu → Prop} (hJ : ∀ env μ, J env μ → SSs X rest env μ R) : ∀ o, JR J R o → Thn X rest R o
  | .next env μ, h => hJ env μ h
  | .ret _ _, h => h
  | .brk _ _, h => h
  | .cont _ _, h => h
theorem sss_ifJ {q : Bool} (J : En → Mu → Prop) (ht : ST X c env μ q μ1) (hA : q = true → SSs X A env μ1 (JR J R)) (hB : q = false → SSs X B env μ1 (JR J R)) (hJ : ∀ env μ, J env μ → SSs X rest env μ R) : SSs X (.If c A B pos :: rest) env μ R :=
  sss_if ht (fun h => (hA h).mono (JR.thn hJ)) (fun h => (hB h).mono (JR.thn hJ))
theorem sen_t {j : Nat} (ha : SAn X es env μ PA) (h : ∀ svs m, PA svs m → ∃ ds, svs = ds.map SV.dat ∧ ds.length ≤ sizeLine ∧ P (.dat (.tuple ds)) m) : SEn X (.Tuple es j pos) env μ P := by
  refine PE.imp (pe_tup ha) fun σ H Q ⟨F, as, he, W, k⟩ => ⟨F, as, he, W, fun svs m xs F1 H1 as1 p g1 W1 r1 => ?_⟩
  obtain ⟨ds, rfl, hz, hp⟩ := h svs m p
  have dv := RAll.dvs (H := H1) r1
  exact ⟨by rw [dv.length]; exact hz, fun p np => (Fi.tup.run W1 fun v F3 H3 as3 g3 W3 r3 => k _ m v F3 H3 as3 hp (g1.trans g3) W3 r3).2 p xs np dv⟩
end
end Sy

/-! Sy12: isinstance, chains, a sign in a text, join. -/
namespace Sy
open PySem PySem.Spec PyProof.Rows L2
/-- the name of a datum's type -/
def tyD : PyData → String
  | .none => "NoneType" | .bool _ => "bool" | .int _ => "int" | .str _ => "str" | .list _ => "list" | .tuple _ => "tuple" | .dict _ => "dict"
theorem ty_of {K : PySem.W.Frag} {F H : Hp} (s : Same F H) {v : V} {d : PyData} (h : TD F H v d) : TyOf K H v (.type (tyD d)) := by
  cases d with
  | none => cases h; exact .non
  | bool b => cases h; exact .bl b
  | int i => cases h; exact .int i
  | str x => cases h; exact .str x
  | list ds => obtain ⟨a, vs, rfl, h1, h2⟩ := h; exact .lst h1
  | tuple ds =>
    cases h with
    | tup e q => exact .tup (s _ _ e)
  | dict ds =>
    cases h with
    | dct0 e => exact .dK (s _ _ e)
/-- what isinstance tells of a thing and a class (a value of the model) -/
def IsI (K : PySem.W.Frag) (μ : Mu) (sv : SV) (c : Value) (b : Bool) : Prop := ∀ F H as v, Wd F H as μ → RSV F as sv v → ∃ t, TyX K H v t ∧ PySem.W.kitOne K t c = some b
theorem isI_dat {K : PySem.W.Frag} {μ : Mu} {sv : SV} {d : PyData} {T : String} {b : Bool} (h : Sy.view μ sv = some d) (hb : kitB (tyD d) T = some b) : IsI K μ sv (.type T) b :=
  fun F H as v W r => ⟨_, .base (ty_of W.sub (W.view r h)), kit_ty hb⟩
def isIntD : PyData → Bool
  | .int _ => true | .bool _ => true | _ => false
def isBoolD : PyData → Bool
  | .bool _ => true | _ => false
def isStrD : PyData → Bool
  | .str _ => true | _ => false
def isTupD : PyData → Bool
  | .tuple _ => true | _ => false
def isLstD : PyData → Bool
  | .list _ => true | _ => false
def isDctD : PyData → Bool
  | .dict _ => true | _ => false
theorem kit_int : ∀ d : PyData, kitB (tyD d) "int" = some (isIntD d)
  | .none => (by decide +kernel : kitB "NoneType" "int" = some false)
  | .bool _ => (by decide +kernel : kitB "bool" "int" = some true)
  | .int _ => (by decide +kernel : kitB "int" "int" = some true)
  | .str _ => (by decide +kernel : kitB "str" "int" = some false)
  | .list _ => (by decide +kernel : kitB "list" "int" = some false)
  | .tuple _ => (by decide +kernel : kitB "tuple" "int" = some false)
  | .dict _ => (by decide +kernel : kitB "dict" "int" = some false)
theorem kit_bool : ∀ d : PyData, kitB (tyD d) "bool" = some (isBoolD d)
  | .none => (by decide +kernel : kitB "NoneType" "bool" = some false)
  | .bool _ => (by decide +kernel : kitB "bool" "bool" = some true)
  | .int _ => (by decide +kernel : kitB "int" "bool" = some false)
  | .str _ => (by decide +kernel : kitB "str" "bool" = some false)
  | .list _ => (by decide +kernel : kitB "list" "bool" = some false)
  | .tuple _ => (by decide +kernel : kitB "tuple" "bool" = some false)
  | .dict _ => (by decide +kernel : kitB "dict" "bool" = some false)
theorem kit_str : ∀ d : PyData, kitB (tyD d) "str" = some (isStrD d)
  | .none => (by decide +kernel : kitB "NoneType" "str" = some false)
  | .bool _ => (by decide +kernel : kitB "bool" "str" = some false)
  | .int _ => (by decide +kernel : kitB "int" "str" = some false)
  | .str _ => (by decide +kernel : kitB "str" "str" = some true)
  | .list _ => (by decide +kernel : kitB "list" "str" = some false)
  | .tuple _ => (by decide +kernel : kitB "tuple" "str" = some false)
  | .dict _ => (by decide +kernel : kitB "dict" "str" = some false)
theorem kit_tup : ∀ d : PyData, kitB (tyD d) "tuple" = some (isTupD d)
  | .none => (by decide +kernel : kitB "NoneType" "tuple" = some false)
  | .bool _ => (by decide +kernel : kitB "bool" "tuple" = some false)
  | .int _ => (by decide +kernel : kitB "int" "tuple" = some false)
  | .str _ => (by decide +kernel : kitB "str" "tuple" = some false)
  | .list _ => (by decide +kernel : kitB "list" "tuple" = some false)
  | .tuple _ => (by decide +kernel : kitB "tuple" "tuple" = some true)
  | .dict _ => (by decide +kernel : kitB "dict" "tuple" = some false)
theorem kit_lst : ∀ d : PyData, kitB (tyD d) "list" = some (isLstD d)
  | .none => (by decide +kernel : kitB "NoneType" "list" = some false)
  | .bool _ => (by decide +kernel : kitB "bool" "list" = some false)
  | .int _ => (by decide +kernel : kitB "int" "list" = some false)
  | .str _ => (by decide +kernel : kitB "str" "list" = some false)
  | .list _ => (by decide +kernel : kitB "list" "list" = some true)
  | .tuple _ => (by decide +kernel : kitB "tuple" "list" = some false)
  | .dict _ => (by decide +kernel : kitB "dict" "list" = some false)
theorem kit_dct : ∀ d : PyData, kitB (tyD d) "dict" = some (isDctD d)
  | .none => (by decide +kernel : kitB "NoneType" "dict" = some false)
  | .bool _ => (by decide +kernel : kitB "bool" "dict" = some false)
  | .int _ => (by decide +kernel : kitB "int" "dict" = some false)
  | .str _ => (by decide +kernel : kitB "str" "dict" = some false)
  | .list _ => (by decide +kernel : kitB "list" "dict" = some false)
  | .tuple _ => (by decide +kernel : kitB "tuple" "dict" = some false)
  | .dict _ => (by decide +kernel : kitB "dict" "dict" = some true)
section
variable {X : Cx} {env : En} {μ μ1 μ2 μ' : Mu} {sv s1 s2 : SV} {a b c e : Expr} {pos p0 p1 apos : Pos} {q : Bool} {i j k : Int}
/-- isinstance(e, T), T a built-in type -/
theorem e_isi {T : String} (hm : X.mg "isinstance" = none) (hT : X.mg (Str.ofString T) = none) (hv : bootBuiltins (Str.ofString T) = some (.type T)) (he : SE X e env μ s1 μ1) (hi : IsI X.K μ1 s1 (.type T) q) (hg : Gl X "isinstance" := by rfl) (hgT : Gl X (Str.ofString T) := by rfl)
    (hn : Str.ofString T ≠ "__name__" := by decide) (hd : (Str.ofString T == ("__debug__" : Str)) = false := by decide)
    (hs : starEach [e, .Name (Str.ofString T) p1] X.env = (false, eval e X.env) :: starEach [.Name (Str.ofString T) p1] X.env := by rfl) (hs2 : starEach [.Name (Str.ofString T) p1] X.env = (false, eval (.Name (Str.ofString T) p1) X.env) :: starEach [] X.env := by rfl)
    (hpl : (backTo pos (starEach [.Name (Str.ofString T) p1] X.env)).any (·.1) = false := by rfl) :
    SE X (.Call (.Name "isinstance" p0) [e, .Name (Str.ofString T) p1] [] pos) env μ (.dat (.bool q)) μ1 := by
  refine PE.imp (pe_callB call_isi hg hm PyProof.Rows.boot_isinstance (pa_cons he (pa_cons (pe_bltn (v := .ty T) hgT hT hv rfl hn hd) pa_nil hs2) hs) (by decide) (by decide) hs hpl) fun σ H Q ⟨F, as, hE, W, kk⟩ => ?_
  refine ⟨F, as, hE, W, fun v F1 H1 as1 g1 W1 r1 => ?_⟩
  obtain ⟨t, ht, hk⟩ := hi F1 H1 as1 v W1 r1
  exact ⟨v, .ty T, t, _, q, rfl, .ty T, ht, hk, kk _ F1 H1 as1 g1 W1 (.bl q)⟩
/-- isinstance(e, C), C an own class -/
theorem e_isiC {x : Str} {C : Addr} (hm : X.mg "isinstance" = none) (hC : X.mg x = some (.ref C)) (he : SE X e env μ s1 μ1) (hi : IsI X.K μ1 s1 (.ref C) q) (hg : Gl X "isinstance" := by rfl) (hgT : Gl X x := by rfl)
    (hd : (x == ("__debug__" : Str)) = false := by decide)
    (hs : starEach [e, .Name x p1] X.env = (false, eval e X.env) :: starEach [.Name x p1] X.env := by rfl) (hs2 : starEach [.Name x p1] X.env = (false, eval (.Name x p1) X.env) :: starEach [] X.env := by rfl)
    (hpl : (backTo pos (starEach [.Name x p1] X.env)).any (·.1) = false := by rfl) :
    SE X (.Call (.Name "isinstance" p0) [e, .Name x p1] [] pos) env μ (.dat (.bool q)) μ1 := by
  refine PE.imp (pe_callB call_isi hg hm PyProof.Rows.boot_isinstance (pa_cons he (pa_cons (pe_glob (v := .ref C) hgT hC rfl hd) pa_nil hs2) hs) (by decide) (by decide) hs hpl) fun σ H Q ⟨F, as, hE, W, kk⟩ => ?_
  refine ⟨F, as, hE, W, fun v F1 H1 as1 g1 W1 r1 => ?_⟩
  obtain ⟨t, ht, hk⟩ := hi F1 H1 as1 v W1 r1
  exact ⟨v, .ref C, t, _, q, rfl, .own C, ht, hk, kk _ F1 H1 as1 g1 W1 (.bl q)⟩
/-- a <= b < c, a <= b <= c of ints -/
theorem e_chLt (ha : SE X a env μ (.dat (.int i)) μ1) (hb : SE X b env μ1 (.dat (.int j)) μ2) (hc : SE X c env μ2 (.dat (.int k)) μ2) (hm : lastMarks [.LtE, .Lt] [b, c] = false := by with_unfolding_all rfl) :
    SE X (.Compare a [.LtE, .Lt] [b, c] pos) env μ (.dat (.bool (decide (i ≤ j) && decide (j < k)))) μ2 := by
  refine PE.imp (pe_chain op_le op_lt ha hb hc hm) fun σ H Q ⟨F, as, hE, W, kk⟩ => ⟨F, as, hE, W, fun u F1 H1 as1 g1 W1 r1 => ⟨F1, as1, hE.mono g1, W1, fun v F2 H2 as2 g2 W2 r2 => ?_⟩⟩
  cases r1
  cases r2
  refine ⟨i, j, rfl, rfl, _, rfl, ?_⟩
  by_cases h : i ≤ j
  · rw [decide_eq_true h, if_pos rfl, Bool.true_and] at *
    refine ⟨F2, as2, (hE.mono g1).mono g2, W2, fun w F3 H3 as3 g3 W3 r3 => ?_⟩
    cases r3
    exact ⟨j, k, rfl, rfl, kk _ F3 H3 as3 ((g1.trans g2).trans g3) W3 (.bl _)⟩
  · rw [decide_eq_false h, if_neg (by decide)]
    have := kk (.bl false) F2 H2 as2 (g1.trans g2) W2
    rw [decide_eq_false h] at this
    exact this (.bl _)
theorem e_chLe (ha : SE X a env μ (.dat (.int i)) μ1) (hb : SE X b env μ1 (.dat (.int j)) μ2) (hc : SE X c env μ2 (.dat (.int k)) μ2) (hm : lastMarks [.LtE, .LtE] [b, c] = false := by with_unfolding_all rfl) :
    SE X (.Compare a [.LtE, .LtE] [b, c] pos) env μ (.dat (.bool (decide (i ≤ j) && decide (j ≤ k)))) μ2 := by
  refine PE.imp (pe_chain op_le op_le ha hb hc hm) fun σ H Q ⟨F, as, hE, W, kk⟩ => ⟨F, as, hE, W, fun u F1 H1 as1 g1 W1 r1 => ⟨F1, as1, hE.mono g1, W1, fun v F2 H2 as2 g2 W2 r2 => ?_⟩⟩
  cases r1
  cases r2
  refine ⟨i, j, rfl, rfl, _, rfl, ?_⟩
  by_cases h : i ≤ j
  · rw [decide_eq_true h, if_pos rfl, Bool.true_and] at *
    refine ⟨F2, as2, (hE.mono g1).mono g2, W2, fun w F3 H3 as3 g3 W3 r3 => ?_⟩
    cases r3
    exact ⟨j, k, rfl, rfl, kk _ F3 H3 as3 ((g1.trans g2).trans g3) W3 (.bl _)⟩
  · rw [decide_eq_false h, if_neg (by decide)]
    have := kk (.bl false) F2 H2 as2 (g1.trans g2) W2
    rw [decide_eq_false h] at this
    exact this (.bl _)
theorem t_chLe (ha : SE X a env μ (.dat (.int i)) μ1) (hb : SE X b env μ1 (.dat (.int j)) μ2) (hc : SE X c env μ2 (.dat (.int k)) μ2) (hm : lastMarks [.LtE, .LtE] [b, c] = false := by with_unfolding_all rfl) :
    ST X (.Compare a [.LtE, .LtE] [b, c] pos) env μ (decide (i ≤ j) && decide (j ≤ k)) μ2 := by
  refine PT.imp (pt_chain op_le op_le ha hb hc hm) fun σ H Q ⟨F, as, hE, W, kk⟩ => ⟨F, as, hE, W, fun u F1 H1 as1 g1 W1 r1 => ⟨F1, as1, hE.mono g1, W1, fun v F2 H2 as2 g2 W2 r2 => ?_⟩⟩
  cases r1
  cases r2
  refine ⟨i, j, rfl, rfl, _, rfl, ?_⟩
  by_cases h : i ≤ j
  · rw [decide_eq_true h, if_pos rfl, Bool.true_and] at *
    refine ⟨F2, as2, (hE.mono g1).mono g2, W2, fun w F3 H3 as3 g3 W3 r3 => ?_⟩
    cases r3
    exact ⟨j, k, rfl, rfl, _, rfl, kk F3 H3 as3 ((g1.trans g2).trans g3) W3⟩
  · rw [decide_eq_false h, if_neg (by decide)]
    have := kk F2 H2 as2 (g1.trans g2) W2
    rw [decide_eq_false h] at this
    exact ⟨false, rfl, this⟩
/-- a sign in a text -/
theorem t_notInS {x : Nat} {z : Str} (ha : SE X a env μ (.dat (.str ⟨#[x]⟩)) μ1) (hb : SE X b env μ1 (.dat (.str z)) μ2) (hm : behindInMarks .NotIn b = false := by with_unfolding_all rfl) : ST X (.Compare a [.NotIn] [b] pos) env μ (!decide (x ∈ z.cps.toList)) μ2 := by
  refine PT.imp (pt_cmpR op_notIn_sign ha hb hm) fun σ H Q ⟨F, as, he, W, k⟩ => ⟨F, as, he, W, fun u F1 H1 as1 g1 W1 r1 => ⟨F1, as1, he.mono g1, W1, fun v F2 H2 as2 g2 W2 r2 => ?_⟩⟩
  cases r1
  cases r2
  exact ⟨x, z, rfl, rfl, _, rfl, k F2 H2 as2 (g1.trans g2) W2⟩
/-- text.join(list) -/
theorem e_join {z : Str} {ys : List Str} (ha : SE X a env μ (.dat (.str z)) μ1) (he : SE X e env μ1 s2 μ2) (hv : Sy.view μ2 s2 = some (.list (ys.map PyData.str)) ∨ Sy.view μ2 s2 = some (.tuple (ys.map PyData.str))) (hz : (ys.map (·.length)).sum + ys.length * z.length ≤ 16777216)
    (hs : starEach [e] X.env = [(false, eval e X.env)] := by rfl) (hbase : attributeBase a "join" X.env (eval a X.env) = eval a X.env := by rfl) (hline : (apos.endLine == pos.line) = true := by rfl) :
    SE X (.Call (.Attribute a "join" apos) [e] [] pos) env μ (.dat (.str (Txt.join z ys))) μ2 := by
  refine PE.imp (pe_join ha he hs hbase hline) fun σ H Q ⟨F, as, hE, W, k⟩ => ⟨F, as, hE, W, fun u F1 H1 as1 g1 W1 r1 => ?_⟩
  cases r1
  refine ⟨⟨z, rfl⟩, F1, as1, hE.mono g1, W1, fun v F2 H2 as2 g2 W2 r2 => ?_⟩
  have hstrs : ∀ {vs : List V} {ys : List Str}, DVs F2 vs (ys.map PyData.str) → vs = ys.map V.str := by
    intro vs ys h
    induction ys generalizing vs with
    | nil => cases h; rfl
    | cons y ys ih =>
      cases h with
      | cons h1 h2 =>
        cases h1
        rw [ih h2]
        rfl
  rcases hv with hv | hv
  · obtain ⟨p, vs, rfl, h1, h2⟩ := W2.view r2 hv
    rw [hstrs h2] at h1
    exact ⟨z, p, ys, rfl, rfl, .inl (.inl (.inl h1)), hz, k _ F2 H2 as2 (g1.trans g2) W2 (.str _)⟩
  · have t := W2.view r2 hv
    cases t with
    | tup h1 h2 =>
      rw [hstrs h2] at h1
      exact ⟨z, _, ys, rfl, rfl, .inr (.inl (.inl (W2.sub _ _ h1))), hz, k _ F2 H2 as2 (g1.trans g2) W2 (.str _)⟩
end
end Sy

set_option maxHeartbeats 1000000
/-! Sy13: instances: fields, made; dicts: new, locked, walked, len. -/
namespace Sy
open PySem PySem.Spec PyProof.Rows L2
/-! ### fields -/
def putS (f : Str) (v : SV) : List (Str × SV) → List (Str × SV)
  | [] => [(f, v)]
  | (g, x) :: r => if g = f then (g, v) :: r else (g, x) :: putS f v r
theorem FlS.put {F : Hp} {as : List Addr} {f : Str} {sv : SV} {v : V} (r : RSV F as sv v) : ∀ {vs : List (Str × V)} {fs : List (Str × SV)}, FlS F as vs fs → FlS F as (putF f v vs) (putS f sv fs)
  | _, _, .nil => .cons ⟨rfl, r⟩ .nil
  | (g, x) :: vs, (g', y) :: fs, .cons h t => by
    obtain ⟨h1, h2⟩ := h
    have h1 : g = g' := h1
    subst h1
    show FlS F as (if g = f then (g, v) :: vs else (g, x) :: putF f v vs) (if g = f then (g, sv) :: fs else (g, y) :: putS f sv fs)
    by_cases hg : g = f
    · rw [if_pos hg, if_pos hg]
      exact .cons ⟨rfl, r⟩ t
    · rw [if_neg hg, if_neg hg]
      exact .cons ⟨rfl, h2⟩ (FlS.put r t)
theorem FlS.look {F : Hp} {as : List Addr} {f : Str} {sv : SV} : ∀ {vs : List (Str × V)} {fs : List (Str × SV)}, FlS F as vs fs → fs.lookup f = some sv → ∃ v, vs.lookup f = some v ∧ RSV F as sv v
  | _, _, .nil, h => nomatch h
  | (g, x) :: vs, (g', y) :: fs, .cons h t, e => by
    obtain ⟨h1, h2⟩ := h
    have h1 : g = g' := h1
    subst h1
    rw [List.lookup_cons] at e ⊢
    cases hg : (f == g) with
    | true =>
      rw [hg] at e
      obtain rfl := Option.some.inj e
      exact ⟨x, rfl, h2⟩
    | false =>
      rw [hg] at e
      exact FlS.look t e
theorem FlS.lookN {F : Hp} {as : List Addr} {f : Str} : ∀ {vs : List (Str × V)} {fs : List (Str × SV)}, FlS F as vs fs → fs.lookup f = none → vs.lookup f = none
  | _, _, .nil, _ => rfl
  | (g, x) :: vs, (g', y) :: fs, .cons h t, e => by
    obtain ⟨h1, h2⟩ := h
    have h1 : g = g' := h1
    subst h1
    rw [List.lookup_cons] at e ⊢
    cases hg : (f == g) with
    | true => rw [hg] at e; exact nomatch e
    | false => rw [hg] at e; exact FlS.lookN t e
section
variable {X : Cx} {env : En} {μ μ1 μ2 μ' : Mu} {sv s1 s2 : SV} {a b c e o : Expr} {es : List Expr} {rest : List Stmt} {R : Out → Prop} {pos p0 p1 pos' apos : Pos} {f x : Str} {C g : Addr} {fs : List (Str × SV)} {j k n : Nat} {fd : FuncData} {ps : List Str} {svs : List SV}
/-- o.f -/
theorem e_fld (cl : Cls X.K C) (hn : NoAttr X.K C f) (he : SE X e env μ (.cell j) μ1) (hj : μ1[j]? = some (.ins C fs)) (hf : fs.lookup f = some sv) (hb : attributeBase e f X.env (eval e X.env) = eval e X.env := by rfl) : SE X (.Attribute e f pos) env μ sv μ1 := by
  refine PE.imp (pe_fld he hb) fun σ H Q ⟨F, as, hE, W, kk⟩ => ⟨F, as, hE, W, fun v F1 H1 as1 g1 W1 r1 => ?_⟩
  obtain ⟨p, hp, rfl⟩ := r1
  obtain ⟨_, dx, vs, h1, h2⟩ := W1.ok j p _ hp hj
  obtain ⟨v, h3, h4⟩ := FlS.look h2 hf
  exact ⟨p, C, dx, vs, v, rfl, h1, cl, hn, h3, kk v F1 H1 as1 g1 W1 h4⟩
/-- o.f = value -/
theorem sss_fld (cl : Cls X.K C) (hn : NoAttr X.K C f) (hv : SE X e env μ sv μ1) (ho : SE X o env μ1 (.cell j) μ2) (hj : μ2[j]? = some (.ins C fs)) (hl : fs.length < 1000) (hr : SSs X rest env (μ2.set j (.ins C (putS f sv fs))) R)
    (hs : swapsWith e (some (.Attribute o f pos')) pos.line X.env = pure false := by rfl) : SSs X (.Assign [.Attribute o f pos'] e pos :: rest) env μ R := by
  refine sss_cons (PS.imp (ps_fld ho hv hs) fun D σ H ⟨F, as, hE, W, kn, _⟩ => ⟨F, as, hE, W, fun v F1 H1 as1 g1 W1 r1 => ⟨F1, as1, hE.mono g1, W1, fun u F2 H2 as2 g2 W2 r2 => ?_⟩⟩)
  obtain ⟨p, hp, rfl⟩ := r2
  obtain ⟨nF, dx, vs, h1, h2⟩ := W2.ok j p _ hp hj
  refine ⟨p, C, dx, vs, rfl, h1, cl, hn, by rw [Paired.length h2]; exact hl, ?_⟩
  have z := W2.setO (o := .ins C dx (putF f v vs)) (c := .ins C (putS f sv fs)) hp nF ⟨nF, dx, _, upd_same, FlS.put (RSV.mono g2 r1) h2⟩
  exact kn _ _ _ F2 _ as2 hr ((g1.trans g2).trans z.2) (((hE.mono g1).mono g2).mono z.2) z.1
/-- a new instance beside its dict -/
theorem Wd.born {F H : Hp} {as : List Addr} {μ : Mu} (W : Wd F H as μ) {x dx : Addr} (nx : H x = none) (nd : H dx = none) (ne : dx ≠ x) :
    Wd F (upd (upd H dx (.own x)) x (.ins C dx [])) (as ++ [x]) (μ ++ [.ins C []]) ∧ Go F H as F (upd (upd H dx (.own x)) x (.ins C dx [])) (as ++ [x]) := by
  obtain ⟨f1, f2⟩ := W.nofree nd
  have W1 := W.off (o := .own x) f1 f2
  have nx1 : upd H dx (.own x) x = none := by rw [upd_ne (fun z => ne z.symm)]; exact nx
  have z := W1.addO (c := .ins C []) (o := .ins C dx []) nx1 fun nF => ⟨nF, dx, [], upd_same, .nil⟩
  exact ⟨z.1, ((Go.refl F H as).off nd).trans z.2⟩
/-- C(..) -/
theorem se_make {CI : List SV → Mu → SV → Mu → Prop} (M : Mk X.K C g) (FI : FnOk X.prog X.w X.K X.mg X.base CX0 k g fd ps (spC CI)) (hr : Room n X.A) (hm : X.mg x = some (.ref C)) (hb : Binds X.K fd ps []) (ha : SA X (e :: es) env μ svs μ1)
    (hC : CI (.cell μ1.length :: svs) (μ1 ++ [.ins C []]) (.dat .none) μ') (hkn : k + 1 ≤ n := by decide) (hg : Gl X x := by rfl) (hdb : (x == ("__debug__" : Str)) = false := by decide)
    (he : starEach (e :: es) X.env = (false, eval e X.env) :: starEach es X.env := by rfl) (hpl : (backTo pos (starEach es X.env)).any (·.1) = false := by rfl) : SE X (.Call (.Name x p0) (e :: es) [] pos) env μ (.cell μ1.length) μ' := by
  refine PE.imp (pe_make M FI (hr.mono hkn) hg hm hb .nil pass0 ha hdb he hpl) fun σ H Q ⟨F, as, hE, W, kk⟩ => ⟨F, as, hE, W, fun vs F1 H1 as1 g1 W1 r1 => ?_⟩
  intro y dx ny nd ne
  obtain ⟨W2, g2⟩ := W1.born (C := C) ny nd ne
  have hat : (as1 ++ [y])[μ1.length]? = some y := by
    rw [List.getElem?_append_right (by rw [W1.len]; exact Nat.le_refl _), W1.len, Nat.sub_self]
    rfl
  rw [List.append_nil]
  refine ⟨F1, as1 ++ [y], _, _, _, _, hC, .cons ⟨y, hat, rfl⟩ (RAll.mono g2 r1), W2, fun v F3 H3 as3 g3 W3 r3 => ?_⟩
  cases r3
  exact ⟨rfl, kk _ F3 H3 as3 ((g1.trans g2).trans g3) W3 ⟨y, g3.at hat, rfl⟩⟩
/-- {} -/
theorem e_dict0 : SE X (.Dict [] [] pos) env μ (.cell μ.length) (μ ++ [.dk none []]) := by
  refine PE.imp pe_dnewK fun σ H Q ⟨F, as, hE, W, kk⟩ => fun p np => ?_
  have z := W.addO (c := .dk none []) (o := .dK []) np fun nF => ⟨nF, [], upd_same, .nil⟩
  exact kk _ F _ _ z.2 z.1 ⟨p, by rw [List.getElem?_append_right (by rw [W.len]; exact Nat.le_refl _), W.len, Nat.sub_self]; rfl, rfl⟩
theorem e_dict0D : SE X (.Dict [] [] pos) env μ (.dat (.dict [])) μ := by
  refine PE.imp pe_dnewK fun σ H Q ⟨F, as, hE, W, kk⟩ => fun p np => ?_
  exact kk _ _ _ _ (W.addF np).2 (W.addF np).1 (.dct0 upd_same)
/-- while a dict of texts is locked -/
theorem se_lockK {kvs : List (Str × PyData)} (j : Nat) (hj : μ[j]? = some (.dk none kvs)) (h : ∀ q, SE X e env (μ.set j (.dk (some q) kvs)) sv (μ1.set j (.dk (some q) kvs))) (hl : j < μ1.length) : SE X e env μ sv (μ1.set j (.dk none kvs)) := by
  have h2 : PE X e (fun σ H Q => ∃ q, rdE env (μ.set j (.dk (some q) kvs)) sv (μ1.set j (.dk (some q) kvs)) σ H Q) := ⟨fun pins s σ H Q I ⟨q, z⟩ => (h q).run pins s σ H Q I z⟩
  refine PE.imp (pe_lock h2) fun σ H Q ⟨F, as, hE, W, kk⟩ => ?_
  have hja : j < as.length := by rw [W.len]; exact (List.getElem?_eq_some_iff.mp hj).1
  have hat := List.getElem?_eq_getElem hja
  generalize as[j] = p at hat
  obtain ⟨nF, vs, hv, hk⟩ := W.ok j p _ hat hj
  refine ⟨p, .dK vs, hv, trivial, fun od => ⟨.frz od (.dK vs), F, as, ?_⟩⟩
  have z := W.setO (o := .frz od (.dK vs)) (c := .dk (some (.frz od (.dK vs))) kvs) hat nF ⟨nF, vs, ⟨upd_same, od, rfl⟩, hk⟩
  refine ⟨hE.mono z.2, z.1, fun v F1 H1 as1 g1 W1 r1 => ?_⟩
  have hat1 := g1.at hat
  obtain ⟨nF1, vs1, ⟨hv1, od1, hq⟩, hk1⟩ := W1.ok j p (.dk (some (.frz od (.dK vs))) kvs) hat1 (by rw [List.getElem?_set, if_pos rfl, if_pos (by simpa using hl)])
  have e1 : vs1 = vs := by
    have := HO.frz.inj hq
    exact (HO.dK.inj this.2).symm
  subst e1
  refine ⟨hv1, ?_⟩
  have z1 := W1.setO (o := .dK vs1) (c := .dk none kvs) hat1 nF1 ⟨nF1, vs1, upd_same, hk1⟩
  rw [List.set_set] at z1
  refine kk v F1 _ as1 ?_ z1.1 r1
  have g2 := (z.2.trans g1).trans z1.2
  exact g2
/-- for key in a locked dict of texts -/
theorem si_keysK {tg : Expr} {kvs : List (Str × PyData)} {q : HO} (he : SE X e env μ (.cell j) μ1) (hj : μ1[j]? = some (.dk (some q) kvs)) : SI X tg e env μ (kvs.map fun p => PyData.str p.1) μ1 (fun μ2 => μ2[j]? = some (.dk (some q) kvs)) := by
  refine PI.imp (pi_keys he) fun σ H R ⟨F, as, hE, W, k⟩ => ⟨F, as, hE, W, fun v F1 H1 as1 g1 W1 r1 => ?_⟩
  obtain ⟨p, hp, rfl⟩ := r1
  obtain ⟨_, vs, ⟨hv, od, rfl⟩, hk⟩ := W1.ok j p _ hp hj
  refine ⟨p, od, rfl, .inl ⟨vs, hv, ?_⟩⟩
  have hl : vs.length = kvs.length := Paired.length hk
  refine k (Itk p od vs) _ _ F1 H1 as1 g1 W1 (by rw [List.length_map, ← hl]; exact walk_keys) ?_ ?_
  · intro F2 H2 as2 μ2 g2 W2 h2
    exact (W2.ok j p _ (g2.at hp) h2).2.choose_spec.1.1
  · rintro i F2 H2 as2 μ2 x H' g2 W2 h2 ⟨rfl, kk, u, h3, rfl⟩ hi
    refine ⟨rfl, ?_⟩
    have hi2 : i < kvs.length := by rw [List.length_map] at hi; exact hi
    obtain ⟨y, hy, e1, _⟩ := paired_get hk h3
    have e1 : kk = Sum.inr y.1 := e1
    subst e1
    refine ⟨.str y.1, ?_, .str _⟩
    rw [List.getElem?_map, hy]
    rfl
/-- len of a dict of texts -/
theorem e_lenK {lk : Option HO} {kvs : List (Str × PyData)} (hm : X.mg "len" = none) (he : SE X e env μ (.cell j) μ1) (hj : μ1[j]? = some (.dk lk kvs)) (hg : Gl X "len" := by rfl) (hs : starEach [e] X.env = (false, eval e X.env) :: starEach [] X.env := by rfl) :
    SE X (.Call (.Name "len" p0) [e] [] pos) env μ (.dat (.int (kvs.length : Int))) μ1 := by
  have cr : CallR X (.builtin "len") (fun xs H Q => ∃ a kvs, xs = [.ref a] ∧ Rd H a (.dK kvs) ∧ Q (.int (kvs.length : Int)) H) := by
    intro pins s σ H xs us Q I r h
    obtain ⟨a, kvs, rfl, hd, q⟩ := h
    obtain ⟨u, rfl, ru⟩ := vals1 r
    cases ru
    exact d_len I hd fun t s' I' => ⟨.int _, H, I', ⟨t, rfl⟩, q⟩
  refine PE.imp (pe_callB cr hg hm PySem.boot_len (pa_cons he pa_nil hs) (by decide) (by decide) hs rfl) fun σ H Q ⟨F, as, hE, W, kk⟩ => ⟨F, as, hE, W, fun v F1 H1 as1 g1 W1 r1 => ?_⟩
  obtain ⟨p, hp, rfl⟩ := r1
  obtain ⟨_, vs, hv, hk⟩ := W1.ok j p _ hp hj
  refine ⟨p, vs, rfl, hv.rd, ?_⟩
  rw [show vs.length = kvs.length from Paired.length hk]
  exact kk _ F1 H1 as1 g1 W1 (.int _)
/-- isinstance of a dict, of an instance -/
theorem isI_dk {lk : Option HO} {kvs : List (Str × PyData)} {T : String} {q : Bool} (hj : μ[j]? = some (.dk lk kvs)) (hb : kitB "dict" T = some q) : IsI X.K μ (.cell j) (.type T) q := by
  rintro F H as v W ⟨p, hp, rfl⟩
  obtain ⟨_, vs, hv, hk⟩ := W.ok j p _ hp hj
  cases lk with
  | none => exact ⟨_, .base (.dK hv), kit_ty hb⟩
  | some z =>
    obtain ⟨h1, od, rfl⟩ := hv
    exact ⟨_, .fDict h1, kit_ty hb⟩
/-- what isinstance asks of an own class -/
structure OwnC (K : PySem.W.Frag) (C : Addr) : Prop where
  cl : Cls K C
  ha : PySem.W.findIn K (.ref C) "__class__" = some (some (.builtin "object.__class__"))
  hn : PySem.W.specialIn K (.builtin "object.__class__") "__get__" = some (some (.builtin "getset_descriptor.__get__"))
  htk : PySem.W.takesIn K (.builtin "object.__class__") = some true
  hm : PySem.W.mroIn K C (.type "object") = some true
theorem isI_ins {v : Value} {q : Bool} (O : OwnC X.K C) (hj : μ[j]? = some (.ins C fs)) (hb : PySem.W.kitOne X.K (.ref C) v = some q) : IsI X.K μ (.cell j) v q := by
  rintro F H as u W ⟨p, hp, rfl⟩
  obtain ⟨_, dx, vs, hv, hk⟩ := W.ok j p _ hp hj
  exact ⟨_, .base (.ins hv O.cl O.ha O.hn O.htk O.hm), hb⟩
end
end Sy

set_option maxHeartbeats 1000000
/-! Sy14: dict comprehensions by texts. -/
namespace Sy
open PySem PySem.Spec PyProof.Rows L2
/-- d[k] = v -/
def putD (kvs : List (Str × PyData)) (k : Str) (v : PyData) : List (Str × PyData) := if kvs.any (fun p => decide (p.1 = k)) then kvs.map fun p => if p.1 = k then (p.1, v) else p else kvs ++ [(k, v)]
theorem KvS.any {F : Hp} {k : Str} : ∀ {vs : List (Key × V)} {kvs : List (Str × PyData)}, KvS F vs kvs → (vs.any fun p => decide (p.1 = Sum.inr k)) = kvs.any fun p => decide (p.1 = k)
  | _, _, .nil => rfl
  | p :: vs, q :: kvs, .cons h t => by
    rw [List.any_cons, List.any_cons, KvS.any t, h.1]
    congr 1
    exact key_rr q.1 k
theorem KvS.repl {F : Hp} {k : Str} {v : V} {d : PyData} (hv : DV F v d) : ∀ {vs : List (Key × V)} {kvs : List (Str × PyData)}, KvS F vs kvs → KvS F (vs.map fun p => if p.1 = Sum.inr k then (p.1, v) else p) (kvs.map fun p => if p.1 = k then (p.1, d) else p)
  | _, _, .nil => .nil
  | p :: vs, q :: kvs, .cons h t => by
    rw [List.map_cons, List.map_cons]
    refine .cons ?_ (KvS.repl hv t)
    by_cases e : q.1 = k
    · rw [if_pos e, if_pos (by rw [h.1, e])]
      exact ⟨h.1, hv⟩
    · rw [if_neg e, if_neg (by rw [h.1]; exact fun z => e (Sum.inr.inj z))]
      exact h
theorem paired_app {α β : Type} {R : α → β → Prop} : ∀ {l l' : List α} {k k' : List β}, Paired R l k → Paired R l' k' → Paired R (l ++ l') (k ++ k')
  | _, _, _, _, .nil, h => h
  | _, _, _, _, .cons h t, h' => .cons h (paired_app t h')
theorem KvS.put {F : Hp} {k : Str} {v : V} {d : PyData} (hv : DV F v d) {vs : List (Key × V)} {kvs : List (Str × PyData)} (h : KvS F vs kvs) : KvS F (putK vs (Sum.inr k) v) (putD kvs k d) := by
  unfold putK putD
  rw [KvS.any (k := k) h]
  by_cases e : (kvs.any fun p => decide (p.1 = k)) = true
  · rw [if_pos e, if_pos e]
    exact KvS.repl hv h
  · rw [if_neg e, if_neg e]
    exact paired_app h (.cons ⟨rfl, hv⟩ .nil)
theorem KvS.mono {F F' : Hp} (s : Same F F') {vs : List (Key × V)} {kvs : List (Str × PyData)} (h : KvS F vs kvs) : KvS F' vs kvs := pImp2 h fun _ _ _ h => ⟨h.1, DV.mono s h.2⟩
theorem putD_len (kvs : List (Str × PyData)) (k : Str) (v : PyData) : (putD kvs k v).length ≤ kvs.length + 1 := by
  unfold putD
  split
  · rw [List.length_map]; omega
  · rw [List.length_append]; exact Nat.le_refl _
section
variable {X : Cx} {env : En} {μ μ1 μ2 μ' : Mu} {sv s1 s2 : SV} {kx vx iter : Expr} {ifs : List Expr} {pos p0 p1 : Pos} {x : Str} {scope : Scope} {ds : List PyData} {out : List (Str × PyData)} {S : Mu → Prop}
/-- one turn -/
def TurnK (X : Cx) (scope : Scope) (kx vx : Expr) (ifs : List Expr) (env : En) (I : Nat → List (Str × PyData) → Mu → Prop) (i k : Nat) (d : PyData) (acc : List (Str × PyData)) (m : Mu) : Prop :=
  ∃ q m1, AllB X scope (fun B => STs B ifs (env.set i (some (.dat d))) m q m1) ∧
    (q = true → ∃ s d' m2 m3, I (k + 1) (putD acc s d') m3 ∧ AllB X scope (fun B => SE B kx (env.set i (some (.dat d))) m1 (.dat (.str s)) m2) ∧ AllB X scope fun B => SE B vx (env.set i (some (.dat d))) m2 (.dat d') m3) ∧ (q = false → I (k + 1) acc m1)
theorem dc_read (i : Nat) (I : Nat → List (Str × PyData) → Mu → Prop) (hz : ds.length ≤ sizeLine) (h0 : I 0 [] μ1) (hS : ∀ k acc m, I k acc m → S m)
    (hs : ∀ k d acc m, ds[k]? = some d → I k acc m → TurnK X scope kx vx ifs env I i k d acc m) (hd : ∀ acc m, I ds.length acc m → acc = out ∧ m = μ2) :
    ∀ σ H Q, rdE env μ (.cell μ2.length) (μ2 ++ [.dk none out]) σ H Q → tDc (rdI env μ ds μ1 S) (gName i) (rdTT X scope ifs) (rdEE X scope kx) (rdEE X scope vx) [i] σ H Q := by
  intro σ H Q ⟨F, as, hE, W, k⟩
  refine ⟨F, as, hE, W, fun J G Y F1 H1 as1 g1 W1 w hG hY D nD => ?_⟩
  have nH : H D = none := g1.dom D nD
  refine ⟨fun t mm H2 => mm = ds.length - t ∧ t ≤ ds.length ∧ ∃ acc m F2 as2 vs, I t acc m ∧ acc.length ≤ t ∧ Wd F2 H2 as2 m ∧ Go F1 H1 as1 F2 H2 as2 ∧ H2 D = some (.dK vs) ∧ F2 D = none ∧ D ∉ as2 ∧ KvS F2 vs acc, ?_, ?_⟩
  · obtain ⟨f1, f2⟩ := W1.nofree nD
    exact ⟨_, rfl, Nat.zero_le _, [], μ1, F1, as1, [], h0, Nat.le_refl _, W1.off f1 f2, (Go.refl _ _ _).off nD, upd_same, f1, f2, .nil⟩
  rintro k2 mm H2 ⟨rfl, hk2, acc, m, F2, as2, vs, i2, l2, W2, g2, hD, nF, na, dv⟩
  have gg := hG F2 H2 as2 m g2 W2 (hS k2 acc m i2)
  by_cases hlt : k2 < ds.length
  · refine .inr ⟨w.goes k2 H2 hlt gg, fun H' => k2 + 1 ≤ ds.length ∧ ∃ acc m F2 as2 vs, I (k2 + 1) acc m ∧ acc.length ≤ k2 + 1 ∧ Wd F2 H' as2 m ∧ Go F1 H1 as1 F2 H' as2 ∧ H' D = some (.dK vs) ∧ F2 D = none ∧ D ∉ as2 ∧ KvS F2 vs acc, fun H' z => ⟨ds.length - (k2 + 1), by omega, rfl, z.1, z.2⟩, fun v H' y => ?_⟩
    obtain ⟨rfl, d, hd1, dvd⟩ := hY k2 F2 H2 as2 m v H' g2 W2 (hS k2 acc m i2) (w.yields k2 H2 v H' hlt gg y) hlt
    obtain ⟨q, m1, ht, hT, hF⟩ := hs k2 d acc m hd1 i2
    have env2 : EnvOk F2 as2 (env.set i (some (.dat d))) ((wipe σ [i]).set i (some v)) := by
      have e1 := ((hE.mono g1).mono g2).set (sv := .dat d) dvd i
      show EnvOk F2 as2 _ ((σ.set i none).set i (some v))
      rw [List.set_set]
      exact e1
    refine ⟨?_, env.set i (some (.dat d)), m, q, m1, ht, F2, as2, env2, W2, fun F3 H3 as3 g3 W3 => ?_⟩
    · show ((σ.set i none).set i (some v)).set i none = σ.set i none
      rw [List.set_set, List.set_set]
    · obtain ⟨hD3, nF3, na3⟩ := g3.apart hD nF na
      cases q with
      | true =>
        obtain ⟨s, d', m2, m3, i3, hk, he⟩ := hT rfl
        refine ⟨env.set i (some (.dat d)), m1, .dat (.str s), m2, hk, F3, as3, env2.mono g3, W3, fun u F4 H4 as4 g4 W4 r4 => ?_⟩
        obtain ⟨hD4, nF4, na4⟩ := g4.apart hD3 nF3 na3
        refine ⟨env.set i (some (.dat d)), m2, .dat d', m3, he, F4, as4, (env2.mono g3).mono g4, W4, fun u2 F5 H5 as5 g5 W5 r5 => ?_⟩
        obtain ⟨hD5, nF5, na5⟩ := g5.apart hD4 nF4 na4
        cases r4
        have hl : vs.length = acc.length := Paired.length dv
        refine ⟨vs, Sum.inr s, rfl, hD5, by omega, hlt, putD acc s d', m3, F5, as5, putK vs (Sum.inr s) u2, i3, ?_, W5.off nF5 na5, (((g2.trans g3).trans g4).trans g5).off nD, upd_same, nF5, na5, ?_⟩
        · have := putD_len acc s d'
          omega
        · exact KvS.put r5 (((dv.mono g3.sub).mono g4.sub).mono g5.sub)
      | false => exact ⟨hlt, acc, m1, F3, as3, vs, hF rfl, by omega, W3, g2.trans g3, hD3, nF3, na3, dv.mono g3.sub⟩
  · have e : k2 = ds.length := by omega
    subst e
    refine .inl ⟨w.stops H2 gg, ?_⟩
    obtain ⟨rfl, rfl⟩ := hd acc m i2
    have W3 := W2.era nF na
    have z := W3.addO (c := .dk none acc) (o := .dK vs) era_same fun nF => ⟨nF, vs, upd_same, dv⟩
    rw [era_upd hD] at z
    refine k _ F2 H2 _ ((g1.trans (g2.era nD)).trans z.2) z.1 ⟨D, ?_, rfl⟩
    rw [List.getElem?_append_right (by rw [W2.len]; exact Nat.le_refl _), W2.len, Nat.sub_self]
    rfl
/-- {k: v for x in iter if ..} -/
theorem se_dc (i : Nat) (I : Nat → List (Str × PyData) → Mu → Prop) (hc : X.calm = true) (hN : X.N.Nodup) (hi : SI X (.Name x p1) iter env μ ds μ1 S) (ok : BlkOk X.N X.env.scope scope [(x, i)]) (hz : ds.length ≤ sizeLine) (h0 : I 0 [] μ1) (hS : ∀ k acc m, I k acc m → S m)
    (hs : ∀ k d acc m, ds[k]? = some d → I k acc m → TurnK X scope kx vx ifs env I i k d acc m) (hd : ∀ acc m, I ds.length acc m → acc = out ∧ m = μ2)
    (hn : X.N[i]? = some x := by rfl) (hl : AllB X scope (fun B => Loc B.env.scope x) := by intro _ _ _ _ _; first | exact .inl rfl | exact .inr rfl)
    (hfn : AllB X scope (fun B => B.fn x = true ∨ B.env.scope.names.lookup x = some .local) := by intro _ _ _ _ _; first | exact .inl rfl | exact .inr rfl)
    (hf : ∀ x, foldedSetIterable iter X.env x = pure x := by intro _; rfl) : SE X (.DictComp kx vx [⟨.Name x p1, iter, ifs, 0⟩] scope pos) env μ (.cell μ2.length) (μ2 ++ [.dk none out]) := by
  refine PE.imp (pe_dc (own := [(x, i)]) (g := gName i) (tt := rdTT X scope ifs) (tk := rdEE X scope kx) (tv := rdEE X scope vx) hc hN hi ok ?_ ?_ ?_ ?_ hf) (dc_read i I hz h0 hS hs hd)
  · exact fun s H C cl fp => pg_name hN hn (hl s H C cl fp) (hfn s H C cl fp)
  · exact fun s H C cl fp => ⟨fun pins s2 σ H2 Q J ⟨env, m, q, m1, h, z⟩ => (h s H C cl fp).run pins s2 σ H2 Q J z⟩
  · exact fun s H C cl fp => ⟨fun pins s2 σ H2 Q J ⟨env, m, q, m1, h, z⟩ => (h s H C cl fp).run pins s2 σ H2 Q J z⟩
  · exact fun s H C cl fp => ⟨fun pins s2 σ H2 Q J ⟨env, m, q, m1, h, z⟩ => (h s H C cl fp).run pins s2 σ H2 Q J z⟩
end
end Sy

/-! Sy15: repr of data or of an empty dict. -/
namespace Sy
open PySem PySem.Spec PyProof.Rows L2
section
variable {X : Cx}
theorem cr_repr0 (gX : X.A.guards = some []) (hu : X.A.units + 66 < cLine) : CallR X (.builtin "repr") (fun xs H Q => ∃ a, xs = [.ref a] ∧ H a = some (.dK []) ∧ Q (.str (PyData.dict []).shown) H) := by
  intro pins s σ H xs us Q I r h
  obtain ⟨a, rfl, ha, q⟩ := h
  obtain ⟨u, rfl, ru⟩ := vals1 r
  cases ru
  obtain ⟨_, hsm, vs, kv, o, es, ep, h1, h2, h3, _, h5, _⟩ := (show ObjOk X.prog X.w H s.heap a (.dK []) from I.hok a _ ha)
  cases kv
  have e0 : es.toList = [] := by
    cases he : es.toList with
    | nil => rfl
    | cons x l => rw [he] at h5; cases h5
  have rd : Reads s.heap (.ref a) (.dict []) (a :: [] ++ []) := Reads.dict h1 h2.1 h3 (by rw [e0]; exact .nil) (by rw [e0]; exact .nil)
  refine repr_of_reads' rd rfl (fun _ z => ?_) gX (by have : (PyData.dict []).depth = 1 := rfl; omega) (fun _ _ e => e) (fun h' u tk kept => ?_) (by decide)
  · have : sysModules = a := by simpa using z
    rw [this] at hsm
    simp at hsm
  · exact ⟨.str _, H, I.kept (t' := tk) kept, ⟨_, rfl⟩, q⟩
end
/-- data that repr takes -/
def Rp (d : PyData) : Prop := reprOk [d] ∨ d = .dict []
section
variable {X : Cx} {env : En} {μ μ1 : Mu} {s1 : SV} {e : Expr} {pos p0 : Pos} {k : Nat} {d1 : PyData}
theorem e_reprR (B : Bi X.mg) (gX : X.A.guards = some []) (hr : Room k X.A) (ha : SE X e env μ s1 μ1) (v1 : Sy.view μ1 s1 = some d1) (hk : Rp d1) (hg : Gl X "repr" := by rfl)
    (he : starEach [e] X.env = (false, eval e X.env) :: starEach [] X.env := by rfl) : SE X (.Call (.Name "repr" p0) [e] [] pos) env μ (.dat (.str d1.shown)) μ1 := by
  rcases hk with h | rfl
  · exact e_repr B gX hr (a1 ha he) v1 h hg he
  · refine PE.imp (pe_callB (cr_repr0 gX (by have := hr.un; omega)) hg B.repr (by decide +kernel) (pa_cons ha pa_nil he) (by decide) (by decide) he rfl) fun σ H Q ⟨F, as, hE, W, kk⟩ => ⟨F, as, hE, W, fun v F1 H1 as1 g1 W1 r1 => ?_⟩
    have t := W1.view r1 v1
    cases t with
    | dct0 e0 => exact ⟨_, rfl, W1.sub _ _ e0, kk _ F1 H1 as1 g1 W1 (.str _)⟩
end
end Sy

/-! Sy16: a list of things told by a property; join of such a list. -/
namespace Sy
open PySem PySem.Spec PyProof.Rows L2
section
variable {X : Cx} {env : En} {μ μ1 : Mu} {a e : Expr} {es : List Expr} {pos apos : Pos} {P PL : SV → Mu → Prop} {PA : List SV → Mu → Prop}
theorem sen_l (ha : SAn X es env μ PA) (h : ∀ svs m, PA svs m → ∃ ds, svs = ds.map SV.dat ∧ ds.length ≤ sizeLine ∧ P (.dat (.list ds)) m) : SEn X (.List es pos) env μ P := by
  refine PE.imp (pe_lst ha) fun σ H Q ⟨F, as, he, W, k⟩ => ⟨F, as, he, W, fun svs m xs F1 H1 as1 p g1 W1 r1 => ?_⟩
  obtain ⟨ds, rfl, hz, hp⟩ := h svs m p
  have dv := RAll.dvs (H := H1) r1
  exact ⟨by rw [dv.length]; exact hz, fun p np => (Fi.dat (μ := m)).run W1 (fun v F3 H3 as3 g3 W3 r3 => k _ m v F3 H3 as3 hp (g1.trans g3) W3 r3) p xs np dv⟩
theorem sen_join {z : Str} (ha : SE X a env μ (.dat (.str z)) μ1) (he : SEn X e env μ1 PL) (h : ∀ s m, PL s m → ∃ ys : List Str, s = .dat (.list (ys.map PyData.str)) ∧ (ys.map (·.length)).sum + ys.length * z.length ≤ 16777216 ∧ P (.dat (.str (Txt.join z ys))) m)
    (hs : starEach [e] X.env = [(false, eval e X.env)] := by rfl) (hbase : attributeBase a "join" X.env (eval a X.env) = eval a X.env := by rfl) (hline : (apos.endLine == pos.line) = true := by rfl) :
    SEn X (.Call (.Attribute a "join" apos) [e] [] pos) env μ P := by
  refine PE.imp (pe_join ha he hs hbase hline) fun σ H Q ⟨F, as, hE, W, k⟩ => ⟨F, as, hE, W, fun u F1 H1 as1 g1 W1 r1 => ?_⟩
  cases r1
  refine ⟨⟨z, rfl⟩, F1, as1, hE.mono g1, W1, fun s m v F2 H2 as2 p g2 W2 r2 => ?_⟩
  obtain ⟨ys, rfl, hz, hp⟩ := h s m p
  have hstrs : ∀ {vs : List V} {ys : List Str}, DVs F2 vs (ys.map PyData.str) → vs = ys.map V.str := by
    intro vs ys h
    induction ys generalizing vs with
    | nil => cases h; rfl
    | cons y ys ih =>
      cases h with
      | cons h1 h2 =>
        cases h1
        rw [ih h2]
        rfl
  cases r2 with
  | lst h1 h2 =>
    rw [hstrs h2] at h1
    exact ⟨z, _, ys, rfl, rfl, .inl (.inl (.inl (W2.sub _ _ h1))), hz, k _ m _ F2 H2 as2 hp (g1.trans g2) W2 (.str _)⟩
end
end Sy

/-! LC1: the laws' bag: its mathematics. -/
namespace Lw
open PySem Sy

/-- the laws' bag -/
structure Bag where
  a : Int
  seed : Int
  i : Int
  cells : List Int
def bagD (s : Bag) : List PyData := [.int s.a, .int s.seed, .int s.i, .list (s.cells.map PyData.int)]
def bagC (s : Bag) : Cell := .lst (bagD s)
structure Good (s : Bag) : Prop where
  a0 : 0 ≤ s.a
  s0 : 0 ≤ s.seed
  s1 : s.seed < 2147483647
  i0 : 0 ≤ s.i
def cellOf (s : Bag) : Int := if s.i < s.cells.length then s.cells.getD s.i.toNat 0 else 0
def fill (s : Bag) : Bag := if s.a = 0 then
    ⟨if 1000000000000000000 ≤ cellOf s then cellOf s else 0, (s.seed * 48271 + (cellOf s % 2147483647 + 7919 * (s.i + 1))) % 2147483647, s.i + 1, s.cells⟩
  else s
def takeV (s : Bag) (n : Int) : Int := if 0 < (fill s).a then (fill s).a % n else ((fill s).seed * 48271 + 11) % 2147483647 / 64 % n
def takeS (s : Bag) (n : Int) : Bag := if 0 < (fill s).a then { fill s with a := (fill s).a / n } else { fill s with seed := ((fill s).seed * 48271 + 11) % 2147483647 }
theorem fill_good {s : Bag} (h : Good s) : Good (fill s) := by
  unfold fill
  split
  · refine ⟨?_, Int.emod_nonneg _ (by decide), Int.emod_lt_of_pos _ (by decide), ?_⟩
    · show 0 ≤ if 1000000000000000000 ≤ cellOf s then cellOf s else 0
      split <;> omega
    · show 0 ≤ s.i + 1
      have := h.i0
      omega
  · exact h
theorem takeS_good {s : Bag} {n : Int} (h : Good s) (hn : 0 < n) : Good (takeS s n) := by
  have f := fill_good h
  unfold takeS
  split
  · exact ⟨Int.ediv_nonneg f.a0 (Int.le_of_lt hn), f.s0, f.s1, f.i0⟩
  · exact ⟨f.a0, Int.emod_nonneg _ (by decide), Int.emod_lt_of_pos _ (by decide), f.i0⟩
theorem takeV_nonneg {s : Bag} {n : Int} (hn : 0 < n) : 0 ≤ takeV s n := by
  unfold takeV
  split <;> exact Int.emod_nonneg _ (by omega)
theorem takeV_lt {s : Bag} {n : Int} (hn : 0 < n) : takeV s n < n := by
  unfold takeV
  split <;> exact Int.emod_lt_of_pos _ hn
/-- take's promise: the bag is the first cell -/
def CTake : List SV → Mu → SV → Mu → Prop := fun args μ sv μ' => ∃ s n m, args = [.cell 0, .dat (.int n)] ∧ μ = bagC s :: m ∧ Good s ∧ 0 < n ∧ n < 1073741824 ∧ sv = .dat (.int (takeV s n)) ∧ μ' = bagC (takeS s n) :: m
theorem keeps_head {sv : SV} {s s' : Bag} {m : Mu} : Keeps sv (bagC s :: m) (bagC s' :: m) := fun j c h => by
  cases j with
  | zero =>
    obtain rfl := Option.some.inj h
    exact .inr fun i hi => nomatch hi
  | succ j => exact .inl h
theorem keeps_snoc {sv : SV} {ds : List PyData} {μ : Mu} : Keeps sv μ (μ ++ [.lst ds]) := fun j c h => by
  by_cases hj : j < μ.length
  · rw [List.getElem?_append_left hj] at h
    exact .inl h
  · rw [List.getElem?_append_right (by omega)] at h
    have e0 : j - μ.length = 0 := by
      have := (List.getElem?_eq_some_iff.mp h).1
      simp at this
      omega
    rw [e0] at h
    obtain rfl := Option.some.inj h
    exact .inr fun i hi => nomatch hi
theorem ct_take : CtOk CTake 2 := by
  rintro _ _ _ _ ⟨s, n, m, rfl, rfl, _, _, _, rfl, rfl⟩
  exact ⟨rfl, Nat.le_refl _, (fun j e => nomatch e), keeps_head⟩
end Lw

/-! LC2: data that can be compared and shown. -/
namespace Lw
open PySem Sy L2

/-- data that == and repr take: how deep at most, how long its text at most -/
structure Ok (d : PyData) (h n : Nat) : Prop where
  lay : d.canLay0 = true
  shw : d.showable = true
  dep : d.depth ≤ h
  txt : d.shown.length ≤ n
theorem Ok.mono {d : PyData} {h n h' n' : Nat} (o : Ok d h n) (a : h ≤ h') (b : n ≤ n') : Ok d h' n' := ⟨o.lay, o.shw, Nat.le_trans o.dep a, Nat.le_trans o.txt b⟩
theorem str_len_append (a b : Str) : (a ++ b).length = a.length + b.length := by
  show (a.cps ++ b.cps).size = a.cps.size + b.cps.size
  exact Array.size_append
theorem Ok.none : Ok .none 0 4 := ⟨rfl, rfl, Nat.le_refl _, by decide⟩
theorem Ok.bool (b : Bool) : Ok (.bool b) 0 5 := by cases b <;> exact ⟨rfl, rfl, Nat.le_refl _, by decide⟩
theorem Ok.str {x : Str} (h : PyData.strOk x = true) {n : Nat} (hn : x.length ≤ n) : Ok (.str x) 0 (10 * n + 2) := by
  refine ⟨by simpa [PyData.canLay0] using h, rfl, Nat.le_refl _, ?_⟩
  have k := StrLaws.reprText_len x fun c hc => by
    have := h
    unfold PyData.strOk at this
    rw [Array.all_eq_true'] at this
    have z := of_decide_eq_true (this c (Array.mem_toList_iff.mp hc))
    omega
  show (reprText x).length ≤ _
  omega
theorem textFrom_le : ∀ (ts : List Str) (k : Nat) (acc : Str), (textFrom k acc ts).length ≤ acc.length + piled ts
  | [], k, acc => Nat.le_refl _
  | t :: r, k, acc => by
    have ih := textFrom_le r (k + 1) (acc ++ (if k > 0 then ", " else "" : String) ++ t)
    rw [str_len_append, str_len_append] at ih
    rw [piled_cons]
    have : (Str.ofString (if k > 0 then ", " else "" : String)).length ≤ 2 := by split <;> decide
    show (textFrom (k + 1) (acc ++ (if k > 0 then ", " else "" : String) ++ t) r).length ≤ _
    omega
theorem piled_le {n : Nat} : ∀ {ts : List Str}, (∀ t ∈ ts, t.length ≤ n) → piled ts ≤ ts.length * (n + 2)
  | [], _ => Nat.zero_le _
  | t :: r, h => by
    have ih := piled_le (ts := r) fun t ht => h t (List.mem_cons_of_mem _ ht)
    have := h t List.mem_cons_self
    rw [piled_cons, List.length_cons, Nat.succ_mul]
    omega
theorem shownAll_len : ∀ ds : List PyData, (PyData.shownAll ds).length = ds.length
  | [] => rfl
  | d :: ds => by simp [PyData.shownAll, shownAll_len ds]
theorem shownAll_le {n : Nat} : ∀ {ds : List PyData}, (∀ d ∈ ds, d.shown.length ≤ n) → ∀ t ∈ PyData.shownAll ds, t.length ≤ n
  | [], _, t, ht => by simp [PyData.shownAll] at ht
  | d :: ds, h, t, ht => by
    simp only [PyData.shownAll, List.mem_cons] at ht
    rcases ht with rfl | ht
    · exact h d List.mem_cons_self
    · exact shownAll_le (ds := ds) (fun d hd => h d (List.mem_cons_of_mem _ hd)) t ht
theorem all_lay {h n : Nat} : ∀ {ds : List PyData}, (∀ d ∈ ds, Ok d h n) → PyData.canLayAll0 ds = true ∧ PyData.showableAll ds = true ∧ PyData.depthAll ds ≤ h
  | [], _ => ⟨rfl, rfl, Nat.zero_le _⟩
  | d :: ds, k => by
    obtain ⟨h1, h2, h3⟩ := all_lay (ds := ds) fun d hd => k d (List.mem_cons_of_mem _ hd)
    have o := k d List.mem_cons_self
    refine ⟨by simp only [PyData.canLayAll0, o.lay, h1, Bool.and_self], by simp only [PyData.showableAll, o.shw, h2, Bool.and_self], ?_⟩
    show max d.depth (PyData.depthAll ds) ≤ h
    have := o.dep
    omega
theorem Ok.list {ds : List PyData} {h n : Nat} (k : ∀ d ∈ ds, Ok d h n) {m : Nat} (hm : ds.length ≤ m) : Ok (.list ds) (h + 1) (m * (n + 2) + 2) := by
  obtain ⟨h1, h2, h3⟩ := all_lay k
  refine ⟨h1, h2, Nat.succ_le_succ h3, ?_⟩
  show (textFrom 0 "[" (PyData.shownAll ds) ++ Str.ofString "]").length ≤ _
  rw [str_len_append]
  have a := textFrom_le (PyData.shownAll ds) 0 "["
  have b := piled_le (shownAll_le fun d hd => (k d hd).txt)
  rw [shownAll_len] at b
  have c : (Str.ofString "[").length = 1 := by decide
  have d : (Str.ofString "]").length = 1 := by decide
  have e : ds.length * (n + 2) ≤ m * (n + 2) := Nat.mul_le_mul_right _ hm
  omega
theorem Ok.tuple {ds : List PyData} {h n : Nat} (k : ∀ d ∈ ds, Ok d h n) {m : Nat} (hm : ds.length ≤ m) : Ok (.tuple ds) (h + 1) (m * (n + 2) + 3) := by
  obtain ⟨h1, h2, h3⟩ := all_lay k
  refine ⟨h1, h2, Nat.succ_le_succ h3, ?_⟩
  show (Str.ofString "(" ++ Str.join ", " (PyData.shownAll ds) ++ (Str.ofString (if (PyData.shownAll ds).length == 1 then ",)" else ")" : String))).length ≤ _
  rw [str_len_append, str_len_append]
  have b := piled_le (shownAll_le fun d hd => (k d hd).txt)
  rw [shownAll_len] at b
  have c : (Str.ofString "(").length = 1 := by decide
  have d : (Str.ofString (if (PyData.shownAll ds).length == 1 then ",)" else ")" : String)).length ≤ 2 := by split <;> decide
  have e : ds.length * (n + 2) ≤ m * (n + 2) := Nat.mul_le_mul_right _ hm
  by_cases hz : PyData.shownAll ds = []
  · rw [hz]
    have f : (Str.join (Str.ofString ", ") []).length = 0 := by decide
    rw [hz] at d
    omega
  · have := join_length_add (PyData.shownAll ds) hz
    omega
theorem Ok.mem {ds : List PyData} {h n : Nat} (o : Ok (.list ds) h n) : True := trivial
mutual
theorem noDict : ∀ {d : PyData}, d.canLay0 = true → d.hasDict = false
  | .none, _ => rfl
  | .bool _, _ => rfl
  | .int _, _ => rfl
  | .str _, _ => rfl
  | .list ds, h => noDicts (ds := ds) h
  | .tuple ds, h => noDicts (ds := ds) h
  | .dict _, h => nomatch h
theorem noDicts : ∀ {ds : List PyData}, PyData.canLayAll0 ds = true → PyData.hasDictAll ds = false
  | [], _ => rfl
  | d :: ds, h => by
    simp only [PyData.canLayAll0, Bool.and_eq_true] at h
    simp only [PyData.hasDictAll, noDict h.1, noDicts h.2, Bool.or_self]
end
theorem Ok.shaped {d : PyData} {h n : Nat} (o : Ok d h n) (hh : h ≤ 64 := by decide) : SeqAt.shaped d = true := by
  unfold SeqAt.shaped
  rw [o.lay, decide_eq_true (Nat.le_trans o.dep hh)]
  rfl
theorem Ok.repr {d : PyData} {h n : Nat} (o : Ok d h n) (hn : n ≤ sizeLine) (hh : h ≤ 64 := by decide) : reprOk [d] :=
  ⟨o.shw, noDict o.lay, Nat.le_trans o.dep hh, Nat.le_trans o.txt hn⟩
theorem eq_of {d e : PyData} {h n h' n' : Nat} (o : Ok d h n) (o' : Ok e h' n') (hh : h ≤ 64 := by decide) (hh' : h' ≤ 64 := by decide) : eqOk d e := ⟨o.shaped hh, o'.shaped hh'⟩
/-! ### names -/
abbrev nameD (n : List Str) : PyData := .tuple (n.map PyData.str)
theorem eqvAll_strs : ∀ a b : List Str, PyData.eqvAll (a.map PyData.str) (b.map PyData.str) = decide (a = b)
  | [], [] => rfl
  | [], _ :: _ => rfl
  | _ :: _, [] => rfl
  | x :: a, y :: b => by
    show (PyData.eqv (.str x) (.str y) && PyData.eqvAll (a.map PyData.str) (b.map PyData.str)) = _
    rw [eqvAll_strs a b]
    show ((x == y) && decide (a = b)) = _
    by_cases h1 : x = y
    · by_cases h2 : a = b
      · simp [h1, h2]
      · simp [h1, h2]
    · simp [h1]
theorem eqv_name (a b : List Str) : PyData.eqv (nameD a) (nameD b) = decide (a = b) := eqvAll_strs a b
theorem strs_inj {a b : List Str} (h : a.map PyData.str = b.map PyData.str) : a = b := by
  have e1 := eqvAll_strs a b
  have e2 := eqvAll_strs b b
  rw [h, e2, decide_eq_true rfl] at e1
  exact of_decide_eq_true e1.symm
/-- a label as the laws have them -/
structure Lab (x : Str) : Prop where
  let_ : ∀ c ∈ x.cps.toList, 97 ≤ c ∧ c ≤ 122
  pos : 1 ≤ x.length
  len : x.length ≤ 16
theorem Lab.ok {x : Str} (h : Lab x) : PyData.strOk x = true := by
  unfold PyData.strOk
  rw [Array.all_eq_true']
  intro c hc
  have := h.let_ c (Array.mem_toList_iff.mpr hc)
  exact decide_eq_true (by omega)
theorem Lab.append {x y : Str} (h : Lab x) (h' : Lab y) (hl : x.length + y.length ≤ 16) : Lab (x ++ y) := by
  refine ⟨fun c hc => ?_, by rw [str_len_append]; have := h.pos; omega, by rw [str_len_append]; exact hl⟩
  have : c ∈ (x.cps ++ y.cps).toList := hc
  rw [Array.toList_append] at this
  rcases List.mem_append.mp this with z | z
  · exact h.let_ c z
  · exact h'.let_ c z
structure Nm (n : List Str) (k : Nat) : Prop where
  lab : ∀ x ∈ n, Lab x
  len : n.length ≤ k
theorem Nm.okD {n : List Str} {k : Nat} (h : Nm n k) : Ok (nameD n) 1 (k * 164 + 3) :=
  Ok.tuple (h := 0) (n := 162) (fun d hd => by
    obtain ⟨x, hx, rfl⟩ := List.mem_map.mp hd
    exact (Ok.str (h.lab x hx).ok (h.lab x hx).len)) (by rw [List.length_map]; exact h.len)
theorem Nm.drop {n : List Str} {k : Nat} (h : Nm n k) (i : Nat) : Nm (n.drop i) k := ⟨fun x hx => h.lab x (List.mem_of_mem_drop hx), by rw [List.length_drop]; have := h.len; omega⟩
theorem Nm.take {n : List Str} {k : Nat} (h : Nm n k) (i : Nat) : Nm (n.take i) k := ⟨fun x hx => h.lab x (List.mem_of_mem_take hx), by rw [List.length_take]; have := h.len; omega⟩
theorem Nm.append {n m : List Str} {k j : Nat} (h : Nm n k) (h' : Nm m j) : Nm (n ++ m) (k + j) := ⟨fun x hx => (List.mem_append.mp hx).elim (h.lab x) (h'.lab x), by rw [List.length_append]; have := h.len; have := h'.len; omega⟩
theorem Nm.mono {n : List Str} {k j : Nat} (h : Nm n k) (e : k ≤ j) : Nm n j := ⟨h.lab, Nat.le_trans h.len e⟩
theorem Nm.nil {k : Nat} : Nm [] k := ⟨fun x hx => (nomatch hx), Nat.zero_le _⟩
/-! ### cuts -/
theorem cutD_from {ds : List PyData} {i : Int} (h : 0 ≤ i) : cutD ds (some i) none = ds.drop i.toNat := by
  unfold cutD
  obtain ⟨n, rfl⟩ := Int.eq_ofNat_of_zero_le h
  rw [show HT.sIx ds.length 0 (some (n : Int)) = min n ds.length from HT.sIx_nat _ _ _, HT.sIx_none]
  show (ds.drop (min n ds.length)).take (ds.length - min n ds.length) = ds.drop n
  by_cases hn : n ≤ ds.length
  · rw [Nat.min_eq_left hn, List.take_of_length_le (by rw [List.length_drop]; exact Nat.le_refl _)]
  · rw [Nat.min_eq_right (by omega), List.drop_eq_nil_of_le (Nat.le_refl _), List.drop_eq_nil_of_le (by omega)]
    simp
theorem cutD_to {ds : List PyData} {i : Int} (h : 0 ≤ i) : cutD ds none (some i) = ds.take i.toNat := by
  unfold cutD
  obtain ⟨n, rfl⟩ := Int.eq_ofNat_of_zero_le h
  rw [show HT.sIx ds.length ds.length (some (n : Int)) = min n ds.length from HT.sIx_nat _ _ _, HT.sIx_none, List.drop_zero, Nat.sub_zero]
  show ds.take (min n ds.length) = ds.take n
  by_cases hn : n ≤ ds.length
  · rw [Nat.min_eq_left hn]
  · rw [Nat.min_eq_right (by omega), List.take_length, List.take_of_length_le (by omega)]
/-! ### a place in a list -/
theorem ixD_at {ds : List PyData} {i : Int} {d : PyData} (h0 : 0 ≤ i) (h : ds[i.toNat]? = some d) : ixD (.list ds) (.int i) = some (.val d) := by
  have h2 := (List.getElem?_eq_some_iff.mp h).1
  show (atI ds i).map Res.val = _
  unfold atI ixN
  rw [if_pos h0, if_pos (by omega)]
  show (ds[i.toNat]?).map Res.val = _
  rw [h]
  rfl
theorem ixD_atT {ds : List PyData} {i : Int} {d : PyData} (h0 : 0 ≤ i) (h : ds[i.toNat]? = some d) : ixD (.tuple ds) (.int i) = some (.val d) := ixD_at h0 h
theorem ixD_atS {z : Str} {i : Int} {c : Nat} (h0 : 0 ≤ i) (h : z.cps.toList[i.toNat]? = some c) : ixD (.str z) (.int i) = some (.val (.str ⟨#[c]⟩)) := by
  have h2 := (List.getElem?_eq_some_iff.mp h).1
  show (atI z.cps.toList i).map _ = _
  unfold atI ixN
  rw [if_pos h0, if_pos (by omega)]
  show (z.cps.toList[i.toNat]?).map _ = _
  rw [h]
  rfl
theorem ixD_ints {ns : List Int} {i : Int} (h0 : 0 ≤ i) (h1 : i < ns.length) : ixD (.list (ns.map PyData.int)) (.int i) = some (.val (.int (ns.getD i.toNat 0))) := by
  refine ixD_at h0 ?_
  have h2 : i.toNat < ns.length := by omega
  rw [List.getElem?_map, List.getElem?_eq_getElem h2, List.getD_eq_getElem?_getD, List.getElem?_eq_getElem h2]
  rfl
/-! ### contracts of what draws from the bag -/
def BPre (A : List SV → Prop) : List SV → Mu → Prop := fun args μ => ∃ s m r, args = .cell 0 :: r ∧ μ = bagC s :: m ∧ Good s ∧ A r
def BPost (R : List SV → SV → Prop) : List SV → Mu → SV → Mu → Prop := fun args μ sv μ' => ∃ r s m s', args = .cell 0 :: r ∧ μ = bagC s :: m ∧ Good s' ∧ μ' = bagC s' :: m ∧ R r sv
theorem ct_bag {A : List SV → Prop} {R : List SV → SV → Prop} {n : Nat} (h1 : ∀ r, A r → r.length + 1 = n) (h2 : ∀ r sv j, R r sv → sv ≠ .cell j) : CtN (BPre A) (BPost R) n := by
  refine ⟨?_, ?_⟩
  · rintro _ _ ⟨s, m, r, rfl, rfl, _, a⟩
    exact h1 r a
  · rintro _ _ _ _ _ ⟨r, s, m, s', rfl, rfl, _, rfl, hr⟩
    exact ⟨Nat.le_refl _, fun j e => absurd e (h2 r _ j hr), keeps_head⟩
section
variable {X : Cx} {env : En} {μ : Mu} {e : Expr} {es : List Expr} {pos p0 : Pos} {x : Str} {k j : Nat} {A : List SV → Prop} {R : List SV → SV → Prop} {r : List SV} {s : Bag} {m : Mu}
theorem b_call (F : FnN X.prog X.w X.K X.mg X.base k x (BPre A) (BPost R)) (hr : Room j X.A) (ha : SA X (e :: es) env μ (.cell 0 :: r) (bagC s :: m)) (hs : Good s) (hA : A r) (hkj : k ≤ j := by decide) (hg : Gl X x := by rfl) (hdb : (x == ("__debug__" : Str)) = false := by decide)
    (he : starEach (e :: es) X.env = (false, eval e X.env) :: starEach es X.env := by rfl) (hpl : (backTo pos (starEach es X.env)).any (·.1) = false := by rfl) :
    SEn X (.Call (.Name x p0) (e :: es) [] pos) env μ (fun sv μ' => ∃ s', Good s' ∧ μ' = bagC s' :: m ∧ R r sv) := by
  refine (c_call F hr ha ⟨s, m, r, rfl, rfl, hs, hA⟩ hkj hg hdb he hpl).imp ?_
  rintro sv μ' ⟨r', s1, m1, s', e1, e2, g, e3, h⟩
  cases e1
  obtain rfl := (List.cons.inj e2).2
  exact ⟨s', g, e3, h⟩
/-- take(bag, n) -/
theorem e_take {n : Int} (F : FnS X.prog X.w X.K X.mg X.base k "_law_take" CTake) (hr : Room j X.A) (ha : SA X (e :: es) env μ [.cell 0, .dat (.int n)] (bagC s :: m)) (hs : Good s) (hn : 0 < n ∧ n < 1073741824 := by omega) (hkj : k ≤ j := by decide) (hg : Gl X "_law_take" := by rfl)
    (he : starEach (e :: es) X.env = (false, eval e X.env) :: starEach es X.env := by rfl) (hpl : (backTo pos (starEach es X.env)).any (·.1) = false := by rfl) :
    SE X (.Call (.Name "_law_take" p0) (e :: es) [] pos) env μ (.dat (.int (takeV s n))) (bagC (takeS s n) :: m) :=
  se_call F hr ha ⟨s, n, m, rfl, rfl, hs, hn.1, hn.2, rfl, rfl⟩ hkj hg (by decide) he hpl
end
theorem at_draw {ds : List PyData} {b : Bag} (h : ds ≠ []) : ∃ d, d ∈ ds ∧ ds[(takeV b (ds.length : Int)).toNat]? = some d := by
  have hl : 0 < ds.length := List.length_pos_iff.mpr h
  have h1 := takeV_nonneg (s := b) (n := (ds.length : Int)) (by omega)
  have h2 := takeV_lt (s := b) (n := (ds.length : Int)) (by omega)
  have h3 : (takeV b (ds.length : Int)).toNat < ds.length := by omega
  exact ⟨_, List.getElem_mem h3, List.getElem?_eq_getElem h3⟩
theorem ret_same {s1 s2 : SV} {m1 m2 : Mu} (h : s1 = s2) (h' : m1 = m2) : Ret s1 m1 s2 m2 := by subst h h'; exact Ret.same
end Lw

/-! LC3: contracts of the laws' helpers and of the names' defs. -/
namespace Lw
open PySem PySem.Spec PyProof.Rows L2 Sy
section
variable {w : World} {P : Program} {base : Heap} {mg : Str → Option Value} {K : PySem.W.Frag}
/-! #### alike, pick, labels, word -/
def CAlike : List SV → Mu → SV → Mu → Prop := fun args μ sv μ' => ∃ s1 s2 d h n, args = [s1, s2] ∧ Sy.view μ s1 = some d ∧ Sy.view μ s2 = some d ∧ Ok d h n ∧ h ≤ 64 ∧ n ≤ sizeLine ∧ sv = .dat (.bool true) ∧ μ' = μ
theorem ct_alike : CtOk CAlike 2 := by
  rintro _ _ _ _ ⟨s1, s2, d, h, n, rfl, _, _, _, _, _, rfl, rfl⟩
  exact ⟨rfl, Nat.le_refl _, (fun j e => nomatch e), Keeps.same⟩
def APick : List SV → Prop := fun r => ∃ ds, r = [.dat (.list ds)] ∧ ds ≠ [] ∧ ds.length < 1073741824
def RPick : List SV → SV → Prop := fun r sv => ∃ ds d, r = [.dat (.list ds)] ∧ d ∈ ds ∧ sv = .dat d
theorem ct_pick : CtN (BPre APick) (BPost RPick) 2 := ct_bag (by rintro _ ⟨ds, rfl, _⟩; rfl) (by rintro _ _ j ⟨ds, d, _, _, rfl⟩ e; exact nomatch e)
/-! #### labels -/
def ALabels : List SV → Prop := fun r => ∃ n : Nat, r = [.dat (.int (n : Int))] ∧ n ≤ 100
def RLabels : List SV → SV → Prop := fun r sv => ∃ (n : Nat) (ls : List Str), r = [.dat (.int (n : Int))] ∧ sv = .dat (.list (ls.map PyData.str)) ∧ ls.length = n ∧ ∀ x ∈ ls, Lab x ∧ x.length ≤ 8
theorem ct_labels : CtN (BPre ALabels) (BPost RLabels) 2 := ct_bag (by rintro _ ⟨ds, rfl, _⟩; rfl) (by rintro _ _ j ⟨ds, d, _, rfl, _⟩ e; exact nomatch e)
/-- a stem: letters, at most seven -/
structure Stem (x : Str) : Prop where
  let_ : ∀ c ∈ x.cps.toList, 97 ≤ c ∧ c ≤ 122
  len : x.length ≤ 7
theorem stems_ok : ∀ d ∈ ([.str "", .str "a", .str "zzzzzzz", .str "aaaaaaa"] : List PyData), ∃ x, d = .str x ∧ Stem x := by
  intro d hd
  simp only [List.mem_cons, List.not_mem_nil, or_false] at hd
  rcases hd with rfl | rfl | rfl | rfl
  · exact ⟨_, rfl, by decide, by decide⟩
  · exact ⟨_, rfl, by decide, by decide⟩
  · exact ⟨_, rfl, by decide, by decide⟩
  · exact ⟨_, rfl, by decide, by decide⟩
theorem mul_bit {x : Str} (h : Stem x) {n : Int} (h0 : 0 ≤ n) (h1 : n < 2) : MulOk x n ∧ Stem (Txt.mul x n) := by
  have hn : n = 0 ∨ n = 1 := by omega
  rcases hn with rfl | rfl
  · exact ⟨⟨by decide, fun z => absurd (by decide) z, fun z => absurd (by decide) z⟩, by rw [show Txt.mul x 0 = Str.empty from rfl]; exact ⟨by decide, by decide⟩⟩
  · refine ⟨⟨by decide, fun _ z => ?_, fun _ z => ?_⟩, ?_⟩
    · exact absurd z (by simp)
    · exact absurd z (by simp)
    · rw [show Txt.mul x 1 = x from rfl]
      exact h
theorem lab_of {x : Str} (h : Stem x) {c : Nat} (hc : 97 ≤ c ∧ c ≤ 122) : Lab (x ++ ⟨#[c]⟩) ∧ (x ++ (⟨#[c]⟩ : Str)).length ≤ 8 := by
  have hl := h.len
  have e : (x ++ (⟨#[c]⟩ : Str)).length = x.length + 1 := str_len_append x ⟨#[c]⟩
  refine ⟨⟨fun z hz => ?_, by omega, by omega⟩, by omega⟩
  have : z ∈ (x.cps ++ #[c]).toList := hz
  rw [Array.toList_append] at this
  rcases List.mem_append.mp this with q | q
  · exact h.let_ z q
  · obtain rfl : z = c := by simpa using q
    exact hc
theorem letter_at {i : Int} (h0 : 0 ≤ i) (h1 : i < 26) : ∃ c, (Str.ofString "abcdefghijklmnopqrstuvwxyz").cps.toList[i.toNat]? = some c ∧ 97 ≤ c ∧ c ≤ 122 := by
  have h2 : i.toNat < 26 := by omega
  have : ∀ n : Nat, n < 26 → ∃ c, (Str.ofString "abcdefghijklmnopqrstuvwxyz").cps.toList[n]? = some c ∧ 97 ≤ c ∧ c ≤ 122 := by decide
  exact this _ h2
/-! #### word -/
def AWord : List SV → Prop := fun r => ∃ (ls : List Str) (a b : Int), r = [.dat (.list (ls.map PyData.str)), .dat (.int a), .dat (.int b)] ∧ ls ≠ [] ∧ ls.length ≤ 1000 ∧ 0 ≤ a ∧ a ≤ b ∧ b ≤ 100
def RWord : List SV → SV → Prop := fun r sv => ∃ (ls : List Str) (a b : Int) (n : List Str), r = [.dat (.list (ls.map PyData.str)), .dat (.int a), .dat (.int b)] ∧ sv = .dat (nameD n) ∧ a ≤ n.length ∧ n.length ≤ b ∧ ∀ x ∈ n, x ∈ ls
theorem ct_word : CtN (BPre AWord) (BPost RWord) 4 := ct_bag (by rintro _ ⟨ls, a, b, rfl, _⟩; rfl) (by rintro _ _ j ⟨ls, a, b, n, _, rfl, _⟩ e; exact nomatch e)
/-! #### the bag -/
def spBag (K : PySem.W.Frag) : Sp := fun vs H Q _ => ∃ (a : Addr) (ns : List Int), vs = [.ref a] ∧ SqL K H a (ns.map V.int) ∧ ns.length ≤ 1000 ∧
  ∀ (b c : Addr) (cs : List Int) (H' : Hp), b ≠ c → H' b = some (.lst [.int 0, .int 1234567891, .int 0, .ref c]) → H' c = some (.lst (cs.map V.int)) → Q (.ref b) H'
def spLaw (K : PySem.W.Frag) : Sp := fun vs H Q _ => ∃ (a : Addr) (ns : List Int), vs = [.ref a] ∧ SqL K H a (ns.map V.int) ∧ ns.length ≤ 63 ∧ ∀ H', Q (.bl true) H'
def RTrue : Out → Prop := fun o => ∃ m, o = .ret (.dat (.bool true)) m
/-- the law's body: first the bag, then the rest -/
theorem law_first {X : Cx} {rest : List Stmt} {H : Hp} {Q : VK} {E : XK} {vs : List V} {fB : Addr} {fdB : FuncData} {k j : Nat} (n : Nat) {p0 p1 p2 p3 p4 : Pos} (h : spLaw X.K vs H Q E)
    (GB : FnOk X.prog X.w X.K X.mg X.base CX0 k fB fdB ["_law_script"] (spBag X.K)) (hr : Room j X.A) (hkj : k ≤ j) (hm : X.mg "_law_bag" = some (.ref fB)) (hk : PySem.W.keepIn X.K (.ref fB) = true) (hb : Binds X.K fdB ["_law_script"] []) (hN : X.N.Nodup)
    (hrest : ∀ s, Good s → SSs X rest (none :: some (.cell 0) :: List.replicate n none) [bagC s] RTrue)
    (hl : X.N.length = n + 2 := by rfl) (h0 : X.N[0]? = some (Str.ofString "_law_script") := by rfl) (h1 : X.N[1]? = some (Str.ofString "_law_bag_here") := by rfl) (hv : Vis X.env.scope "_law_script" := by first | exact Or.inl rfl | exact Or.inr (Or.inl rfl) | exact Or.inr (Or.inr rfl))
    (hx : Loc X.env.scope "_law_bag_here" := by first | exact .inl rfl | exact .inr rfl) (hg : Gl X "_law_bag" := by rfl) (hf : X.fn "_law_bag_here" = true ∨ X.env.scope.names.lookup (Str.ofString "_law_bag_here") = some .local := by first | exact .inl rfl | exact .inr rfl)
    (hs : swapsWith (.Call (.Name "_law_bag" p1) [.Name "_law_script" p2] [] p3) (some (.Name "_law_bag_here" p0)) p4.line X.env = pure false := by rfl)
    (he : starEach [.Name "_law_script" p2] X.env = (false, eval (.Name "_law_script" p2) X.env) :: starEach [] X.env := by rfl) :
    ∃ t, PSs X (.Assign [.Name "_law_bag_here" p0] (.Call (.Name "_law_bag" p1) [.Name "_law_script" p2] [] p3) p4 :: rest) t ∧ t { nx := fun _ H' => Q .non H', rt := Q } (L2.start X.N vs) H := by
  obtain ⟨a, ns, rfl, hS, hn, q⟩ := h
  have h2 : PSs X rest (fun D σ H => ∃ s, Good s ∧ rdS (none :: some (.cell 0) :: List.replicate n none) [bagC s] RTrue D σ H) := ⟨fun pins s σ H D I ⟨b, gb, z⟩ => (hrest b gb).run pins s σ H D I z⟩
  refine ⟨_, pss_cons (ps_set hN h1 hx (pe_call GB (hr.mono hkj) hg hm hk hb .nil pass0 (pa_cons (pe_var h0 hv (by decide) (by decide)) pa_nil he) (by decide) he rfl) hs hf) h2, ?_⟩
  have e0 : L2.start X.N [V.ref a] = some (.ref a) :: List.replicate (n + 1) none := by
    unfold L2.start
    rw [hl]
    rfl
  rw [e0]
  refine ⟨.ref a, rfl, a, ns, rfl, hS, by omega, fun b c cs H' nbc hb' hc' => ?_⟩
  refine ⟨⟨0, 1234567891, 0, cs⟩, ⟨Int.le_refl 0, (by decide : (0 : Int) ≤ 1234567891), (by decide : (1234567891 : Int) < 2147483647), Int.le_refl 0⟩, fun x => if x = c then some (.lst (cs.map V.int)) else none, [b], ⟨?_, ?_⟩, ⟨?_, by simp, rfl, ?_, ?_⟩, ?_, ?_, ?_, ?_⟩
  · show (none :: some (SV.cell 0) :: List.replicate n none).length = (some (V.ref a) :: List.replicate (n + 1) none).length
    simp
  · intro i sv e
    match i, e with
    | 0, e => exact nomatch e
    | 1, e =>
      obtain rfl : SV.cell 0 = sv := Option.some.inj (Option.some.inj e)
      exact ⟨.ref b, rfl, b, rfl, rfl⟩
    | i + 2, e =>
      have e' : (List.replicate n (none : Option SV))[i]? = some (some sv) := e
      rw [List.getElem?_replicate] at e'
      split at e' <;> exact nomatch e'
  · intro x o e
    have e : (if x = c then some (HO.lst (cs.map V.int)) else none) = some o := e
    by_cases hx : x = c
    · rw [if_pos hx] at e
      rw [hx, hc']
      exact e
    · rw [if_neg hx] at e
      exact nomatch e
  · intro i x cl hx hcl
    match i, hx, hcl with
    | 0, hx, hcl =>
      obtain rfl : b = x := Option.some.inj hx
      obtain rfl := Option.some.inj hcl
      refine ⟨if_neg nbc, _, hb', .cons (.int 0) (.cons (.int _) (.cons (.int 0) (.cons (.lst (if_pos rfl) (DVs.ofInts cs)) .nil)))⟩
  · intro x hx
    rw [List.mem_singleton.mp hx, hb']
    exact fun z => nomatch z
  · rintro _ _ _ _ _ _ ⟨m, e⟩
    exact nomatch e
  · rintro sv m v F2 H2 as2 ⟨m', e⟩ _ _ r
    cases e
    cases r
    exact q H2
  · rintro _ _ _ _ _ _ ⟨m, e⟩
    exact nomatch e
  · rintro _ _ _ _ _ _ ⟨m, e⟩
    exact nomatch e

/-! #### the program's defs -/
def CP (rel : List PyData → PyData → Prop) : List SV → Mu → SV → Mu → Prop := fun args μ sv μ' => ∃ ds d, args = ds.map SV.dat ∧ rel ds d ∧ sv = .dat d ∧ μ' = μ
theorem ct_p {rel : List PyData → PyData → Prop} {n : Nat} (h : ∀ ds d, rel ds d → ds.length = n) : CtOk (CP rel) n := by
  rintro _ _ _ _ ⟨ds, d, rfl, r, rfl, rfl⟩
  exact ⟨by rw [List.length_map]; exact h ds d r, Nat.le_refl _, (fun j e => nomatch e), Keeps.same⟩
def isUnder (n t : List Str) : Bool := decide (t.length ≤ n.length) && decide (n.drop (n.length - t.length) = t)
def isBeneath (n t : List Str) : Bool := decide (t.length < n.length) && isUnder n t
def relUnder (g : List Str → List Str → Bool) : List PyData → PyData → Prop := fun ds d => ∃ n t k, ds = [nameD n, nameD t] ∧ Nm n k ∧ Nm t k ∧ d = .bool (g n t)
theorem ct_under {g : List Str → List Str → Bool} : CtOk (CP (relUnder g)) 2 := ct_p (by rintro _ _ ⟨n, t, k, rfl, _⟩; rfl)
def topsD (n : List Str) : List PyData := (List.range (n.length + 1)).map fun k => nameD (n.drop k)
def CTops : List SV → Mu → SV → Mu → Prop := fun args μ sv μ' => ∃ n k, args = [.dat (nameD n)] ∧ Nm n k ∧ k ≤ 1000 ∧ sv = .cell μ.length ∧ μ' = μ ++ [.lst (topsD n)]
theorem ct_tops : CtOk CTops 1 := by
  rintro _ _ _ _ ⟨n, k, rfl, _, _, rfl, rfl⟩
  exact ⟨rfl, by rw [List.length_append]; omega, fun j e => by obtain rfl := SV.cell.inj e; exact Nat.le_refl _, keeps_snoc⟩
/-- [name[k:] for k in range(len(name) + 1)] -/
theorem topsD_get {n : List Str} {i : Nat} (h : i < n.length + 1) : (topsD n)[i]? = some (nameD (n.drop i)) := by
  unfold topsD
  rw [List.getElem?_map, List.getElem?_range h]
  rfl
theorem topsD_len (n : List Str) : (topsD n).length = n.length + 1 := by unfold topsD; simp
theorem take_snoc {α : Type} {l : List α} {i : Nat} {x : α} (h : l[i]? = some x) : l.take (i + 1) = l.take i ++ [x] := by rw [List.take_add_one, h]; rfl
theorem drop_str {n : List Str} {i : Nat} : cutD (n.map PyData.str) (some (0 + (i : Int))) none = (n.drop i).map PyData.str := by
  rw [cutD_from (by omega), List.map_drop]
  congr 1
  omega
/-! #### more labels, near -/
/-- labels: some, of letters -/
def Labs (ls : List Str) : Prop := ls ≠ [] ∧ ls.length ≤ 100 ∧ ∀ x ∈ ls, Lab x
def AMore : List SV → Prop := fun r => ∃ ls : List Str, r = [.dat (.list (ls.map PyData.str))] ∧ ls ≠ [] ∧ ls.length ≤ 50 ∧ ∀ x ∈ ls, Lab x ∧ x.length ≤ 8
def RMore : List SV → SV → Prop := fun r sv => ∃ ls : List Str, sv = .dat (.list (ls.map PyData.str)) ∧ Labs ls
theorem ct_more : CtN (BPre AMore) (BPost RMore) 2 := ct_bag (by rintro _ ⟨ls, rfl, _⟩; rfl) (by rintro _ _ j ⟨ls, rfl, _⟩ e; exact nomatch e)
def ANear : List SV → Prop := fun r => ∃ (ls n : List Str), r = [.dat (.list (ls.map PyData.str)), .dat (nameD n)] ∧ Labs ls ∧ Nm n 7
def RNear : List SV → SV → Prop := fun r sv => ∃ n : List Str, sv = .dat (nameD n) ∧ Nm n 8
theorem ct_near : CtN (BPre ANear) (BPost RNear) 3 := ct_bag (by rintro _ ⟨ls, n, rfl, _⟩; rfl) (by rintro _ _ j ⟨ls, rfl, _⟩ e; exact nomatch e)
theorem view_last (c : Cell) (m : Mu) (ds : List PyData) : Sy.view (c :: (m ++ [.lst ds])) (.cell (m.length + 1)) = some (.list ds) := by
  show (match (m ++ [Cell.lst ds])[m.length]? with | some (.lst ds) => some (PyData.list ds) | _ => none) = _
  rw [at_last]
theorem set_last (c x y : Cell) (m : Mu) : (c :: (m ++ [x])).set (m.length + 1) y = c :: (m ++ [y]) := by
  show c :: (m ++ [x]).set m.length y = _
  rw [List.set_append_right _ _ (Nat.le_refl _), Nat.sub_self]
  rfl
theorem strs_append (a b : List Str) : a.map PyData.str ++ b.map PyData.str = (a ++ b).map PyData.str := (List.map_append).symm
theorem cut_to {n : List Str} {i : Int} (h : 0 ≤ i) : cutD (n.map PyData.str) none (some i) = (n.take i.toNat).map PyData.str := by rw [cutD_to h, List.map_take]
theorem cut_from {n : List Str} {i : Int} (h : 0 ≤ i) : cutD (n.map PyData.str) (some i) none = (n.drop i.toNat).map PyData.str := by rw [cutD_from h, List.map_drop]
end
end Lw

/-! LC4: calls of the laws' helpers in short. -/
namespace Lw
open PySem PySem.Spec PyProof.Rows L2 Sy
section
variable {X : Cx} {env : En} {μ : Mu} {e : Expr} {es : List Expr} {pos p0 : Pos} {k j : Nat} {s : Bag} {m : Mu} {ls : List Str} {a b : Int}
def WordP (ls : List Str) (a b : Int) (m : Mu) : SV → Mu → Prop := fun sv m' => ∃ s' n, Good s' ∧ m' = bagC s' :: m ∧ sv = .dat (nameD n) ∧ a ≤ n.length ∧ n.length ≤ b ∧ ∀ x ∈ n, x ∈ ls
theorem b_word (F : FnN X.prog X.w X.K X.mg X.base k "_law_word" (BPre AWord) (BPost RWord)) (hr : Room j X.A) (ha : SA X (e :: es) env μ [.cell 0, .dat (.list (ls.map PyData.str)), .dat (.int a), .dat (.int b)] (bagC s :: m)) (hs : Good s) (h1 : ls ≠ []) (h2 : ls.length ≤ 1000) (h3 : 0 ≤ a ∧ a ≤ b ∧ b ≤ 100)
    (hkj : k ≤ j := by decide) (hg : Gl X "_law_word" := by rfl) (he : starEach (e :: es) X.env = (false, eval e X.env) :: starEach es X.env := by rfl) (hpl : (backTo pos (starEach es X.env)).any (·.1) = false := by rfl) :
    SEn X (.Call (.Name "_law_word" p0) (e :: es) [] pos) env μ (WordP ls a b m) := by
  refine (b_call F hr ha hs ⟨ls, a, b, rfl, h1, h2, h3⟩ hkj hg (by decide) he hpl).imp ?_
  rintro sv m' ⟨s', g, rfl, ls', lo, hi, n, e1, rfl, hn0, hn1, hnx⟩
  obtain rfl := strs_inj (PyData.list.inj (SV.dat.inj (List.cons.inj e1).1))
  obtain rfl := PyData.int.inj (SV.dat.inj (List.cons.inj (List.cons.inj e1).2).1)
  obtain rfl := PyData.int.inj (SV.dat.inj (List.cons.inj (List.cons.inj (List.cons.inj e1).2).2).1)
  exact ⟨s', n, g, rfl, rfl, hn0, hn1, hnx⟩
theorem b_labels {n : Nat} (F : FnN X.prog X.w X.K X.mg X.base k "_law_labels" (BPre ALabels) (BPost RLabels)) (hr : Room j X.A) (ha : SA X (e :: es) env μ [.cell 0, .dat (.int (n : Int))] (bagC s :: m)) (hs : Good s) (hn : n ≤ 100)
    (hkj : k ≤ j := by decide) (hg : Gl X "_law_labels" := by rfl) (he : starEach (e :: es) X.env = (false, eval e X.env) :: starEach es X.env := by rfl) (hpl : (backTo pos (starEach es X.env)).any (·.1) = false := by rfl) :
    SEn X (.Call (.Name "_law_labels" p0) (e :: es) [] pos) env μ (fun sv m' => ∃ (s' : Bag) (ls : List Str), Good s' ∧ m' = bagC s' :: m ∧ sv = .dat (.list (ls.map PyData.str)) ∧ ls.length = n ∧ ∀ x ∈ ls, Lab x ∧ x.length ≤ 8) := by
  refine (b_call F hr ha hs ⟨n, rfl, hn⟩ hkj hg (by decide) he hpl).imp ?_
  rintro sv m' ⟨s', g, rfl, n', ls, e1, rfl, hl, hls⟩
  have := Int.ofNat.inj (PyData.int.inj (SV.dat.inj (List.cons.inj e1).1))
  exact ⟨s', ls, g, rfl, rfl, by omega, hls⟩
/-- pick, with what it draws -/
def CPick : List SV → Mu → SV → Mu → Prop := fun args μ sv μ' => ∃ b m ds d, args = [.cell 0, .dat (.list ds)] ∧ μ = bagC b :: m ∧ Good b ∧ ds ≠ [] ∧ ds.length < 1073741824 ∧ ds[(takeV b (ds.length : Int)).toNat]? = some d ∧ sv = .dat d ∧ μ' = bagC (takeS b (ds.length : Int)) :: m
theorem ct_pickD : CtOk CPick 2 := by
  rintro _ _ _ _ ⟨b, m, ds, d, rfl, rfl, _, _, _, _, rfl, rfl⟩
  exact ⟨rfl, Nat.le_refl _, (fun j e => nomatch e), keeps_head⟩
end
end Lw

/-! LC5: kinds of things: what they tell, their contracts. -/
namespace Lw
open PySem PySem.Spec PyProof.Rows L2 Sy
structure Bk (mg : Str → Option Value) : Prop where
  isi : mg "isinstance" = none
  bool : mg "bool" = none
  str : mg "str" = none
  dict : mg "dict" = none
/-- a thing that is seen as the datum d, or is no datum, and of no built-in kind -/
def Like (K : PySem.W.Frag) (μ : Mu) (sv : SV) (d : PyData) : Prop := Sy.view μ sv = some d ∨ (d = .none ∧ ∀ T ∈ ["int", "bool", "str", "tuple", "list", "dict"], IsI K μ sv (.type T) false)
section
variable {K : PySem.W.Frag} {μ : Mu} {sv : SV} {d : PyData}
theorem Like.int (h : Like K μ sv d) : IsI K μ sv (.type "int") (isIntD d) := by
  rcases h with h | ⟨rfl, h⟩
  · exact isI_dat h (kit_int d)
  · exact h _ (by decide)
theorem Like.bool (h : Like K μ sv d) : IsI K μ sv (.type "bool") (isBoolD d) := by
  rcases h with h | ⟨rfl, h⟩
  · exact isI_dat h (kit_bool d)
  · exact h _ (by decide)
theorem Like.str (h : Like K μ sv d) : IsI K μ sv (.type "str") (isStrD d) := by
  rcases h with h | ⟨rfl, h⟩
  · exact isI_dat h (kit_str d)
  · exact h _ (by decide)
theorem Like.tup (h : Like K μ sv d) : IsI K μ sv (.type "tuple") (isTupD d) := by
  rcases h with h | ⟨rfl, h⟩
  · exact isI_dat h (kit_tup d)
  · exact h _ (by decide)
theorem Like.lst (h : Like K μ sv d) : IsI K μ sv (.type "list") (isLstD d) := by
  rcases h with h | ⟨rfl, h⟩
  · exact isI_dat h (kit_lst d)
  · exact h _ (by decide)
theorem Like.dct (h : Like K μ sv d) : IsI K μ sv (.type "dict") (isDctD d) := by
  rcases h with h | ⟨rfl, h⟩
  · exact isI_dat h (kit_dct d)
  · exact h _ (by decide)
theorem Like.dat (d : PyData) : Like K μ (.dat d) d := .inl rfl
/-- a datum that is no list and no None is there as itself -/
theorem Like.is (h : Like K μ sv d) (hl : isLstD d = false) (hn : d ≠ .none) : sv = .dat d := by
  rcases h with h | ⟨rfl, _⟩
  · cases sv with
    | dat d' => obtain rfl := Option.some.inj h; rfl
    | cell j =>
      have h : (match μ[j]? with | some (.lst ds) => some (PyData.list ds) | _ => none) = some d := h
      cases hc : μ[j]? with
      | none => rw [hc] at h; exact nomatch h
      | some c =>
        rw [hc] at h
        cases c with
        | lst ds =>
          obtain rfl := Option.some.inj h
          exact nomatch hl
        | mix _ => exact nomatch h
        | dk _ _ => exact nomatch h
        | dt _ _ => exact nomatch h
        | ins _ _ => exact nomatch h
        | dead => exact nomatch h
  · exact absurd rfl hn
end
abbrev letS : Str := "abcdefghijklmnopqrstuvwxyz"
def offs (z : List Nat) : List Nat := z.filter fun c => !decide (c ∈ letS.cps.toList)
def gLab : PyData → Bool
  | .str x => (decide (1 ≤ (x.length : Int)) && decide ((x.length : Int) ≤ 8)) && decide (offs x.cps.toList = [])
  | _ => false
def gInt (d : PyData) : Bool := isIntD d && !isBoolD d
def gNum (M : Int) : PyData → Bool
  | .int i => decide (0 ≤ i) && decide (i < M)
  | _ => false
def gNm : PyData → Bool
  | .tuple ds => decide ((ds.filter fun d => !gLab d) = [])
  | _ => false
def gFul (d : PyData) : Bool := gNm d && (match d with | .tuple ds => decide (0 < (ds.length : Int)) | _ => false)
def gMom : PyData → Bool
  | .int i => decide (0 - 1000000 ≤ i) && decide (i ≤ 1000000)
  | _ => false
def FitL (d : PyData) : Prop := ∀ x, d = .str x → x.length ≤ 1000 ∧ PyData.strOk x = true
def FitN (d : PyData) : Prop := ∀ ds, d = .tuple ds → ds.length ≤ 1000 ∧ ∀ e ∈ ds, FitL e ∧ e.canLay0 = true ∧ e.depth ≤ 60
def CKind (K : PySem.W.Frag) (Ft : PyData → Prop) (g : PyData → Bool) : List SV → Mu → SV → Mu → Prop := fun args μ sv μ' => ∃ s d, args = [s] ∧ Like K μ s d ∧ Ft d ∧ sv = .dat (.bool (g d)) ∧ μ' = μ
theorem ct_kind {K : PySem.W.Frag} {Ft : PyData → Prop} {g : PyData → Bool} : CtOk (CKind K Ft g) 1 := by
  rintro _ _ _ _ ⟨s, d, rfl, _, _, rfl, rfl⟩
  exact ⟨rfl, Nat.le_refl _, (fun j e => nomatch e), Keeps.same⟩
def CNum (K : PySem.W.Frag) : List SV → Mu → SV → Mu → Prop := fun args μ sv μ' => ∃ M s d, args = [.dat (.int M), s] ∧ Like K μ s d ∧ sv = .dat (.bool (gNum M d)) ∧ μ' = μ
theorem ct_num {K : PySem.W.Frag} : CtOk (CNum K) 2 := by
  rintro _ _ _ _ ⟨M, s, d, rfl, _, rfl, rfl⟩
  exact ⟨rfl, Nat.le_refl _, (fun j e => nomatch e), Keeps.same⟩
theorem eqv_nil (ds : List PyData) : PyData.eqv (.list ds) (.list []) = decide (ds = []) := by
  cases ds with
  | nil => rfl
  | cons d ds => rfl
theorem eqv_nilT (ds : List PyData) : PyData.eqv (.tuple ds) (.tuple []) = decide (ds = []) := by
  cases ds with
  | nil => rfl
  | cons d ds => rfl
theorem shaped_all {n : Nat} (hn : n + 1 ≤ 64) : ∀ {ds : List PyData}, (∀ d ∈ ds, d.canLay0 = true ∧ d.depth ≤ n) → PyData.canLayAll0 ds = true ∧ PyData.depthAll ds ≤ n
  | [], _ => ⟨rfl, Nat.zero_le _⟩
  | d :: ds, h => by
    obtain ⟨h1, h2⟩ := shaped_all hn (ds := ds) fun e he => h e (List.mem_cons_of_mem _ he)
    obtain ⟨k1, k2⟩ := h d List.mem_cons_self
    refine ⟨by simp only [PyData.canLayAll0, k1, h1, Bool.and_self], ?_⟩
    show max d.depth (PyData.depthAll ds) ≤ n
    omega
theorem shaped_lst {n : Nat} (hn : n + 1 ≤ 64) {ds : List PyData} (h : ∀ d ∈ ds, d.canLay0 = true ∧ d.depth ≤ n) : SeqAt.shaped (.list ds) = true := by
  obtain ⟨h1, h2⟩ := shaped_all hn h
  unfold SeqAt.shaped
  rw [show PyData.canLay0 (.list ds) = PyData.canLayAll0 ds from rfl, h1, show PyData.depth (.list ds) = PyData.depthAll ds + 1 from rfl, decide_eq_true (show PyData.depthAll ds + 1 ≤ 64 by omega)]
  rfl
theorem shaped_tup {n : Nat} (hn : n + 1 ≤ 64) {ds : List PyData} (h : ∀ d ∈ ds, d.canLay0 = true ∧ d.depth ≤ n) : SeqAt.shaped (.tuple ds) = true := by
  obtain ⟨h1, h2⟩ := shaped_all hn h
  unfold SeqAt.shaped
  rw [show PyData.canLay0 (.tuple ds) = PyData.canLayAll0 ds from rfl, h1, show PyData.depth (.tuple ds) = PyData.depthAll ds + 1 from rfl, decide_eq_true (show PyData.depthAll ds + 1 ≤ 64 by omega)]
  rfl
theorem sign_ok {x : Str} (h : PyData.strOk x = true) {c : Nat} (hc : c ∈ x.cps.toList) : PyData.canLay0 (.str ⟨#[c]⟩) = true ∧ PyData.depth (.str ⟨#[c]⟩) ≤ 0 := by
  refine ⟨?_, Nat.le_refl _⟩
  show PyData.strOk ⟨#[c]⟩ = true
  unfold PyData.strOk at h ⊢
  rw [Array.all_eq_true'] at h ⊢
  intro y hy
  obtain rfl : y = c := by simpa using hy
  exact h y (Array.mem_toList_iff.mp hc)
abbrev sgn (c : Nat) : PyData := .str ⟨#[c]⟩
theorem filtN_step {z : List Nat} {g : Nat → Bool} {i c : Nat} (h : z[i]? = some c) : (z.take (i + 1)).filter g = if g c = true then (z.take i).filter g ++ [c] else (z.take i).filter g := by
  rw [take_snoc h, List.filter_append]
  cases e : g c with
  | true => rw [if_pos rfl, List.filter_cons_of_pos e]; rfl
  | false => rw [if_neg (by decide), List.filter_cons_of_neg (by rw [e]; decide), List.filter_nil, List.append_nil]
theorem offs_step {z : List Nat} {i c : Nat} (h : z[i]? = some c) : (offs (z.take (i + 1))).map sgn = if (!decide (c ∈ letS.cps.toList)) = true then (offs (z.take i)).map sgn ++ [sgn c] else (offs (z.take i)).map sgn := by
  unfold offs
  rw [filtN_step h]
  split
  · rw [List.map_append]; rfl
  · rfl
theorem filt_step {ds : List PyData} {g : PyData → Bool} {i : Nat} {d : PyData} (h : ds[i]? = some d) : (ds.take (i + 1)).filter g = if g d = true then (ds.take i).filter g ++ [d] else (ds.take i).filter g := by
  rw [take_snoc h, List.filter_append]
  cases e : g d with
  | true => rw [if_pos rfl, List.filter_cons_of_pos e]; rfl
  | false => rw [if_neg (by decide), List.filter_cons_of_neg (by rw [e]; decide), List.filter_nil, List.append_nil]
end Lw

namespace Lw
open PySem PySem.Spec PyProof.Rows L2 Sy
def topS (i : Nat) : Stmt := PySem.Challenge.pw_listnames_k11_kinds_of_any_value.main.body.getD i (.Pass ⟨0, 0, 0, 0⟩)
def inClass (s : Stmt) (j : Nat) : Stmt := match s with
  | .ClassDef _ _ _ b _ _ _ _ _ _ _ => b.getD j (.Pass ⟨0, 0, 0, 0⟩)
  | _ => s
abbrev sPIsInteger : Stmt := topS 6
abbrev nPIsInteger : List Str := ["thing"]
abbrev pPIsInteger : List Str := ["thing"]
theorem scPIsInteger : FnScope nPIsInteger pPIsInteger (defScope sPIsInteger) := ⟨rfl, rfl, rfl, by decide +kernel, rfl, by decide +kernel, by decide +kernel⟩
abbrev sPIsNumber : Stmt := topS 7
abbrev nPIsNumber : List Str := ["many", "thing"]
abbrev pPIsNumber : List Str := ["many", "thing"]
theorem scPIsNumber : FnScope nPIsNumber pPIsNumber (defScope sPIsNumber) := ⟨rfl, rfl, rfl, by decide +kernel, rfl, by decide +kernel, by decide +kernel⟩
abbrev sPIsLabel : Stmt := topS 8
abbrev nPIsLabel : List Str := ["thing", "letter"]
abbrev pPIsLabel : List Str := ["thing"]
theorem scPIsLabel : FnScope nPIsLabel pPIsLabel (defScope sPIsLabel) := ⟨rfl, rfl, rfl, by decide +kernel, rfl, by decide +kernel, by decide +kernel⟩
abbrev sPIsName : Stmt := topS 9
abbrev nPIsName : List Str := ["thing", "label"]
abbrev pPIsName : List Str := ["thing"]
theorem scPIsName : FnScope nPIsName pPIsName (defScope sPIsName) := ⟨rfl, rfl, rfl, by decide +kernel, rfl, by decide +kernel, by decide +kernel⟩
abbrev sPIsFull : Stmt := topS 10
abbrev nPIsFull : List Str := ["thing"]
abbrev pPIsFull : List Str := ["thing"]
theorem scPIsFull : FnScope nPIsFull pPIsFull (defScope sPIsFull) := ⟨rfl, rfl, rfl, by decide +kernel, rfl, by decide +kernel, by decide +kernel⟩
abbrev sPIsValue : Stmt := topS 11
abbrev nPIsValue : List Str := ["thing"]
abbrev pPIsValue : List Str := ["thing"]
theorem scPIsValue : FnScope nPIsValue pPIsValue (defScope sPIsValue) := ⟨rfl, rfl, rfl, by decide +kernel, rfl, by decide +kernel, by decide +kernel⟩
abbrev sPIsMoment : Stmt := topS 12
abbrev nPIsMoment : List Str := ["thing"]
abbrev pPIsMoment : List Str := ["thing"]
theorem scPIsMoment : FnScope nPIsMoment pPIsMoment (defScope sPIsMoment) := ⟨rfl, rfl, rfl, by decide +kernel, rfl, by decide +kernel, by decide +kernel⟩
abbrev sPAreValues : Stmt := topS 20
abbrev nPAreValues : List Str := ["thing", "name"]
abbrev pPAreValues : List Str := ["thing"]
theorem scPAreValues : FnScope nPAreValues pPAreValues (defScope sPAreValues) := ⟨rfl, rfl, rfl, by decide +kernel, rfl, by decide +kernel, by decide +kernel⟩
abbrev sZone_init : Stmt := inClass (topS 21) 0
abbrev nZone_init : List Str := ["self", "values", "name"]
abbrev pZone_init : List Str := ["self", "values"]
theorem scZone_init : FnScope nZone_init pZone_init (defScope sZone_init) := ⟨rfl, rfl, rfl, by decide +kernel, rfl, by decide +kernel, by decide +kernel⟩
abbrev sBag : Stmt := topS 23
abbrev nBag : List Str := ["_law_script", "_law_cell"]
abbrev pBag : List Str := ["_law_script"]
theorem scBag : FnScope nBag pBag (defScope sBag) := ⟨rfl, rfl, rfl, by decide +kernel, rfl, by decide +kernel, by decide +kernel⟩
abbrev sTake : Stmt := topS 24
abbrev nTake : List Str := ["_law_bag_here", "_law_many", "_law_cell", "_law_more", "_law_drawn"]
abbrev pTake : List Str := ["_law_bag_here", "_law_many"]
theorem scTake : FnScope nTake pTake (defScope sTake) := ⟨rfl, rfl, rfl, by decide +kernel, rfl, by decide +kernel, by decide +kernel⟩
abbrev sAlike : Stmt := topS 25
abbrev nAlike : List Str := ["_law_found", "_law_right"]
abbrev pAlike : List Str := ["_law_found", "_law_right"]
theorem scAlike : FnScope nAlike pAlike (defScope sAlike) := ⟨rfl, rfl, rfl, by decide +kernel, rfl, by decide +kernel, by decide +kernel⟩
abbrev sLText : Stmt := topS 26
abbrev nLText : List Str := ["_law_bag_here", "_law_signs", "_law_many", "_law_pool", "_law_k"]
abbrev pLText : List Str := ["_law_bag_here"]
theorem scLText : FnScope nLText pLText (defScope sLText) := ⟨rfl, rfl, rfl, by decide +kernel, rfl, by decide +kernel, by decide +kernel⟩
abbrev sLThing : Stmt := topS 27
abbrev nLThing : List Str := ["_law_bag_here", "_law_edges", "_law_words", "_law_k", "_law_some"]
abbrev pLThing : List Str := ["_law_bag_here"]
theorem scLThing : FnScope nLThing pLThing (defScope sLThing) := ⟨rfl, rfl, rfl, by decide +kernel, rfl, by decide +kernel, by decide +kernel⟩
abbrev sLIsLabel : Stmt := topS 28
abbrev nLIsLabel : List Str := ["_law_thing_here", "_law_sign"]
abbrev pLIsLabel : List Str := ["_law_thing_here"]
theorem scLIsLabel : FnScope nLIsLabel pLIsLabel (defScope sLIsLabel) := ⟨rfl, rfl, rfl, by decide +kernel, rfl, by decide +kernel, by decide +kernel⟩
abbrev sLDue : Stmt := topS 29
abbrev nLDue : List Str := ["_law_many", "_law_thing_here", "_law_whole", "_law_name", "_law_one", "_law_found"]
abbrev pLDue : List Str := ["_law_many", "_law_thing_here"]
theorem scLDue : FnScope nLDue pLDue (defScope sLDue) := ⟨rfl, rfl, rfl, by decide +kernel, rfl, by decide +kernel, by decide +kernel⟩
abbrev sLTold : Stmt := topS 30
abbrev nLTold : List Str := ["_law_many", "_law_thing_here", "_law_found"]
abbrev pLTold : List Str := ["_law_many", "_law_thing_here"]
theorem scLTold : FnScope nLTold pLTold (defScope sLTold) := ⟨rfl, rfl, rfl, by decide +kernel, rfl, by decide +kernel, by decide +kernel⟩
abbrev sLaw : Stmt := topS 31
abbrev nLaw : List Str := ["_law_script", "_law_bag_here", "_law_turn", "_law_thing_here", "_law_many", "_law_shown", "_law_due_here", "_law_again"]
abbrev pLaw : List Str := ["_law_script"]
theorem scLaw : FnScope nLaw pLaw (defScope sLaw) := ⟨rfl, rfl, rfl, by decide +kernel, rfl, by decide +kernel, by decide +kernel⟩
end Lw

namespace Lw
open PySem PySem.Spec PyProof.Rows L2 Sy
section
variable {w : World} {P : Program} {base : Heap} {mg : Str → Option Value} {K : PySem.W.Frag}
set_option maxHeartbeats 4000000 in
theorem ok_take {f : Addr} {fd : FuncData} {k : Nat} (F : Fun K "_law_take" "_law_take" sTake f fd) (B : Bi mg) : FnOk P w K mg base CX0 (k + 1) f fd ["_law_bag_here", "_law_many"] (spC CTake) := by
  refine okC F scTake ct_take fun cdv A outer s H E hr args μ sv μ' hC => ?_
  obtain ⟨b, n, m, rfl, rfl, gb, hn, hn2, rfl, rfl⟩ := hC
  have last : ∀ (x2 x3 : Option SV) (z : Bag), z = fill b → SSs (bodyX P w K mg base nTake "_law_take" sTake f cdv A outer s H E) ((defBody sTake).drop 1) [some (.cell 0), some (.dat (.int n)), x2, x3, none] (bagC z :: m)
      (RetTo (.dat (.int (takeV b n))) (bagC (takeS b n) :: m)) := by
    intro x2 x3 z hz
    refine sss_if (t_gt (e_ix (se_var 0) se_int) se_int) (fun h => ?_) (fun h => ?_)
    · have hz0 : 0 < z.a := of_decide_eq_true h
      refine sss_set 4 scTake.nd (e_mod (e_int B (a1 (e_ix (se_var 0) se_int))) (se_var 1)) ?_
      refine sss_setIx 0 (e_fdiv (e_ix (se_var 0) se_int) (se_var 1)) (se_var 0) se_int rfl (by show 0 < 4; decide) ?_
      refine sss_ret (se_var 4) ?_
      have e1 : takeV b n = z.a % n := by unfold takeV; rw [← hz, if_pos hz0]
      have e2 : bagC (takeS b n) = .lst ((bagD z).set 0 (.int (z.a / n))) := by unfold takeS; rw [← hz, if_pos hz0]; rfl
      rw [e1, e2]
      exact Ret.same
    · have hz0 : ¬ 0 < z.a := of_decide_eq_false h
      refine sss_nil ?_
      refine sss_setIx 1 (e_mod (e_int B (a1 (e_add (e_mul (e_ix (se_var 0) se_int) se_int) se_int))) se_int) (se_var 0) se_int rfl (by show 1 < 4; decide) ?_
      refine sss_ret (e_mod (e_int B (a1 (e_fdiv (e_ix (se_var 0) se_int) se_int))) (se_var 1)) ?_
      have e1 : takeV b n = (z.seed * 48271 + 11) % 2147483647 / 64 % n := by unfold takeV; rw [← hz, if_neg hz0]
      have e2 : bagC (takeS b n) = .lst ((bagD z).set 1 (.int ((z.seed * 48271 + 11) % 2147483647))) := by unfold takeS; rw [← hz, if_neg hz0]; rfl
      rw [e1, e2]
      exact Ret.same
  refine sss_if (t_eqI hr (e_ix (se_var 0) se_int) se_int) (fun h => ?_) (fun h => ?_)
  · have h0 : b.a = 0 := eq_of_beq h
    have fin : ∀ c : Int, c = cellOf b → SSs (bodyX P w K mg base nTake "_law_take" sTake f cdv A outer s H E) (((match (defBody sTake).head? with | some (.If _ t _ _) => t | _ => [])).drop 2) [some (.cell 0), some (.dat (.int n)), some (.dat (.int c)), none, none] (bagC b :: m)
        (Thn (bodyX P w K mg base nTake "_law_take" sTake f cdv A outer s H E) ((defBody sTake).drop 1) (RetTo (.dat (.int (takeV b n))) (bagC (takeS b n) :: m))) := by
      intro c hc
      refine sss_augIx 2 (se_var 0) se_int rfl rfl se_int ?_
      refine sss_if (t_ge (se_var 2) se_int) (fun h => ?_) (fun h => ?_)
      · have h1 : 1000000000000000000 ≤ c := of_decide_eq_true h
        refine sss_setIx 0 (se_var 2) (se_var 0) se_int rfl (by show 0 < 4; decide) ?_
        refine sss_nil ?_
        refine sss_set 3 scTake.nd (e_add (e_mod (e_int B (a1 (se_var 2))) se_int) (e_mul se_int (e_ix (se_var 0) se_int))) ?_
        refine sss_setIx 1 (e_mod (e_int B (a1 (e_add (e_mul (e_ix (se_var 0) se_int) se_int) (se_var 3)))) se_int) (se_var 0) se_int rfl (by show 1 < 4; decide) ?_
        refine sss_nil ?_
        refine last _ _ ⟨c, (b.seed * 48271 + (c % 2147483647 + 7919 * (b.i + 1))) % 2147483647, b.i + 1, b.cells⟩ ?_
        unfold fill
        rw [if_pos h0, ← hc, if_pos h1]
      · have h1 : ¬ 1000000000000000000 ≤ c := of_decide_eq_false h
        refine sss_nil ?_
        refine sss_set 3 scTake.nd (e_add (e_mod (e_int B (a1 (se_var 2))) se_int) (e_mul se_int (e_ix (se_var 0) se_int))) ?_
        refine sss_setIx 1 (e_mod (e_int B (a1 (e_add (e_mul (e_ix (se_var 0) se_int) se_int) (se_var 3)))) se_int) (se_var 0) se_int rfl (by show 1 < 4; decide) ?_
        refine sss_nil ?_
        refine last _ _ ⟨b.a, (b.seed * 48271 + (c % 2147483647 + 7919 * (b.i + 1))) % 2147483647, b.i + 1, b.cells⟩ ?_
        unfold fill
        rw [if_pos h0, ← hc, if_neg h1, h0]
    refine sss_set 2 scTake.nd se_int ?_
    refine sss_if (t_lt (e_ix (se_var 0) se_int) (e_len B (a1 (e_ix (se_var 0) se_int)))) (fun h => ?_) (fun h => ?_)
    · have h1 : b.i < ((b.cells.map PyData.int).length : Int) := of_decide_eq_true h
      rw [List.length_map] at h1
      have i0 := gb.i0
      refine sss_set 2 scTake.nd (e_ix (e_ix (se_var 0) se_int) (e_ix (se_var 0) se_int) (hf := ixD_ints (ns := b.cells) (i := b.i) i0 h1)) ?_
      refine sss_nil ?_
      exact fin _ (by unfold cellOf; rw [if_pos h1])
    · have h1 : ¬ b.i < ((b.cells.map PyData.int).length : Int) := of_decide_eq_false h
      rw [List.length_map] at h1
      refine sss_nil ?_
      exact fin 0 (by unfold cellOf; rw [if_neg h1])
  · have h0 : ¬ b.a = 0 := fun z => by rw [z] at h; exact nomatch h
    refine sss_nil ?_
    exact last none none b (by unfold fill; rw [if_neg h0])
theorem ok_alike {f : Addr} {fd : FuncData} {k : Nat} (F : Fun K "_law_alike" "_law_alike" sAlike f fd) (B : Bi mg) : Gd.FnG P w K mg base CX0 (k + 1) f fd pAlike (spC CAlike) := by
  refine okCG F scAlike ct_alike fun cdv A outer s H E gA hr args μ sv μ' hC => ?_
  obtain ⟨s1, s2, d, h, n, rfl, v1, v2, o, hh, hn, rfl, rfl⟩ := hC
  refine sss_ret (se_and (e_eq hr (se_var 0) (se_var 1) (v1 := v1) (v2 := v2) (hk := ⟨o.shaped hh, o.shaped hh⟩)) (fun _ => se_and1 (e_eqS (e_repr B gA hr (a1 (se_var 0)) (v1 := v1) (hk := o.repr hn hh)) (e_repr B gA hr (a1 (se_var 1)) (v1 := v2) (hk := o.repr hn hh)) ))) ?_
  exact ret_same (by rw [SeqAt.eqv_refl d o.lay, decide_eq_true rfl]; rfl) rfl
theorem ok_bag {f : Addr} {fd : FuncData} {k : Nat} (F : Fun K "_law_bag" "_law_bag" sBag f fd) (B : Bi mg) : FnOk P w K mg base CX0 (k + 1) f fd ["_law_script"] (spBag K) := by
  refine F.ok scBag (fun vs H Q E h => ?_) (fun cdv A outer s H vs Q E hr h => ?_)
  · obtain ⟨a, ns, rfl, _⟩ := h
    rfl
  · obtain ⟨a, ns, rfl, hS, hl, q⟩ := h
    refine ⟨_, pss_one (ps_ret (pe_lst (pa_cons pe_int (pa_cons pe_int (pa_cons pe_int (pa_cons (pe_lc (own := [("_law_cell", 1)]) (g := gName 1) (tt := tYes) rfl scBag.nd (pi_list (pe_slice sl_list (pv 0) po_none (po_some pe_int)))
      (blkOk_by (N := nBag) (sc := defScope sBag) (by decide +kernel)) (fun _ _ _ _ _ => pg_name (i := 1) scBag.nd rfl (Or.inl rfl)) (fun _ _ _ _ _ => pts_nil) (fun _ _ _ _ _ => pe_callB call_abs (by rfl) B.abs (by decide +kernel) (pa_cons (pv 1) pa_nil))) pa_nil)))))), ?_⟩
    refine ⟨.ref a, rfl, 63, rfl, a, ns.map V.int, rfl, hS, fun c nc => ?_⟩
    have cl : (cutV (ns.map V.int) none (some 63)).length ≤ 1000 := Nat.le_trans (cutV_length _ _ _) (by rw [List.length_map]; exact hl)
    have ci : ∀ v ∈ cutV (ns.map V.int) none (some 63), ∃ i, v = V.int i := fun v hv => by
      unfold cutV at hv
      obtain ⟨i, _, rfl⟩ := List.mem_map.mp (List.mem_of_mem_drop (List.mem_of_mem_take hv))
      exact ⟨i, rfl⟩
    refine ⟨c, rfl, ⟨_, .inl (.inl upd_same)⟩, fun D nD => ?_⟩
    have hDc : c ≠ D := fun z => by
      rw [z, upd_same] at nD
      cases nD
    refine lc_list (K := K) (a := c) (xs := cutV (ns.map V.int) none (some 63)) (fun i H2 => H2 c = some (.lst (cutV (ns.map V.int) none (some 63))) ∧ ∃ cs : List Int, H2 D = some (.lst (cs.map V.int)) ∧ cs.length ≤ i) ⟨by rw [upd_ne hDc, upd_same], [], upd_same, Nat.le_refl _⟩ (fun i H2 _ h => .inl (.inl h.1)) ?_ ?_
    · rintro i v H2 hv ⟨h1, cs, h2, h3⟩
      obtain ⟨z, rfl⟩ := ci v (List.mem_of_getElem? hv)
      have hi := (List.getElem?_eq_some_iff.mp hv).1
      refine ⟨rfl, .int z, rfl, z, rfl, cs.map V.int, h2, by rw [List.length_map, sizeLine_eq]; omega, by rw [upd_ne hDc]; exact h1, cs ++ [_], by rw [upd_same, List.map_append]; rfl, by rw [List.length_append]; show cs.length + 1 ≤ i + 1; omega⟩
    · rintro H2 ⟨h1, cs, h2, h3⟩
      refine ⟨by show 4 ≤ sizeLine; decide, fun b nb => q b D cs _ (ne_of_none h2 nb).symm upd_same (by rw [upd_ne (ne_of_none h2 nb)]; exact h2)⟩
theorem ok_integer {f : Addr} {fd : FuncData} {k : Nat} {Ft : PyData → Prop} (F : Fun K "is_integer" "is_integer" sPIsInteger f fd) (B : Bi mg) (Q : Bk mg) : FnOk P w K mg base CX0 (k + 1) f fd ["thing"] (spC (CKind K Ft gInt)) := by
  refine okC F scPIsInteger ct_kind fun cdv A outer s H E hr args μ sv μ' hC => ?_
  obtain ⟨s1, d, rfl, lk, _, rfl, rfl⟩ := hC
  exact sss_ret (se_and (e_isi Q.isi B.int (by decide +kernel) (se_var 0) lk.int) (fun _ => se_and1 (se_notB (e_isi Q.isi Q.bool (by decide +kernel) (se_var 0) lk.bool)))) Ret.same
theorem ok_number {f : Addr} {fd : FuncData} {k j : Nat} {Ft : PyData → Prop} (F : Fun K "is_number" "is_number" sPIsNumber f fd) (FI : FnS P w K mg base j "is_integer" (CKind K (fun _ => True) gInt)) (hj : j ≤ k) : FnOk P w K mg base CX0 (k + 1) f fd ["many", "thing"] (spC (CNum K)) := by
  refine okC F scPIsNumber ct_num fun cdv A outer s H E hr args μ sv μ' hC => ?_
  obtain ⟨M, s1, d, rfl, lk, rfl, rfl⟩ := hC
  cases hg : gInt d with
  | false =>
    refine sss_ret (se_and (q2 := false) (se_call FI hr (a1 (se_var 1)) ⟨s1, d, rfl, lk, trivial, rfl, rfl⟩ (hkj := hj)) (fun h => by rw [hg] at h; exact nomatch h)) ?_
    refine ret_same ?_ rfl
    cases d with
    | int i => exact nomatch hg
    | _ => rw [hg]; rfl
  | true =>
    obtain ⟨i, rfl⟩ : ∃ i, d = .int i := by
      cases d with
      | int i => exact ⟨i, rfl⟩
      | _ => exact nomatch hg
    obtain rfl := lk.is rfl (fun z => nomatch z)
    refine sss_ret (se_and (se_call FI hr (a1 (se_var 1)) ⟨_, .int i, rfl, lk, trivial, rfl, rfl⟩ (hkj := hj)) (fun h => se_and1 (e_chLt se_int (se_var 1) (se_var 0)))) ?_
    exact Ret.same
theorem ok_label {f : Addr} {fd : FuncData} {k : Nat} {t1 t2 : Tok} (F : Fun K "is_label" "is_label" sPIsLabel f fd) (B : Bi mg) (Q : Bk mg) (hL : mg "LETTERS" = some (.str letS t1)) (hM : mg "MOST_LETTERS" = some (.int 8 t2)) : FnOk P w K mg base CX0 (k + 1) f fd ["thing"] (spC (CKind K FitL gLab)) := by
  refine okC F scPIsLabel ct_kind fun cdv A outer s H E hr args μ sv μ' hC => ?_
  obtain ⟨s1, d, rfl, lk, ft, rfl, rfl⟩ := hC
  cases hs : isStrD d with
  | false =>
    refine sss_if (SW.st (sw_or (q2 := false) (st_not (st_val (e_isi Q.isi Q.str (by decide +kernel) (se_var 0) lk.str))) (fun h => by rw [hs] at h; exact nomatch h))) (fun _ => ?_) (fun h => by rw [hs] at h; exact nomatch h)
    refine sss_ret se_bool ?_
    refine ret_same ?_ rfl
    cases d with
    | str x => exact nomatch hs
    | _ => rfl
  | true =>
    obtain ⟨x, rfl⟩ : ∃ x, d = .str x := by
      cases d with
      | str x => exact ⟨x, rfl⟩
      | _ => exact nomatch hs
    obtain rfl := lk.is rfl (fun z => nomatch z)
    obtain ⟨hx1, hx2⟩ := ft x rfl
    refine sss_if (SW.st (sw_or (st_not (st_val (e_isi Q.isi Q.str (by decide +kernel) (se_var 0) lk.str))) (fun h => sw_or1 (st_not (t_chLe se_int (e_len B (a1 (se_var 0)) (hk := by show x.length ≤ sizeLine; rw [sizeLine_eq]; omega)) (se_gint hM)))))) (fun h => ?_) (fun h => sss_nil ?_)
    · refine sss_ret se_bool ?_
      refine ret_same ?_ rfl
      have h : (!(decide (1 ≤ (x.length : Int)) && decide ((x.length : Int) ≤ 8))) = true := h
      show SV.dat (.bool false) = SV.dat (.bool ((decide (1 ≤ (x.length : Int)) && decide ((x.length : Int) ≤ 8)) && decide (offs x.cps.toList = [])))
      cases q : (decide (1 ≤ (x.length : Int)) && decide ((x.length : Int) ≤ 8)) with
      | true => rw [q] at h; exact nomatch h
      | false => rfl
    · have h : (!(decide (1 ≤ (x.length : Int)) && decide ((x.length : Int) ≤ 8))) = false := h
      have h1 : (decide (1 ≤ (x.length : Int)) && decide ((x.length : Int) ≤ 8)) = true := by
        cases q : (decide (1 ≤ (x.length : Int)) && decide ((x.length : Int) ≤ 8)) with
        | true => rfl
        | false => rw [q] at h; exact nomatch h
      have hz : (signsD x).length = x.length := by unfold signsD; rw [List.length_map]; simp [Str.length]
      refine sss_ret (e_eq hr (se_lc 1 (fun i acc m => m = μ' ∧ acc = (offs (x.cps.toList.take i)).map sgn) rfl scPIsLabel.nd (si_str (se_var 0)) (blkOk_by (N := nPIsLabel) (sc := defScope sPIsLabel) (by decide +kernel)) (by rw [hz, sizeLine_eq]; omega) ⟨rfl, rfl⟩ (fun _ _ _ _ => trivial) ?_ (out := (offs x.cps.toList).map sgn) (μ2 := μ') ?_ Fi.dat) (e_l sa_nil) (hk := ⟨?_, rfl⟩)) ?_
      · rintro i d acc m hd ⟨rfl, rfl⟩
        unfold signsD at hd
        rw [List.getElem?_map] at hd
        cases hc : x.cps.toList[i]? with
        | none => rw [hc] at hd; exact nomatch hd
        | some c =>
          rw [hc] at hd
          obtain rfl := Option.some.inj hd
          refine ⟨!decide (c ∈ letS.cps.toList), _, fun s H C cl fp => sts_one (t_notInS (se_var 1) (se_gstr hL)), fun z => ⟨_, _, ⟨rfl, ?_⟩, fun s H C cl fp => se_var 1⟩, fun z => ⟨rfl, ?_⟩⟩
          · rw [offs_step hc, if_pos z]
          · rw [offs_step hc, if_neg (by rw [z]; decide)]
      · rintro acc m ⟨rfl, rfl⟩
        refine ⟨?_, rfl⟩
        rw [List.take_of_length_le (by rw [hz]; simp [Str.length])]
      · refine shaped_lst (n := 0) (by decide) fun d hd => ?_
        obtain ⟨c, hc, rfl⟩ := List.mem_map.mp hd
        exact sign_ok hx2 ((List.mem_filter.mp hc).1)
      · refine ret_same ?_ rfl
        show SV.dat (.bool _) = SV.dat (.bool ((decide (1 ≤ (x.length : Int)) && decide ((x.length : Int) ≤ 8)) && decide (offs x.cps.toList = [])))
        rw [h1, Bool.true_and, eqv_nil]
        congr 2
        exact decide_eq_decide.mpr List.map_eq_nil_iff
theorem ok_name {f : Addr} {fd : FuncData} {k j : Nat} (F : Fun K "is_name" "is_name" sPIsName f fd) (B : Bi mg) (Q : Bk mg) (FL : FnS P w K mg base j "is_label" (CKind K FitL gLab)) (hj : j ≤ k) : FnOk P w K mg base CX0 (k + 1) f fd ["thing"] (spC (CKind K FitN gNm)) := by
  refine okC F scPIsName ct_kind fun cdv A outer s H E hr args μ sv μ' hC => ?_
  obtain ⟨s1, d, rfl, lk, ft, rfl, rfl⟩ := hC
  cases hs : isTupD d with
  | false =>
    refine sss_ret (se_and (q2 := false) (e_isi Q.isi B.tuple (by decide +kernel) (se_var 0) lk.tup) (fun h => by rw [hs] at h; exact nomatch h)) ?_
    refine ret_same ?_ rfl
    rw [hs]
    cases d with
    | tuple x => exact nomatch hs
    | _ => rfl
  | true =>
    obtain ⟨ds, rfl⟩ : ∃ x, d = .tuple x := by
      cases d with
      | tuple x => exact ⟨x, rfl⟩
      | _ => exact nomatch hs
    obtain rfl := lk.is rfl (fun z => nomatch z)
    obtain ⟨hl, hi⟩ := ft ds rfl
    refine sss_ret (se_and (e_isi Q.isi B.tuple (by decide +kernel) (se_var 0) lk.tup) (fun _ => se_and1 (e_eq hr (se_lc 1 (fun i acc m => m = μ' ∧ acc = (ds.take i).filter fun d => !gLab d) rfl scPIsName.nd (si_tup (se_var 0)) (blkOk_by (N := nPIsName) (sc := defScope sPIsName) (by decide +kernel)) (by rw [sizeLine_eq]; omega) ⟨rfl, rfl⟩ (fun _ _ _ _ => trivial) ?_ (out := ds.filter fun d => !gLab d) (μ2 := μ') ?_ Fi.dat) (e_l sa_nil) (hk := ⟨?_, rfl⟩)))) ?_
    · rintro i d acc m hd ⟨rfl, rfl⟩
      refine ⟨!gLab d, _, fun s H C cl fp => sts_one (st_not (st_val (se_call FL hr (a1 (se_var 1)) ⟨_, d, rfl, Like.dat d, (hi d (List.mem_of_getElem? hd)).1, rfl, rfl⟩ (hkj := hj)))), fun z => ⟨_, _, ⟨rfl, ?_⟩, fun s H C cl fp => se_var 1⟩, fun z => ⟨rfl, ?_⟩⟩
      · rw [filt_step hd, if_pos z]
      · rw [filt_step hd, if_neg (by rw [z]; decide)]
    · rintro acc m ⟨rfl, rfl⟩
      exact ⟨by rw [List.take_length], rfl⟩
    · exact shaped_lst (n := 60) (by decide) fun d hd => (hi d ((List.mem_filter.mp hd).1)).2
    · refine ret_same ?_ rfl
      rw [eqv_nil]
      rfl
theorem ok_full {f : Addr} {fd : FuncData} {k j : Nat} (F : Fun K "is_full" "is_full" sPIsFull f fd) (B : Bi mg) (FN : FnS P w K mg base j "is_name" (CKind K FitN gNm)) (hj : j ≤ k) : FnOk P w K mg base CX0 (k + 1) f fd ["thing"] (spC (CKind K FitN gFul)) := by
  refine okC F scPIsFull ct_kind fun cdv A outer s H E hr args μ sv μ' hC => ?_
  obtain ⟨s1, d, rfl, lk, ft, rfl, rfl⟩ := hC
  cases hs : gNm d with
  | false =>
    refine sss_ret (se_and (q2 := false) (se_call FN hr (a1 (se_var 0)) ⟨_, d, rfl, lk, ft, rfl, rfl⟩ (hkj := hj)) (fun h => by rw [hs] at h; exact nomatch h)) ?_
    refine ret_same ?_ rfl
    unfold gFul
    rw [hs]
    rfl
  | true =>
    obtain ⟨ds, rfl⟩ : ∃ x, d = .tuple x := by
      cases d with
      | tuple x => exact ⟨x, rfl⟩
      | _ => exact nomatch hs
    obtain rfl := lk.is rfl (fun z => nomatch z)
    exact sss_ret (se_and (se_call FN hr (a1 (se_var 0)) ⟨_, _, rfl, lk, ft, rfl, rfl⟩ (hkj := hj)) (fun _ => se_and1 (e_gt (e_len B (a1 (se_var 0))) se_int))) Ret.same
theorem ok_value {f : Addr} {fd : FuncData} {k j : Nat} {t : Tok} (F : Fun K "is_value" "is_value" sPIsValue f fd) (hM : mg "MOST_VALUE" = some (.int 999 t)) (FN : FnS P w K mg base j "is_number" (CNum K)) (hj : j ≤ k) : FnOk P w K mg base CX0 (k + 1) f fd ["thing"] (spC (CKind K (fun _ => True) (gNum 1000))) := by
  refine okC F scPIsValue ct_kind fun cdv A outer s H E hr args μ sv μ' hC => ?_
  obtain ⟨s1, d, rfl, lk, _, rfl, rfl⟩ := hC
  exact sss_ret (se_call FN hr (a2 (e_add (se_gint hM) se_int) (se_var 0)) ⟨_, _, d, rfl, lk, rfl, rfl⟩ (hkj := hj)) Ret.same
end
end Lw

namespace Lw
open PySem PySem.Spec PyProof.Rows L2 Sy
theorem set_self {α : Type} {l : List α} {j : Nat} {x : α} (h : l[j]? = some x) : l.set j x = l := by
  apply List.ext_getElem?
  intro i
  rw [List.getElem?_set]
  by_cases e : j = i
  · subst e
    rw [if_pos rfl, if_pos (List.getElem?_eq_some_iff.mp h).1, h]
  · rw [if_neg e]
def CVal0 : List SV → Mu → SV → Mu → Prop := fun args μ sv μ' => ∃ j, args = [.cell j] ∧ μ[j]? = some (.dk none []) ∧ sv = .dat (.bool true) ∧ μ' = μ
theorem ct_val0 : CtOk CVal0 1 := by
  rintro _ _ _ _ ⟨j, rfl, _, rfl, rfl⟩
  exact ⟨rfl, Nat.le_refl _, (fun j e => nomatch e), Keeps.same⟩
def CZ0 (C : Addr) : List SV → Mu → SV → Mu → Prop := fun args μ sv μ' => ∃ z j, args = [.cell z, .cell j] ∧ μ[z]? = some (.ins C []) ∧ μ[j]? = some (.dk none []) ∧ sv = .dat .none ∧ μ' = μ.set z (.ins C [("its_values", .cell μ.length)]) ++ [.dk none []]
theorem ct_z0 {C : Addr} : CtOk (CZ0 C) 2 := by
  rintro _ μ _ _ ⟨z, j, rfl, hz, _, rfl, rfl⟩
  refine ⟨rfl, by rw [List.length_append, List.length_set]; omega, (fun j e => nomatch e), fun i c h => ?_⟩
  by_cases hi : i < μ.length
  · rw [List.getElem?_append_left (by rw [List.length_set]; exact hi), List.getElem?_set] at h
    by_cases e : z = i
    · subst e
      rw [if_pos rfl, if_pos hi] at h
      obtain rfl := Option.some.inj h
      refine .inr fun r hr => ?_
      obtain rfl : r = μ.length := by simpa [Cell.refs, SV.refs] using hr
      refine ⟨?_, fun z => nomatch z⟩
      rw [List.length_append, List.length_set]
      show μ.length < μ.length + 1
      omega
    · rw [if_neg e] at h
      exact .inl h
  · rw [List.getElem?_append_right (by rw [List.length_set]; omega), List.length_set] at h
    have e0 : i - μ.length = 0 := by
      have := (List.getElem?_eq_some_iff.mp h).1
      simp at this
      omega
    rw [e0] at h
    obtain rfl := Option.some.inj h
    exact .inr fun r hr => nomatch hr
/-- the seven answers -/
def verd (M : Int) (d : PyData) : List PyData := [.bool (gInt d), .bool (gLab d), .bool (gNm d), .bool (gFul d), .bool (gNum 1000 d), .bool (gMom d), .bool (gNum M d)]
def CTold (K : PySem.W.Frag) : List SV → Mu → SV → Mu → Prop := fun args μ sv μ' => ∃ M s d, args = [.dat (.int M), s] ∧ Like K μ s d ∧ FitL d ∧ FitN d ∧ sv = .dat (.list (verd M d)) ∧ μ' = μ
theorem ct_told {K : PySem.W.Frag} : CtOk (CTold K) 2 := by
  rintro _ _ _ _ ⟨M, s, d, rfl, _, _, _, rfl, rfl⟩
  exact ⟨rfl, Nat.le_refl _, (fun j e => nomatch e), Keeps.same⟩
def relDue : List PyData → PyData → Prop := fun ds r => ∃ M d, ds = [.int M, d] ∧ FitL d ∧ FitN d ∧ r = .list (verd M d)
theorem ct_due : CtOk (CP relDue) 2 := ct_p (by rintro _ _ ⟨M, d, rfl, _⟩; rfl)
section
variable {w : World} {P : Program} {base : Heap} {mg : Str → Option Value} {K : PySem.W.Frag}
theorem ok_moment {f : Addr} {fd : FuncData} {k j : Nat} {t : Tok} (F : Fun K "is_moment" "is_moment" sPIsMoment f fd) (hF : mg "FARTHEST" = some (.int 1000000 t)) (FI : FnS P w K mg base j "is_integer" (CKind K (fun _ => True) gInt)) (hj : j ≤ k) : FnOk P w K mg base CX0 (k + 1) f fd ["thing"] (spC (CKind K (fun _ => True) gMom)) := by
  refine okC F scPIsMoment ct_kind fun cdv A outer s H E hr args μ sv μ' hC => ?_
  obtain ⟨s1, d, rfl, lk, _, rfl, rfl⟩ := hC
  cases hg : gInt d with
  | false =>
    refine sss_ret (se_and (q2 := false) (se_call FI hr (a1 (se_var 0)) ⟨s1, d, rfl, lk, trivial, rfl, rfl⟩ (hkj := hj)) (fun h => by rw [hg] at h; exact nomatch h)) ?_
    refine ret_same ?_ rfl
    cases d with
    | int i => exact nomatch hg
    | _ => rw [hg]; rfl
  | true =>
    obtain ⟨i, rfl⟩ : ∃ i, d = .int i := by
      cases d with
      | int i => exact ⟨i, rfl⟩
      | _ => exact nomatch hg
    obtain rfl := lk.is rfl (fun z => nomatch z)
    exact sss_ret (se_and (se_call FI hr (a1 (se_var 0)) ⟨_, .int i, rfl, lk, trivial, rfl, rfl⟩ (hkj := hj)) (fun h => se_and1 (e_chLe (e_sub se_int (se_gint hF)) (se_var 0) (se_gint hF)))) Ret.same
theorem ok_values0 {f : Addr} {fd : FuncData} {k : Nat} {t : Tok} (F : Fun K "are_values" "are_values" sPAreValues f fd) (B : Bi mg) (Q : Bk mg) (hN : mg "MOST_NAMES" = some (.int 30 t)) : FnOk P w K mg base CX0 (k + 1) f fd ["thing"] (spC CVal0) := by
  refine okC F scPAreValues ct_val0 fun cdv A outer s H E hr args μ sv μ' hC => ?_
  obtain ⟨j, rfl, hj, rfl, rfl⟩ := hC
  have hl : j < List.length μ' := (List.getElem?_eq_some_iff.mp hj).1
  refine sss_if (SW.st (sw_or (st_not (st_val (e_isi Q.isi Q.dict (by decide +kernel) (se_var 0) (isI_dk hj (by decide +kernel : kitB "dict" "dict" = some true))))) (fun _ => sw_or1 (t_gt (e_lenK B.len (se_var 0) hj) (se_gint hN))))) (fun h => absurd h (by decide)) (fun _ => sss_nil ?_)
  have h1 : ∀ q, (List.set μ' j (Cell.dk (some q) []))[j]? = some (Cell.dk (some q) []) := fun q => by rw [List.getElem?_set, if_pos rfl, if_pos hl]
  refine sss_ret (e_eq hr (s1 := .dat (.list [])) (μ1 := List.set μ' j (.dk none [])) (se_lockK j hj (μ1 := μ') (fun q => se_lc 1 (fun i acc m => m = List.set μ' j (.dk (some q) []) ∧ acc = []) rfl scPAreValues.nd (si_keysK (se_var 0) (h1 q)) (blkOk_by (N := nPAreValues) (sc := defScope sPAreValues) (by decide +kernel)) (Nat.zero_le _) ⟨rfl, rfl⟩ (fun _ _ _ h => by rw [h.1]; exact h1 q) (fun k d acc m hd _ => by simp at hd) (out := []) (μ2 := List.set μ' j (.dk (some q) [])) (fun _ _ h => ⟨h.2, h.1⟩) Fi.dat) hl) (e_l sa_nil) (hk := ⟨rfl, rfl⟩)) ?_
  exact ret_same rfl (set_self hj)
theorem ok_zone0 {f C : Addr} {fd : FuncData} {k j : Nat} (F : Fun K "__init__" "Zone.__init__" sZone_init f fd) (cl : Cls K C) (hn : NoAttr K C "its_values") (FV : FnS P w K mg base j "are_values" CVal0) (hj : j ≤ k) : FnOk P w K mg base CX0 (k + 1) f fd ["self", "values"] (spC (CZ0 C)) := by
  refine okC F scZone_init ct_z0 fun cdv A outer s H E hr args μ sv μ' hC => ?_
  obtain ⟨z, i, rfl, hz, hi, rfl, rfl⟩ := hC
  have hl : i < List.length μ := (List.getElem?_eq_some_iff.mp hi).1
  have hlz : z < List.length μ := (List.getElem?_eq_some_iff.mp hz).1
  refine sss_if (st_not (st_val (se_call FV hr (a1 (se_var 1)) ⟨i, rfl, hi, rfl, rfl⟩ (hkj := hj)))) (fun h => nomatch h) (fun _ => sss_nil ?_)
  have h1 : ∀ q, (List.set μ i (Cell.dk (some q) []))[i]? = some (Cell.dk (some q) []) := fun q => by rw [List.getElem?_set, if_pos rfl, if_pos hl]
  have e1 : ∀ c, (μ ++ [Cell.dk none []]).set i c = List.set μ i c ++ [Cell.dk none []] := fun c => List.set_append_left _ _ hl
  refine sss_fld cl hn (j := z) (μ1 := μ ++ [Cell.dk none []]) (μ2 := μ ++ [Cell.dk none []]) (sv := .cell (List.length μ)) (fs := []) ?_ (se_var 0) (by rw [List.getElem?_append_left hlz]; exact hz) (by decide) (sss_nil ?_)
  · have e2 : μ ++ [Cell.dk none []] = (μ ++ [Cell.dk none []]).set i (.dk none []) := by rw [e1, set_self hi]
    rw [e2]
    refine se_lockK i hi (fun q => ?_) (by rw [List.length_append]; omega)
    rw [e1, show SV.cell (List.length μ) = SV.cell (List.length (List.set μ i (Cell.dk (some q) []))) by rw [List.length_set]]
    exact se_dc 2 (fun k acc m => m = List.set μ i (.dk (some q) []) ∧ acc = []) rfl scZone_init.nd (si_keysK (se_var 1) (h1 q)) (blkOk_by (N := nZone_init) (sc := defScope sZone_init) (by decide +kernel)) (Nat.zero_le _) ⟨rfl, rfl⟩ (fun _ _ _ h => by rw [h.1]; exact h1 q) (fun k d acc m hd _ => by simp at hd) (fun _ _ h => ⟨h.2, h.1⟩)
  · show Ret _ _ _ _
    rw [List.set_append_left _ _ hlz]
    exact Ret.same
theorem ok_llabel {f : Addr} {fd : FuncData} {k : Nat} (F : Fun K "_law_is_label" "_law_is_label" sLIsLabel f fd) (B : Bi mg) (Q : Bk mg) : FnOk P w K mg base CX0 (k + 1) f fd ["_law_thing_here"] (spC (CKind K FitL gLab)) := by
  refine okC F scLIsLabel ct_kind fun cdv A outer s H E hr args μ sv μ' hC => ?_
  obtain ⟨s1, d, rfl, lk, ft, rfl, rfl⟩ := hC
  cases hs : isStrD d with
  | false =>
    refine sss_if (SW.st (sw_or (q2 := false) (st_not (st_val (e_isi Q.isi Q.str (by decide +kernel) (se_var 0) lk.str))) (fun h => by rw [hs] at h; exact nomatch h))) (fun _ => ?_) (fun h => by rw [hs] at h; exact nomatch h)
    refine sss_ret se_bool ?_
    refine ret_same ?_ rfl
    cases d with
    | str x => exact nomatch hs
    | _ => rfl
  | true =>
    obtain ⟨x, rfl⟩ : ∃ x, d = .str x := by
      cases d with
      | str x => exact ⟨x, rfl⟩
      | _ => exact nomatch hs
    obtain rfl := lk.is rfl (fun z => nomatch z)
    obtain ⟨hx1, hx2⟩ := ft x rfl
    have hx3 : x.length ≤ sizeLine := by rw [sizeLine_eq]; omega
    refine sss_if (SW.st (sw_or (st_not (st_val (e_isi Q.isi Q.str (by decide +kernel) (se_var 0) lk.str))) (fun h => sw_or (t_lt (e_len B (a1 (se_var 0)) (hk := hx3)) se_int) (fun _ => sw_or1 (t_gt (e_len B (a1 (se_var 0)) (hk := hx3)) se_int))))) (fun h => ?_) (fun h => sss_nil ?_)
    · refine sss_ret se_bool ?_
      refine ret_same ?_ rfl
      have h : (decide ((x.length : Int) < 1) || decide (8 < (x.length : Int))) = true := h
      show SV.dat (.bool false) = SV.dat (.bool ((decide (1 ≤ (x.length : Int)) && decide ((x.length : Int) ≤ 8)) && decide (offs x.cps.toList = [])))
      have q : (decide (1 ≤ (x.length : Int)) && decide ((x.length : Int) ≤ 8)) = false := by
        rw [Bool.or_eq_true, decide_eq_true_iff, decide_eq_true_iff] at h
        rcases h with h | h
        · rw [decide_eq_false (by omega), Bool.false_and]
        · rw [decide_eq_false (show ¬ (x.length : Int) ≤ 8 by omega), Bool.and_false]
      rw [q]
      rfl
    · have h : (decide ((x.length : Int) < 1) || decide (8 < (x.length : Int))) = false := h
      have h1 : (decide (1 ≤ (x.length : Int)) && decide ((x.length : Int) ≤ 8)) = true := by
        rw [Bool.or_eq_false_iff, decide_eq_false_iff_not, decide_eq_false_iff_not] at h
        rw [decide_eq_true (by omega), decide_eq_true (by omega)]
        rfl
      have hz : (signsD x).length = x.length := by unfold signsD; rw [List.length_map]; simp [Str.length]
      refine sss_ret (e_eq hr (se_lc 1 (fun i acc m => m = μ' ∧ acc = (offs (x.cps.toList.take i)).map sgn) rfl scLIsLabel.nd (si_str (se_var 0)) (blkOk_by (N := nLIsLabel) (sc := defScope sLIsLabel) (by decide +kernel)) (by rw [hz, sizeLine_eq]; omega) ⟨rfl, rfl⟩ (fun _ _ _ _ => trivial) ?_ (out := (offs x.cps.toList).map sgn) (μ2 := μ') ?_ Fi.dat) (e_l sa_nil) (hk := ⟨?_, rfl⟩)) ?_
      · rintro i d acc m hd ⟨rfl, rfl⟩
        unfold signsD at hd
        rw [List.getElem?_map] at hd
        cases hc : x.cps.toList[i]? with
        | none => rw [hc] at hd; exact nomatch hd
        | some c =>
          rw [hc] at hd
          obtain rfl := Option.some.inj hd
          refine ⟨!decide (c ∈ letS.cps.toList), _, fun s H C cl fp => sts_one (t_notInS (se_var 1) se_str), fun z => ⟨_, _, ⟨rfl, ?_⟩, fun s H C cl fp => se_var 1⟩, fun z => ⟨rfl, ?_⟩⟩
          · rw [offs_step hc, if_pos z]
          · rw [offs_step hc, if_neg (by rw [z]; decide)]
      · rintro acc m ⟨rfl, rfl⟩
        refine ⟨?_, rfl⟩
        rw [List.take_of_length_le (by rw [hz]; simp [Str.length])]
      · refine shaped_lst (n := 0) (by decide) fun d hd => ?_
        obtain ⟨c, hc, rfl⟩ := List.mem_map.mp hd
        exact sign_ok hx2 (List.mem_filter.mp hc).1
      · refine ret_same ?_ rfl
        show SV.dat (.bool _) = SV.dat (.bool ((decide (1 ≤ (x.length : Int)) && decide ((x.length : Int) ≤ 8)) && decide (offs x.cps.toList = [])))
        rw [h1, Bool.true_and, eqv_nil]
        congr 2
        exact decide_eq_decide.mpr List.map_eq_nil_iff
theorem ok_told {f : Addr} {fd : FuncData} {k j : Nat} (F : Fun K "_law_told" "_law_told" sLTold f fd) (FI : FnS P w K mg base j "is_integer" (CKind K (fun _ => True) gInt)) (FL : FnS P w K mg base j "is_label" (CKind K FitL gLab)) (FN : FnS P w K mg base j "is_name" (CKind K FitN gNm))
    (FF : FnS P w K mg base j "is_full" (CKind K FitN gFul)) (FV : FnS P w K mg base j "is_value" (CKind K (fun _ => True) (gNum 1000))) (FM : FnS P w K mg base j "is_moment" (CKind K (fun _ => True) gMom)) (FU : FnS P w K mg base j "is_number" (CNum K)) (hj : j ≤ k) : FnOk P w K mg base CX0 (k + 1) f fd ["_law_many", "_law_thing_here"] (spC (CTold K)) := by
  refine okC F scLTold ct_told fun cdv A outer s H E hr args μ sv μ' hC => ?_
  obtain ⟨M, s1, d, rfl, lk, f1, f2, rfl, rfl⟩ := hC
  refine sss_set 2 scLTold.nd (e_l (sa_cons (se_call FI hr (a1 (se_var 1)) ⟨_, d, rfl, lk, trivial, rfl, rfl⟩ (hkj := hj)) (sa_cons (se_call FL hr (a1 (se_var 1)) ⟨_, d, rfl, lk, f1, rfl, rfl⟩ (hkj := hj)) (sa_cons (se_call FN hr (a1 (se_var 1)) ⟨_, d, rfl, lk, f2, rfl, rfl⟩ (hkj := hj)) (sa_cons (se_call FF hr (a1 (se_var 1)) ⟨_, d, rfl, lk, f2, rfl, rfl⟩ (hkj := hj)) (a2 (se_call FV hr (a1 (se_var 1)) ⟨_, d, rfl, lk, trivial, rfl, rfl⟩ (hkj := hj)) (se_call FM hr (a1 (se_var 1)) ⟨_, d, rfl, lk, trivial, rfl, rfl⟩ (hkj := hj)))))))) ?_
  exact sss_ret (e_add (se_var 2) (e_l (a1 (se_call FU hr (a2 (se_var 0) (se_var 1)) ⟨M, _, d, rfl, lk, rfl, rfl⟩ (hkj := hj)))) (hk := (show 6 + 1 ≤ sizeLine by decide)) (fin := Fi.dat)) Ret.same
end
end Lw

namespace Lw
open PySem PySem.Spec PyProof.Rows L2 Sy
section
variable {w : World} {P : Program} {base : Heap} {mg : Str → Option Value} {K : PySem.W.Frag}
theorem ok_due {f : Addr} {fd : FuncData} {k j : Nat} (F : Fun K "_law_due" "_law_due" sLDue f fd) (B : Bi mg) (Q : Bk mg) (FL : FnS P w K mg base j "_law_is_label" (CKind K FitL gLab)) (hj : j ≤ k) : FnOk P w K mg base CX0 (k + 1) f fd ["_law_many", "_law_thing_here"] (spC (CP relDue)) := by
  refine okC F scLDue ct_due fun cdv A outer s H E hr args μ sv μ' hC => ?_
  obtain ⟨ds, r, rfl, ⟨M, d, rfl, f1, f2, rfl⟩, rfl, rfl⟩ := hC
  have lk : ∀ μ : Mu, Like K μ (.dat d) d := fun μ => Like.dat d
  -- whole
  refine sss_set 2 scLDue.nd (sv := .dat (.bool (gInt d))) (se_and (e_isi Q.isi B.int (by decide +kernel) (se_var 1) (lk _).int) (fun _ => se_and1 (se_notB (e_isi Q.isi Q.bool (by decide +kernel) (se_var 1) (lk _).bool)))) ?_
  -- name
  have hN : SE (bodyX P w K mg base nLDue "_law_due" sLDue f cdv A outer s H E) (match (defBody sLDue).getD 1 (.Pass ⟨0, 0, 0, 0⟩) with | .Assign _ e _ => e | _ => .Constant .none 0 ⟨0, 0, 0, 0⟩) [some (.dat (.int M)), some (.dat d), some (.dat (.bool (gInt d))), none, none, none] μ' (.dat (.bool (gNm d))) μ' := by
    cases hs : isTupD d with
    | false =>
      have e0 : gNm d = (isTupD d && false) := by
        rw [hs]
        cases d with
        | tuple x => exact nomatch hs
        | _ => rfl
      rw [e0]
      exact se_and (q2 := false) (e_isi Q.isi B.tuple (by decide +kernel) (se_var 1) (lk _).tup) (fun h => by rw [hs] at h; exact nomatch h)
    | true =>
      obtain ⟨ds, rfl⟩ : ∃ x, d = .tuple x := by
        cases d with
        | tuple x => exact ⟨x, rfl⟩
        | _ => exact nomatch hs
      obtain ⟨hl, hi⟩ := f2 ds rfl
      have e0 : gNm (.tuple ds) = (true && PyData.eqv (.list (ds.filter fun d => !gLab d)) (.list [])) := by rw [eqv_nil]; rfl
      rw [e0]
      refine se_and (e_isi Q.isi B.tuple (by decide +kernel) (se_var 1) (lk _).tup) (fun _ => se_and1 (e_eq hr (se_lc 4 (fun i acc m => m = μ' ∧ acc = (ds.take i).filter fun d => !gLab d) rfl scLDue.nd (si_tup (se_var 1)) (blkOk_by (N := nLDue) (sc := defScope sLDue) (by decide +kernel)) (by rw [sizeLine_eq]; omega) ⟨rfl, rfl⟩ (fun _ _ _ _ => trivial) ?_ (out := ds.filter fun d => !gLab d) (μ2 := μ') ?_ Fi.dat) (e_l sa_nil) (hk := ⟨?_, rfl⟩)))
      · rintro i d acc m hd ⟨rfl, rfl⟩
        refine ⟨!gLab d, _, fun s H C cl fp => sts_one (st_not (st_val (se_call FL hr (a1 (se_var 4)) ⟨_, d, rfl, Like.dat d, (hi d (List.mem_of_getElem? hd)).1, rfl, rfl⟩ (hkj := hj)))), fun z => ⟨_, _, ⟨rfl, ?_⟩, fun s H C cl fp => se_var 4⟩, fun z => ⟨rfl, ?_⟩⟩
        · rw [filt_step hd, if_pos z]
        · rw [filt_step hd, if_neg (by rw [z]; decide)]
      · rintro acc m ⟨rfl, rfl⟩
        exact ⟨by rw [List.take_length], rfl⟩
      · exact shaped_lst (n := 60) (by decide) fun d hd => (hi d (List.mem_filter.mp hd).1).2
  refine sss_set 3 scLDue.nd hN ?_
  clear hN
  -- the five
  have hI : gInt d = true → ∃ i, d = .int i := fun h => by
    cases d with
    | int i => exact ⟨i, rfl⟩
    | _ => exact nomatch h
  have hFul : ∃ q, (gNm d = true → ∃ ds, d = .tuple ds ∧ q = !PyData.eqv (.tuple ds) (.tuple [])) ∧ gFul d = (gNm d && q) := by
    cases d with
    | tuple ds =>
      refine ⟨!PyData.eqv (.tuple ds) (.tuple []), fun _ => ⟨ds, rfl, rfl⟩, ?_⟩
      unfold gFul
      congr 1
      rw [eqv_nilT]
      cases ds with
      | nil => rfl
      | cons x ds =>
        show decide ((0 : Int) < ((ds.length + 1 : Nat) : Int)) = !decide (x :: ds = [])
        rw [decide_eq_true (by omega), decide_eq_false (by simp)]
        rfl
    | _ => exact ⟨false, fun h => (nomatch h), rfl⟩
  obtain ⟨qF, hF1, hF2⟩ := hFul
  have hVal : ∃ q, (gInt d = true → ∃ i, d = .int i ∧ q = (decide (0 ≤ i) && decide (i ≤ 999))) ∧ gNum 1000 d = (gInt d && q) := by
    cases d with
    | int i =>
      refine ⟨_, fun _ => ⟨i, rfl, rfl⟩, ?_⟩
      show (decide (0 ≤ i) && decide (i < 1000)) = (true && (decide (0 ≤ i) && decide (i ≤ 999)))
      rw [Bool.true_and]
      congr 1
      exact decide_eq_decide.mpr (by omega)
    | bool b => exact ⟨false, fun h => (nomatch h), rfl⟩
    | _ => exact ⟨false, fun h => (nomatch h), rfl⟩
  obtain ⟨qV, hV1, hV2⟩ := hVal
  have hMo : ∃ q, (gInt d = true → ∃ i, d = .int i ∧ q = (decide (-1000000 ≤ i) && decide (i ≤ 1000000))) ∧ gMom d = (gInt d && q) := by
    cases d with
    | int i =>
      refine ⟨_, fun _ => ⟨i, rfl, rfl⟩, ?_⟩
      show (decide (0 - 1000000 ≤ i) && decide (i ≤ 1000000)) = (true && (decide (-1000000 ≤ i) && decide (i ≤ 1000000)))
      rw [Bool.true_and]
      congr 1
    | bool b => exact ⟨false, fun h => (nomatch h), rfl⟩
    | _ => exact ⟨false, fun h => (nomatch h), rfl⟩
  obtain ⟨qM, hM1, hM2⟩ := hMo
  have hNu : ∃ q, (gInt d = true → ∃ i, d = .int i ∧ q = (decide (0 ≤ i) && decide (i < M))) ∧ gNum M d = (gInt d && q) := by
    cases d with
    | int i => exact ⟨_, fun _ => ⟨i, rfl, rfl⟩, by show _ = (true && _); rw [Bool.true_and]; rfl⟩
    | bool b => exact ⟨false, fun h => (nomatch h), rfl⟩
    | _ => exact ⟨false, fun h => (nomatch h), rfl⟩
  obtain ⟨qN, hN1, hN2⟩ := hNu
  refine sss_set 5 scLDue.nd (e_l (sa_cons (se_var 2) (sa_cons (se_call FL hr (a1 (se_var 1)) ⟨_, d, rfl, lk _, f1, rfl, rfl⟩ (hkj := hj)) (sa_cons (se_var 3) (a2 (se_and (q2 := qF) (μ2 := μ') (se_var 3) (fun h => se_and1 ?_)) (se_and (q2 := qV) (μ2 := μ') (se_var 2) (fun h => se_and1 ?_))))))) ?_
  · obtain ⟨ds, rfl, rfl⟩ := hF1 h
    exact e_ne hr (se_var 1) (e_t sa_nil) (hk := ⟨shaped_tup (n := 60) (by decide) fun d hd => ((f2 ds rfl).2 d hd).2, rfl⟩)
  · obtain ⟨i, rfl, rfl⟩ := hV1 h
    exact e_chLe se_int (se_var 1) se_int
  refine sss_ret (e_add (se_var 5) (e_l (a2 (se_and (q2 := qM) (μ2 := μ') (se_var 2) (fun h => se_and1 ?_)) (se_and (q2 := qN) (μ2 := μ') (se_var 2) (fun h => se_and1 ?_)))) (hk := (show 5 + 2 ≤ sizeLine by decide)) (fin := Fi.dat)) ?_
  · obtain ⟨i, rfl, rfl⟩ := hM1 h
    exact e_chLe (e_neg se_int) (se_var 1) se_int
  · obtain ⟨i, rfl, rfl⟩ := hN1 h
    exact e_chLt se_int (se_var 1) (se_var 0)
  · refine ret_same ?_ rfl
    unfold verd
    rw [hF2, hV2, hM2, hN2]
    rfl
end
end Lw

namespace Lw
open PySem PySem.Spec PyProof.Rows L2 Sy
def RText : List SV → SV → Prop := fun _ sv => ∃ x : Str, sv = .dat (.str x) ∧ x.length ≤ 10 ∧ PyData.strOk x = true
def ANil : List SV → Prop := fun r => r = []
theorem ct_text : CtN (BPre ANil) (BPost RText) 1 := ct_bag (by rintro _ rfl; rfl) (by rintro _ _ j ⟨x, rfl, _⟩ e; exact nomatch e)
theorem joinL_nil : ∀ ps : List (List Nat), TL.joinL [] ps = ps.flatten
  | [] => rfl
  | [p] => by show p = [p].flatten; simp
  | p :: q :: r => by
    show p ++ ([] ++ TL.joinL [] (q :: r)) = p ++ (q :: r).flatten
    rw [joinL_nil (q :: r)]
    rfl
theorem join_signs (cs : List Nat) : (Txt.join "" (cs.map fun c => (⟨#[c]⟩ : Str))).cps.toList = cs := by
  rw [TL.join_eq]
  show TL.tl (Str.join "" (cs.map fun c => (⟨#[c]⟩ : Str))) = cs
  rw [TL.tl_join, show TL.tl (Str.ofString "") = [] from rfl, joinL_nil, List.map_map]
  induction cs with
  | nil => rfl
  | cons c cs ih =>
    rw [List.map_cons, List.flatten_cons, ih]
    rfl
theorem sign31 {i : Int} (h0 : 0 ≤ i) (h1 : i < 31) : ∃ c, (Str.ofString "abcdefghijklmnopqrstuvwxyzA_1 -").cps.toList[i.toNat]? = some c ∧ c < 128 := by
  have h2 : i.toNat < 31 := by omega
  have : ∀ n : Nat, n < 31 → ∃ c, (Str.ofString "abcdefghijklmnopqrstuvwxyzA_1 -").cps.toList[n]? = some c ∧ c < 128 := by decide
  exact this _ h2
section
variable {w : World} {P : Program} {base : Heap} {mg : Str → Option Value} {K : PySem.W.Frag}
theorem ok_text {f : Addr} {fd : FuncData} {k j : Nat} (F : Fun K "_law_text" "_law_text" sLText f fd) (B : Bi mg) (FT : FnS P w K mg base j "_law_take" CTake) (hj : j ≤ k) : FnOk P w K mg base CX0 (k + 1) f fd ["_law_bag_here"] (spN (BPre ANil) (BPost RText)) := by
  refine okN F scLText ct_text fun cdv A outer s H E hr args μ hC => ?_
  obtain ⟨b, m, r, rfl, rfl, gb, rfl⟩ := hC
  refine sss_set 1 scLText.nd se_str ?_
  have g1 := takeS_good (n := 11) gb (by decide)
  have t1 := takeV_nonneg (s := b) (n := 11) (by decide)
  have t2 := takeV_lt (s := b) (n := 11) (by decide)
  have g2 := takeS_good (n := 4) g1 (by decide)
  have t3 := takeV_nonneg (s := takeS b 11) (n := 4) (by decide)
  have t4 := takeV_lt (s := takeS b 11) (n := 4) (by decide)
  obtain ⟨hi, ehi, h0, h10⟩ : ∃ hi, ixD (.list [.int 1, .int 8, .int 9, .int (takeV b 11)]) (.int (takeV (takeS b 11) 4)) = some (.val (.int hi)) ∧ 0 ≤ hi ∧ hi ≤ 10 := by
    have : takeV (takeS b 11) 4 = 0 ∨ takeV (takeS b 11) 4 = 1 ∨ takeV (takeS b 11) 4 = 2 ∨ takeV (takeS b 11) 4 = 3 := by omega
    rcases this with z | z | z | z <;> rw [z]
    · exact ⟨1, rfl, by decide, by decide⟩
    · exact ⟨8, rfl, by decide, by decide⟩
    · exact ⟨9, rfl, by decide, by decide⟩
    · exact ⟨_, rfl, by omega, by omega⟩
  refine sss_set 2 scLText.nd (e_ix (e_l (sa_cons se_int (sa_cons se_int (a2 se_int (e_take FT hr (a2 (se_var 0) se_int) gb (hkj := hj)))))) (e_take FT hr (a2 (se_var 0) se_int) g1 (hkj := hj)) (hf := ehi)) ?_
  generalize takeS (takeS b 11) 4 = b2 at g2 ⊢
  have g3 := takeS_good (n := 4) g2 (by decide)
  have t5 := takeV_nonneg (s := b2) (n := 4) (by decide)
  have t6 := takeV_lt (s := b2) (n := 4) (by decide)
  obtain ⟨po, epo, h26, h31⟩ : ∃ hi, ixD (.list [.int 26, .int 26, .int 26, .int 31]) (.int (takeV b2 4)) = some (.val (.int hi)) ∧ 0 < hi ∧ hi ≤ 31 := by
    have : takeV b2 4 = 0 ∨ takeV b2 4 = 1 ∨ takeV b2 4 = 2 ∨ takeV b2 4 = 3 := by omega
    rcases this with z | z | z | z <;> rw [z]
    · exact ⟨26, rfl, by decide, by decide⟩
    · exact ⟨26, rfl, by decide, by decide⟩
    · exact ⟨26, rfl, by decide, by decide⟩
    · exact ⟨31, rfl, by decide, by decide⟩
  refine sss_set 3 scLText.nd (e_ix (e_l (sa_cons se_int (sa_cons se_int (a2 se_int se_int)))) (e_take FT hr (a2 (se_var 0) se_int) g2 (hkj := hj)) (hf := epo)) ?_
  generalize takeS b2 4 = b3 at g3 ⊢
  refine sss_retN (sen_join se_str (sen_lc 4 (fun i acc m' => ∃ s', Good s' ∧ m' = bagC s' :: m ∧ ∃ cs : List Nat, acc = cs.map sgn ∧ cs.length = i ∧ ∀ c ∈ cs, c < 128) rfl scLText.nd (si_range1 B.range (a1 (se_var 2)) (by omega)) (blkOk_by (N := nLText) (sc := defScope sLText) (by decide +kernel)) (by rw [rangeD_len, sizeLine_eq]; omega)
    ⟨_, g3, rfl, [], rfl, rfl, fun c hc => nomatch hc⟩ (fun _ _ _ _ => trivial) ?_ (P := fun sv m' => ∃ (s' : Bag) (cs : List Nat), Good s' ∧ m' = bagC s' :: m ∧ sv = .dat (.list (cs.map sgn)) ∧ cs.length ≤ 10 ∧ ∀ c ∈ cs, c < 128) ?_) (P := fun sv m' => ∃ s', Good s' ∧ m' = bagC s' :: m ∧ RText [] sv) ?_) ?_
  · rintro i d acc m' hd ⟨s', gs, rfl, cs, rfl, hl, hc⟩
    have q1 := takeV_nonneg (s := s') (n := po) (by omega)
    have q2 := takeV_lt (s := s') (n := po) (by omega)
    obtain ⟨c, hc1, hc2⟩ := sign31 q1 (by omega)
    refine ⟨true, _, fun _ _ _ _ _ => sts_nil, fun _ s H C cl fp => ?_, fun z => nomatch z⟩
    refine (SE.n (e_ix (se_var 1) (e_take FT hr (a2 (se_var 0) (se_var 3)) gs (hkj := hj)) (hf := ixD_atS q1 hc1) (hk := by show Str.length _ ≤ sizeLine; decide))).imp ?_
    rintro sv m' ⟨rfl, rfl⟩
    refine ⟨_, rfl, _, takeS_good gs (by omega), rfl, cs ++ [c], by rw [List.map_append]; rfl, by rw [List.length_append, hl]; rfl, fun y hy => ?_⟩
    rcases List.mem_append.mp hy with z | z
    · exact hc y z
    · rw [List.mem_singleton.mp z]; exact hc2
  · rintro acc m' ⟨s', gs, rfl, cs, rfl, hl, hc⟩
    rw [rangeD_len] at hl
    exact ⟨_, _, Fi.dat, s', cs, gs, rfl, rfl, by omega, hc⟩
  · rintro sv m' ⟨s', cs, gs, rfl, rfl, hl, hc⟩
    have e1 := join_signs cs
    have ln : ∀ cs : List Nat, ((cs.map fun c => (⟨#[c]⟩ : Str)).map (·.length)).sum = cs.length := by
      intro cs
      induction cs with
      | nil => rfl
      | cons c cs ih =>
        rw [List.map_cons, List.map_cons, List.sum_cons, ih]
        show 1 + cs.length = cs.length + 1
        omega
    refine ⟨cs.map fun c => ⟨#[c]⟩, by rw [List.map_map]; rfl, ?_, s', gs, rfl, _, rfl, ?_, ?_⟩
    · rw [ln, List.length_map, show (Str.ofString "").length = 0 from rfl]
      omega
    · show (Txt.join "" (cs.map fun c => (⟨#[c]⟩ : Str))).cps.size ≤ 10
      rw [← Array.length_toList, e1]
      exact hl
    · unfold PyData.strOk
      rw [Array.all_eq_true']
      intro c hcc
      have := hc c (by rw [← e1]; exact Array.mem_toList_iff.mpr hcc)
      exact decide_eq_true (by omega)
  · rintro sv m' ⟨s', gs, rfl, hR⟩
    exact ⟨_, _, Ret.same, _, b, m, _, rfl, rfl, gs, rfl, hR⟩
end
end Lw

namespace Lw
open PySem PySem.Spec PyProof.Rows L2 Sy
def ThOk (d : PyData) : Prop := FitL d ∧ FitN d ∧ Rp d
theorem small_shown : ∀ n : Nat, n < 2000 → (PyData.int (n : Int)).shown.length ≤ 10 := by decide +kernel
theorem small_show : ∀ n : Nat, n < 2000 → (PyData.int (n : Int)).showable = true := by decide +kernel
theorem th_small {i : Int} (h0 : 0 ≤ i) (h1 : i < 2000) : ThOk (.int i) := by
  obtain ⟨n, rfl⟩ := Int.eq_ofNat_of_zero_le h0
  have := small_shown n (by omega)
  exact ⟨fun _ h => (nomatch h), fun _ h => (nomatch h), .inl ⟨small_show n (by omega), rfl, Nat.zero_le _, by rw [sizeLine_eq]; omega⟩⟩
theorem th_int {i : Int} (h : (PyData.int i).showable = true) (h2 : (PyData.int i).shown.length ≤ 100) : ThOk (.int i) := ⟨fun _ h => (nomatch h), fun _ h => (nomatch h), .inl ⟨h, rfl, Nat.zero_le _, by rw [sizeLine_eq]; omega⟩⟩
/-- a text of the laws -/
def Tx (x : Str) : Prop := x.length ≤ 10 ∧ PyData.strOk x = true
theorem Tx.ok {x : Str} (h : Tx x) : Ok (.str x) 0 102 := Ok.str h.2 h.1
theorem Tx.fit {x : Str} (h : Tx x) : FitL (.str x) := fun y e => by
  obtain rfl := PyData.str.inj e
  exact ⟨by have := h.1; omega, h.2⟩
theorem th_ok {d : PyData} {h n : Nat} (o : Ok d h n) (hh : h ≤ 64) (hn : n ≤ sizeLine) (f1 : FitL d) (f2 : FitN d) : ThOk d := ⟨f1, f2, .inl (o.repr hn hh)⟩
theorem fitN_of {ds : List PyData} {n : Nat} (hl : ds.length ≤ 1000) (h : ∀ e ∈ ds, FitL e ∧ Ok e 60 n) : FitN (.tuple ds) := fun es e => by
  obtain rfl := PyData.tuple.inj e
  exact ⟨hl, fun e he => ⟨(h e he).1, (h e he).2.lay, (h e he).2.dep⟩⟩
theorem th_tup {ds : List PyData} {n m : Nat} (hl : ds.length ≤ m) (hm : m ≤ 1000) (h : ∀ e ∈ ds, FitL e ∧ Ok e 60 n) (hz : m * (n + 2) + 3 ≤ sizeLine) : ThOk (.tuple ds) :=
  th_ok (Ok.tuple (fun d hd => (h d hd).2) hl) (by decide) hz (fun _ z => (nomatch z)) (fitN_of (by omega) h)
theorem th_lst {ds : List PyData} {n m : Nat} (hl : ds.length ≤ m) (h : ∀ e ∈ ds, Ok e 60 n) (hz : m * (n + 2) + 2 ≤ sizeLine) : ThOk (.list ds) :=
  th_ok (Ok.list h hl) (by decide) hz (fun _ z => (nomatch z)) (fun _ z => (nomatch z))
theorem ok3 : Ok (.int 3) 0 102 := ⟨rfl, by decide, Nat.le_refl _, by decide +kernel⟩
theorem Ok.up {d : PyData} {h n : Nat} (o : Ok d h n) (hh : h ≤ 60) : Ok d 60 n := o.mono hh (Nat.le_refl _)
theorem tx_of {x : Str} (h : x.length ≤ 10 ∧ PyData.strOk x = true := by decide) : Tx x := h
def RThing : List SV → SV → Prop := fun _ sv => ∃ d, sv = .dat d ∧ ThOk d
theorem ct_thing : CtN (BPre ANil) (BPost RThing) 1 := ct_bag (by rintro _ rfl; rfl) (by rintro _ _ j ⟨x, rfl, _⟩ e; exact nomatch e)
def more9 : List PyData := [.bool false, .none, .tuple [], .list [], .dict [], .tuple [.tuple [.str "a"]], .tuple [.str "a", .none], .list [.list [.list [.list []]]], .tuple [.str "ab", .str ""]]
theorem th_none : ThOk .none := ⟨fun _ h => (nomatch h), fun _ h => (nomatch h), .inl (Ok.none.repr (by decide) (by decide))⟩
theorem th_bool (b : Bool) : ThOk (.bool b) := ⟨fun _ h => (nomatch h), fun _ h => (nomatch h), .inl ((Ok.bool b).repr (by decide) (by decide))⟩
theorem th_more : ∀ d ∈ more9, ThOk d := by
  intro d hd
  simp only [more9, List.mem_cons, List.not_mem_nil, or_false] at hd
  have ta : Tx "a" := ⟨by decide, by decide +kernel⟩
  have tab : Tx "ab" := ⟨by decide, by decide +kernel⟩
  have te : Tx "" := ⟨by decide, by decide +kernel⟩
  rcases hd with rfl | rfl | rfl | rfl | rfl | rfl | rfl | rfl | rfl
  · exact th_bool false
  · exact th_none
  · exact th_tup (n := 0) (m := 0) (Nat.le_refl _) (by decide) (fun e he => nomatch he) (by decide)
  · exact th_lst (n := 0) (m := 0) (Nat.le_refl _) (fun e he => nomatch he) (by decide)
  · exact ⟨fun _ h => (nomatch h), fun _ h => (nomatch h), .inr rfl⟩
  · refine th_tup (n := 107) (m := 1) (Nat.le_refl _) (by decide) (fun e he => ?_) (by decide)
    obtain rfl := List.mem_singleton.mp he
    exact ⟨fun _ z => (nomatch z), (Ok.tuple (h := 0) (n := 102) (m := 1) (fun d hd => by obtain rfl := List.mem_singleton.mp hd; exact ta.ok) (Nat.le_refl _)).up (by decide)⟩
  · refine th_tup (n := 102) (m := 2) (Nat.le_refl _) (by decide) (fun e he => ?_) (by decide)
    simp only [List.mem_cons, List.not_mem_nil, or_false] at he
    rcases he with rfl | rfl
    · exact ⟨ta.fit, ta.ok.up (by decide)⟩
    · exact ⟨fun _ z => (nomatch z), Ok.none.mono (by decide) (by decide)⟩
  · have o1 : Ok (.list []) 1 2 := Ok.list (ds := []) (h := 0) (n := 0) (m := 0) (fun e he => (List.not_mem_nil he).elim) (Nat.le_refl _)
    have o2 : Ok (.list [.list []]) 2 6 := Ok.list (h := 1) (n := 2) (m := 1) (fun e he => by obtain rfl := List.mem_singleton.mp he; exact o1) (Nat.le_refl _)
    have o3 : Ok (.list [.list [.list []]]) 3 10 := Ok.list (h := 2) (n := 6) (m := 1) (fun e he => by obtain rfl := List.mem_singleton.mp he; exact o2) (Nat.le_refl _)
    exact th_lst (n := 10) (m := 1) (Nat.le_refl _) (fun e he => by obtain rfl := List.mem_singleton.mp he; exact o3.up (by decide)) (by decide)
  · refine th_tup (n := 102) (m := 2) (Nat.le_refl _) (by decide) (fun e he => ?_) (by decide)
    simp only [List.mem_cons, List.not_mem_nil, or_false] at he
    rcases he with rfl | rfl
    · exact ⟨tab.fit, tab.ok.up (by decide)⟩
    · exact ⟨te.fit, te.ok.up (by decide)⟩
end Lw

namespace Lw
open PySem PySem.Spec PyProof.Rows L2 Sy
def edgesD (t : Int) : List PyData := [.int 0, .int 999, .int 1000, .int (-1), .int 1000000, .int 1000001, .int (-1000000), .int (-1000001), .int (10 ^ 39), .int (0 - 10 ^ 39), .int t]
theorem th_edges {t : Int} (h0 : 0 ≤ t) (h1 : t < 2000) : ∀ d ∈ edgesD t, ThOk d := by
  intro d hd
  simp only [edgesD, List.mem_cons, List.not_mem_nil, or_false] at hd
  rcases hd with rfl | rfl | rfl | rfl | rfl | rfl | rfl | rfl | rfl | rfl | rfl
  · exact th_small (by decide) (by decide)
  · exact th_small (by decide) (by decide)
  · exact th_small (by decide) (by decide)
  · exact th_int (by decide +kernel) (by decide +kernel)
  · exact th_int (by decide +kernel) (by decide +kernel)
  · exact th_int (by decide +kernel) (by decide +kernel)
  · exact th_int (by decide +kernel) (by decide +kernel)
  · exact th_int (by decide +kernel) (by decide +kernel)
  · exact th_int (by decide +kernel) (by decide +kernel)
  · exact th_int (by decide +kernel) (by decide +kernel)
  · exact th_small h0 h1
def some7 (e : PyData) (x : Str) (ws : List Str) : List PyData := [e, .str x, .tuple (ws.map PyData.str), .list (ws.map PyData.str), .tuple (ws.map PyData.str ++ [.int 3]), .tuple (List.replicate (200 : Int).toNat [PyData.str "a"]).flatten, .bool true]
theorem th_some {e : PyData} {x : Str} {ws : List Str} (he : ThOk e) (hx : Tx x) (hw : ∀ y ∈ ws, Tx y) (hl : ws.length ≤ 3) : ∀ d ∈ some7 e x ws, ThOk d := by
  have hws : ∀ d ∈ ws.map PyData.str, FitL d ∧ Ok d 60 102 := fun d hd => by
    obtain ⟨y, hy, rfl⟩ := List.mem_map.mp hd
    exact ⟨(hw y hy).fit, (hw y hy).ok.up (by decide)⟩
  have ta : Tx "a" := ⟨by decide, by decide +kernel⟩
  intro d hd
  simp only [some7, List.mem_cons, List.not_mem_nil, or_false] at hd
  rcases hd with rfl | rfl | rfl | rfl | rfl | rfl | rfl
  · exact he
  · exact th_ok hx.ok (by decide) (by decide) hx.fit (fun _ z => nomatch z)
  · exact th_tup (n := 102) (m := 3) (by rw [List.length_map]; exact hl) (by decide) hws (by decide)
  · exact th_lst (n := 102) (m := 3) (by rw [List.length_map]; exact hl) (fun d hd => (hws d hd).2) (by decide)
  · refine th_tup (n := 102) (m := 4) (by rw [List.length_append, List.length_map]; show ws.length + 1 ≤ 4; omega) (by decide) (fun d hd => ?_) (by decide)
    rcases List.mem_append.mp hd with z | z
    · exact hws d z
    · obtain rfl := List.mem_singleton.mp z
      exact ⟨fun _ z => (nomatch z), ok3.up (by decide)⟩
  · refine th_tup (n := 102) (m := 200) (by decide) (by decide) (fun d hd => ?_) (by decide)
    obtain ⟨l, h1, h2⟩ := List.mem_flatten.mp hd
    rw [(List.mem_replicate.mp h1).2] at h2
    obtain rfl := List.mem_singleton.mp h2
    exact ⟨ta.fit, ta.ok.up (by decide)⟩
  · exact th_bool true
section
variable {w : World} {P : Program} {base : Heap} {mg : Str → Option Value} {K : PySem.W.Frag}
set_option maxHeartbeats 1000000 in
theorem ok_thing {f : Addr} {fd : FuncData} {k j : Nat} (F : Fun K "_law_thing" "_law_thing" sLThing f fd) (B : Bi mg) (FT : FnS P w K mg base j "_law_take" CTake) (FX : FnN P w K mg base j "_law_text" (BPre ANil) (BPost RText)) (hj : j ≤ k) : FnOk P w K mg base CX0 (k + 1) f fd ["_law_bag_here"] (spN (BPre ANil) (BPost RThing)) := by
  refine okN F scLThing ct_thing fun cdv A outer s H E hr args μ hC => ?_
  obtain ⟨b, m, r, rfl, rfl, gb, rfl⟩ := hC
  have g1 := takeS_good (n := 2000) gb (by decide)
  have t1 := takeV_nonneg (s := b) (n := 2000) (by decide)
  have t2 := takeV_lt (s := b) (n := 2000) (by decide)
  refine sss_set 1 scLThing.nd (sv := .dat (.list (edgesD (takeV b 2000)))) (μ1 := bagC (takeS b 2000) :: m) (e_l (sa_cons se_int (sa_cons se_int (sa_cons se_int (sa_cons (e_neg se_int) (sa_cons se_int (sa_cons se_int (sa_cons (e_neg se_int) (sa_cons (e_neg se_int) (sa_cons (e_pow se_int se_int) (a2 (e_sub se_int (e_pow se_int se_int)) (e_take FT hr (a2 (se_var 0) se_int) gb (hkj := hj)))))))))))) (hz := (show 11 ≤ sizeLine by decide))) ?_
  have hE := th_edges t1 t2
  generalize takeV b 2000 = tv at hE t1 t2 ⊢
  generalize takeS b 2000 = b1 at g1 ⊢
  -- words
  have g2 := takeS_good (n := 4) g1 (by decide)
  have t3 := takeV_nonneg (s := b1) (n := 4) (by decide)
  have t4 := takeV_lt (s := b1) (n := 4) (by decide)
  refine sss_setLcN 2 3 (fun i acc m' => ∃ s', Good s' ∧ m' = bagC s' :: m ∧ ∃ ws : List Str, acc = ws.map PyData.str ∧ ws.length = i ∧ ∀ y ∈ ws, Tx y) rfl scLThing.nd (si_range1 B.range (a1 (e_take FT hr (a2 (se_var 0) se_int) g1 (hkj := hj))) (by omega)) (blkOk_by (N := nLThing) (sc := defScope sLThing) (by decide +kernel)) (by rw [rangeD_len, sizeLine_eq]; omega)
    ⟨_, g2, rfl, [], rfl, rfl, fun c hc => nomatch hc⟩ (fun _ _ _ _ => trivial) ?_ (P := fun sv m' => ∃ (s' : Bag) (ws : List Str), Good s' ∧ m' = bagC s' :: m ∧ sv = .dat (.list (ws.map PyData.str)) ∧ ws.length ≤ 3 ∧ ∀ y ∈ ws, Tx y) ?_ (sw_true rfl rfl rfl (by decide +kernel)) ?_
  · rintro i d acc m' hd ⟨s', gs, rfl, ws, rfl, hl, hw⟩
    refine ⟨true, _, fun _ _ _ _ _ => sts_nil, fun _ s H C cl fp => ?_, fun z => nomatch z⟩
    refine (b_call FX hr (a1 (se_var 0)) gs (show ANil [] from rfl) (hkj := hj)).imp ?_
    rintro sv m' ⟨s2, g2, rfl, x, rfl, hx⟩
    refine ⟨_, rfl, s2, g2, rfl, ws ++ [x], by rw [List.map_append]; rfl, by rw [List.length_append, hl]; rfl, fun y hy => ?_⟩
    rcases List.mem_append.mp hy with z | z
    · exact hw y z
    · rw [List.mem_singleton.mp z]; exact hx
  · rintro acc m' ⟨s', gs, rfl, ws, rfl, hl, hw⟩
    rw [rangeD_len] at hl
    exact ⟨_, _, Fi.dat, s', ws, gs, rfl, rfl, by omega, hw⟩
  rintro _ _ ⟨b2, ws, gb2, rfl, rfl, hwl, hw⟩
  -- some
  have t5 := takeV_nonneg (s := b2) (n := 11) (by decide)
  have t6 := takeV_lt (s := b2) (n := 11) (by decide)
  have g3 := takeS_good (n := 11) gb2 (by decide)
  have hlt : (takeV b2 11).toNat < (edgesD tv).length := by show _ < 11; omega
  refine sss_setN 4 scLThing.nd (sen_l (san_cons (SE.n (e_ix (se_var 1) (e_take FT hr (a2 (se_var 0) se_int) gb2 (hkj := hj)) (hf := ixD_at t5 (List.getElem?_eq_getElem hlt)))) (PA := fun s r m' => ∃ s' x, Good s' ∧ m' = bagC s' :: m ∧ s = .dat ((edgesD tv)[(takeV b2 11).toNat]) ∧ Tx x ∧ r = ((some7 .none x ws).drop 1).map SV.dat) ?_)
    (P := fun sv m' => ∃ s' e x, Good s' ∧ m' = bagC s' :: m ∧ sv = .dat (.list (some7 e x ws)) ∧ ThOk e ∧ Tx x) ?_) ?_
  · rintro _ _ ⟨rfl, rfl⟩
    refine (san_cons (b_call FX hr (a1 (se_var 0)) g3 (show ANil [] from rfl) (hkj := hj)) (PA := fun s r m' => ∃ s' x, Good s' ∧ m' = bagC s' :: m ∧ s = .dat (.str x) ∧ Tx x ∧ r = ((some7 .none x ws).drop 2).map SV.dat) ?_).imp ?_
    · rintro _ _ ⟨s2, g2, rfl, x, rfl, hx⟩
      refine (SA.n (sa_cons (e_tup B (a1 (se_var 2))) (sa_cons (se_var 2) (sa_cons (e_tup B (a1 (e_add (se_var 2) (e_l (a1 se_int)) (hk := ?_)))) (a2 (e_mulT (e_t (a1 se_str)) se_int (hk := by exact ⟨by simp, by decide, by decide, (show 1 ≤ 1000 by decide)⟩)) se_bool))))).imp ?_
      · show (ws.map PyData.str).length + 1 ≤ sizeLine
        rw [List.length_map, sizeLine_eq]
        omega
      · rintro _ _ ⟨rfl, rfl⟩
        exact ⟨s2, x, g2, rfl, rfl, hx, rfl⟩
    · rintro _ _ ⟨s, r, rfl, s2, x, g2, rfl, rfl, hx, rfl⟩
      exact ⟨s2, x, g2, rfl, rfl, hx, rfl⟩
  · rintro _ _ ⟨s, r, rfl, s2, x, g2, rfl, rfl, hx, rfl⟩
    exact ⟨some7 ((edgesD tv)[(takeV b2 11).toNat]) x ws, rfl, (show 7 ≤ sizeLine by decide), s2, _, x, g2, rfl, rfl, hE _ (List.getElem_mem hlt), hx⟩
  rintro _ _ ⟨b3, e, x, gb3, rfl, rfl, he, hx⟩
  have hS := th_some he hx hw hwl
  have t7 := takeV_nonneg (s := b3) (n := 16) (by decide)
  have t8 := takeV_lt (s := b3) (n := 16) (by decide)
  have g4 := takeS_good (n := 16) gb3 (by decide)
  have hl2 : (takeV b3 16).toNat < (some7 e x ws ++ more9).length := by show _ < 16; omega
  refine sss_ret (e_ix (e_add (s2 := .dat (.list more9)) (se_var 4) (e_l (hz := (show 9 ≤ sizeLine by decide)) (sa_cons se_bool (sa_cons se_none (sa_cons (e_t sa_nil) (sa_cons (e_l sa_nil) (sa_cons e_dict0D (sa_cons (e_t (a1 (e_t (a1 se_str)))) (sa_cons (e_t (a2 se_str se_none)) (a2 (e_l (a1 (e_l (a1 (e_l (a1 (e_l sa_nil))))))) (e_t (a2 se_str se_str))))))))))) (hk := (show 7 + 9 ≤ sizeLine by decide))) (e_take FT hr (a2 (se_var 0) se_int) gb3 (hkj := hj)) (hf := ixD_at t7 (List.getElem?_eq_getElem hl2))) ?_
  refine ⟨_, _, Ret.same, _, b, m, _, rfl, rfl, g4, rfl, _, rfl, ?_⟩
  have hm := List.getElem_mem hl2
  rcases List.mem_append.mp hm with z | z
  · exact hS _ z
  · exact th_more _ z
end
end Lw

namespace Lw
open PySem PySem.Spec PyProof.Rows L2 Sy
/-- what the law asks of the class Zone -/
structure ZoneC (K : PySem.W.Frag) (C : Addr) : Prop where
  own : OwnC K C
  int : PySem.W.kitOne K (.ref C) (.type "int") = some false
  bool : PySem.W.kitOne K (.ref C) (.type "bool") = some false
  str : PySem.W.kitOne K (.ref C) (.type "str") = some false
  tup : PySem.W.kitOne K (.ref C) (.type "tuple") = some false
  lst : PySem.W.kitOne K (.ref C) (.type "list") = some false
  dct : PySem.W.kitOne K (.ref C) (.type "dict") = some false
theorem ok_verd (M : Int) (d : PyData) : Ok (.list (verd M d)) 1 51 := Ok.list (h := 0) (n := 5) (m := 7) (fun e he => by
  simp only [verd, List.mem_cons, List.not_mem_nil, or_false] at he
  rcases he with rfl | rfl | rfl | rfl | rfl | rfl | rfl <;> exact Ok.bool _) (show 7 ≤ 7 by decide)
section
variable {w : World} {P : Program} {base : Heap} {mg : Str → Option Value} {K : PySem.W.Frag}
set_option maxHeartbeats 2000000 in
theorem ok_law {f fB fZ C : Addr} {fd fdB fdZ : FuncData} (F : Fun K "law" "law" sLaw f fd) (B : Bi mg) (GB : FnOk P w K mg base CX0 1 fB fdB ["_law_script"] (spBag K)) (mB : mg "_law_bag" = some (.ref fB)) (kB : PySem.W.keepIn K (.ref fB) = true) (bB : Binds K fdB ["_law_script"] [])
    (FT : FnS P w K mg base 1 "_law_take" CTake) (FH : FnN P w K mg base 3 "_law_thing" (BPre ANil) (BPost RThing)) (FD : FnS P w K mg base 2 "_law_due" (CP relDue)) (FO : FnS P w K mg base 4 "_law_told" (CTold K)) (FA : FnSG P w K mg base 1 "_law_alike" CAlike)
    (M : Mk K C fZ) (FZ : FnOk P w K mg base CX0 2 fZ fdZ ["self", "values"] (spC (CZ0 C))) (bZ : Binds K fdZ ["self", "values"] []) (mZ : mg "Zone" = some (.ref C)) (Z : ZoneC K C) : Gd.FnG P w K mg base CX0 5 f fd ["_law_script"] (spLaw K) := by
  refine Gd.okG F scLaw (fun vs H Q E h => ?_) (fun cdv A outer s H vs Q E gA hr h => ?_)
  · obtain ⟨a, ns, rfl, _⟩ := h
    rfl
  refine law_first 6 h GB hr (by decide) mB kB bB scLaw.nd fun b gb => ?_
  refine sss_for (fun k env μ => ∃ b m x2 x3 x4 x5 x6 x7, Good b ∧ μ = bagC b :: m ∧ env = [none, some (.cell 0), x2, x3, x4, x5, x6, x7]) PassesOwn.never rfl
    (si_range1 B.range (a1 se_int) (by decide)) (sg_name 2 scLaw.nd) ⟨b, [], _, _, _, _, _, _, gb, rfl, rfl⟩ (fun _ _ _ _ => trivial) ?_ ?_
  · rintro k d env μ hd ⟨b, m, x2, x3, x4, x5, x6, x7, gb, rfl, rfl⟩
    refine ⟨_, rfl, ?_⟩
    refine sss_parN 3 4 rfl scLaw.nd (san_cons (b_call FH hr (a1 (se_var 1)) gb (show ANil [] from rfl)) (PA := fun s r m' => ∃ s' d N, Good s' ∧ m' = bagC s' :: m ∧ s = .dat d ∧ ThOk d ∧ r = [.dat (.int N)]) ?_) ?_ (h2 := by rintro _ _ ⟨s, r, rfl, s', d, N, _, _, _, _, rfl⟩; rfl)
    · rintro _ _ ⟨b1, g1, rfl, d, rfl, hd⟩
      have t1 := takeV_nonneg (s := b1) (n := 2000) (by decide)
      have g2 := takeS_good (n := 2000) g1 (by decide)
      have t3 := takeV_nonneg (s := takeS b1 2000) (n := 5) (by decide)
      have t4 := takeV_lt (s := takeS b1 2000) (n := 5) (by decide)
      obtain ⟨hi, ehi⟩ : ∃ hi, ixD (.list [.int 0, .int 1, .int 1000, .int (10 ^ 39), .int (takeV b1 2000)]) (.int (takeV (takeS b1 2000) 5)) = some (.val (.int hi)) := by
        have : takeV (takeS b1 2000) 5 = 0 ∨ takeV (takeS b1 2000) 5 = 1 ∨ takeV (takeS b1 2000) 5 = 2 ∨ takeV (takeS b1 2000) 5 = 3 ∨ takeV (takeS b1 2000) 5 = 4 := by omega
        rcases this with z | z | z | z | z <;> rw [z] <;> exact ⟨_, rfl⟩
      refine (SA.n (a1 (e_ix (s1 := .dat (.list [.int 0, .int 1, .int 1000, .int (10 ^ 39), .int (takeV b1 2000)])) (e_l (sa_cons se_int (sa_cons se_int (sa_cons se_int (a2 (e_pow se_int se_int) (e_take FT hr (a2 (se_var 1) se_int) g1)))))) (e_take FT hr (a2 (se_var 1) se_int) g2) (hf := ehi)))).imp ?_
      rintro _ _ ⟨rfl, rfl⟩
      exact ⟨_, d, hi, takeS_good g2 (by decide), rfl, rfl, hd, rfl⟩
    rintro s1 s2 _ ⟨s, r, e0, b2, d2, N, gb2, rfl, rfl, ⟨f1, f2, f3⟩, rfl⟩
    obtain ⟨rfl, e1⟩ := List.cons.inj e0
    obtain ⟨rfl, _⟩ := List.cons.inj e1
    refine sss_par 5 6 rfl scLaw.nd (a2 (e_reprR B gA hr (se_var 3) rfl f3) (se_call FD hr (a2 (se_var 4) (se_var 3)) ⟨[.int N, d2], _, rfl, ⟨N, d2, rfl, f1, f2, rfl⟩, rfl, rfl⟩)) ?_
    refine sss_for (fun k env μ => ∃ x7, μ = bagC b2 :: m ∧ env = [none, some (.cell 0), some (.dat d), some (.dat d2), some (.dat (.int N)), some (.dat (.str d2.shown)), some (.dat (.list (verd N d2))), x7]) PassesOwn.never rfl
      (si_range1 B.range (a1 se_int) (by decide)) (sg_name 7 scLaw.nd) ⟨_, rfl, rfl⟩ (fun _ _ _ _ => trivial) ?_ ?_
    · rintro k2 d3 env μ hd2 ⟨x7', rfl, rfl⟩
      refine ⟨_, rfl, ?_⟩
      refine sss_if (SW.st (sw_or (st_not (st_val (se_callG FA gA hr (a2 (se_call FO hr (a2 (se_var 4) (se_var 3)) ⟨N, _, d2, rfl, Like.dat d2, f1, f2, rfl, rfl⟩) (se_var 6)) ⟨_, _, _, _, _, rfl, rfl, rfl, ok_verd N d2, by decide, by decide, rfl, rfl⟩))) (fun _ => sw_or1 (t_neS (e_reprR B gA hr (se_var 3) rfl f3) (se_var 5))))) (fun h => ?_) (fun _ => sss_nil (sss_nil ⟨_, rfl, rfl⟩))
      rw [decide_eq_true rfl] at h
      exact nomatch h
    · rintro env μ ⟨x7', rfl, rfl⟩
      exact sss_nil ⟨_, m, _, _, _, _, _, _, gb2, rfl, rfl⟩
  · rintro env μ ⟨b, m, x2, x3, x4, x5, x6, x7, gb, rfl, rfl⟩
    generalize hμ : bagC b :: m = μ0
    have hz : (μ0 ++ [Cell.dk none []] ++ [Cell.ins C []])[(μ0 ++ [Cell.dk none []]).length]? = some (.ins C []) := by
      rw [List.getElem?_append_right (Nat.le_refl _), Nat.sub_self]
      rfl
    have hk : (μ0 ++ [Cell.dk none []] ++ [Cell.ins C []])[μ0.length]? = some (.dk none []) := by
      rw [List.append_assoc, List.getElem?_append_right (Nat.le_refl _), Nat.sub_self]
      rfl
    have hlz : (μ0 ++ [Cell.dk none []]).length < (μ0 ++ [Cell.dk none []] ++ [Cell.ins C []]).length := (List.getElem?_eq_some_iff.mp hz).1
    refine sss_ret (e_eq hr (se_call FO hr (a2 se_int (se_make M FZ hr mZ bZ (a1 e_dict0) ⟨_, _, rfl, hz, hk, rfl, rfl⟩)) ⟨5, _, .none, rfl, .inr ⟨rfl, fun T hT => ?_⟩, fun _ z => (nomatch z), fun _ z => (nomatch z), rfl, rfl⟩) (e_mul (e_l (a1 se_bool)) se_int (hk := ?_)) (hk := ⟨(ok_verd 5 .none).shaped (by decide), by decide +kernel⟩)) ⟨_, rfl⟩
    · have hat : ((μ0 ++ [Cell.dk none []] ++ [Cell.ins C []]).set (μ0 ++ [Cell.dk none []]).length (.ins C [("its_values", .cell (μ0 ++ [Cell.dk none []] ++ [Cell.ins C []]).length)]) ++ [Cell.dk none []])[(μ0 ++ [Cell.dk none []]).length]? = some (.ins C [("its_values", .cell (μ0 ++ [Cell.dk none []] ++ [Cell.ins C []]).length)]) := by
        rw [List.getElem?_append_left (by rw [List.length_set]; exact hlz), List.getElem?_set, if_pos rfl, if_pos hlz]
      simp only [List.mem_cons, List.not_mem_nil, or_false] at hT
      rcases hT with rfl | rfl | rfl | rfl | rfl | rfl
      · exact isI_ins (X := bodyX P w K mg base nLaw "law" sLaw f cdv A outer s H E) Z.own hat Z.int
      · exact isI_ins (X := bodyX P w K mg base nLaw "law" sLaw f cdv A outer s H E) Z.own hat Z.bool
      · exact isI_ins (X := bodyX P w K mg base nLaw "law" sLaw f cdv A outer s H E) Z.own hat Z.str
      · exact isI_ins (X := bodyX P w K mg base nLaw "law" sLaw f cdv A outer s H E) Z.own hat Z.tup
      · exact isI_ins (X := bodyX P w K mg base nLaw "law" sLaw f cdv A outer s H E) Z.own hat Z.lst
      · exact isI_ins (X := bodyX P w K mg base nLaw "law" sLaw f cdv A outer s H E) Z.own hat Z.dct
    · exact ⟨by decide, by decide, (show 1 * 7 ≤ sizeLine by decide)⟩
end
end Lw

namespace Lw
open PySem PySem.Spec PyProof.Rows L2 Sy
theorem kit_own {K : PySem.W.Frag} {C : Addr} {T : String} {b : Bool} (h : PySem.W.mroIn K C (.type T) = some b) (hm : PySem.W.kitMeta T = true := by decide +kernel) : PySem.W.kitOne K (.ref C) (.type T) = some b := by
  have e : (Value.ref C == Value.type T) = false := rfl
  unfold PySem.W.kitOne
  rw [e, if_neg (by decide)]
  unfold PySem.W.kitCls
  show (if PySem.W.kitMeta T = true then PySem.W.subIn K (.ref C) (.type T) else none) = some b
  rw [if_pos hm]
  exact h
/-! ### what the top has written; the law's own head -/
theorem all_mk {l : PySem.W.OpenLaw} {w : World} {K : PySem.W.Frag} {h : Heap} {mg : Str → Option Value} {fa f0 f1 f2 f3 f4 f5 f6 f7 f8 f9 f10 f11 f12 f13 f14 f15 f16 : Addr} {t_LETTERS : Tok} {t_MOST_LETTERS : Tok} {t_MOST_VALUE : Tok} {t_FARTHEST : Tok} {t_MOST_NAMES : Tok} (X : K.In h) (G : h.Ns mainGlobals mg) (hfa : mg "law" = some (.ref fa)) {CZ : Addr}
    {od0 an0 : Option Addr} {sl0 : Array (Option Value)} {oc0 kV0 dc0 pm0 cd0 ct0 : Value} (a0 : PySem.W.nsIn K mainGlobals "is_integer" = some (some (.ref f0)))
      (l0 : K.lookup f0 = some ⟨oc0, od0, .func (PySem.W.fnOf "is_integer" "is_integer" (defArgs sPIsInteger) (defBody sPIsInteger) (defScope sPIsInteger) .none kV0 dc0 pm0 an0 cd0 ct0), sl0⟩)
      (c0 : PySem.W.codeIn K cd0 "is_integer" = true) (k0 : PySem.W.keepIn K (.ref f0) = true)
    {od1 an1 : Option Addr} {sl1 : Array (Option Value)} {oc1 kV1 dc1 pm1 cd1 ct1 : Value} (a1 : PySem.W.nsIn K mainGlobals "is_number" = some (some (.ref f1)))
      (l1 : K.lookup f1 = some ⟨oc1, od1, .func (PySem.W.fnOf "is_number" "is_number" (defArgs sPIsNumber) (defBody sPIsNumber) (defScope sPIsNumber) .none kV1 dc1 pm1 an1 cd1 ct1), sl1⟩)
      (c1 : PySem.W.codeIn K cd1 "is_number" = true) (k1 : PySem.W.keepIn K (.ref f1) = true)
    {od2 an2 : Option Addr} {sl2 : Array (Option Value)} {oc2 kV2 dc2 pm2 cd2 ct2 : Value} (a2 : PySem.W.nsIn K mainGlobals "is_label" = some (some (.ref f2)))
      (l2 : K.lookup f2 = some ⟨oc2, od2, .func (PySem.W.fnOf "is_label" "is_label" (defArgs sPIsLabel) (defBody sPIsLabel) (defScope sPIsLabel) .none kV2 dc2 pm2 an2 cd2 ct2), sl2⟩)
      (c2 : PySem.W.codeIn K cd2 "is_label" = true) (k2 : PySem.W.keepIn K (.ref f2) = true)
    {od3 an3 : Option Addr} {sl3 : Array (Option Value)} {oc3 kV3 dc3 pm3 cd3 ct3 : Value} (a3 : PySem.W.nsIn K mainGlobals "is_name" = some (some (.ref f3)))
      (l3 : K.lookup f3 = some ⟨oc3, od3, .func (PySem.W.fnOf "is_name" "is_name" (defArgs sPIsName) (defBody sPIsName) (defScope sPIsName) .none kV3 dc3 pm3 an3 cd3 ct3), sl3⟩)
      (c3 : PySem.W.codeIn K cd3 "is_name" = true) (k3 : PySem.W.keepIn K (.ref f3) = true)
    {od4 an4 : Option Addr} {sl4 : Array (Option Value)} {oc4 kV4 dc4 pm4 cd4 ct4 : Value} (a4 : PySem.W.nsIn K mainGlobals "is_full" = some (some (.ref f4)))
      (l4 : K.lookup f4 = some ⟨oc4, od4, .func (PySem.W.fnOf "is_full" "is_full" (defArgs sPIsFull) (defBody sPIsFull) (defScope sPIsFull) .none kV4 dc4 pm4 an4 cd4 ct4), sl4⟩)
      (c4 : PySem.W.codeIn K cd4 "is_full" = true) (k4 : PySem.W.keepIn K (.ref f4) = true)
    {od5 an5 : Option Addr} {sl5 : Array (Option Value)} {oc5 kV5 dc5 pm5 cd5 ct5 : Value} (a5 : PySem.W.nsIn K mainGlobals "is_value" = some (some (.ref f5)))
      (l5 : K.lookup f5 = some ⟨oc5, od5, .func (PySem.W.fnOf "is_value" "is_value" (defArgs sPIsValue) (defBody sPIsValue) (defScope sPIsValue) .none kV5 dc5 pm5 an5 cd5 ct5), sl5⟩)
      (c5 : PySem.W.codeIn K cd5 "is_value" = true) (k5 : PySem.W.keepIn K (.ref f5) = true)
    {od6 an6 : Option Addr} {sl6 : Array (Option Value)} {oc6 kV6 dc6 pm6 cd6 ct6 : Value} (a6 : PySem.W.nsIn K mainGlobals "is_moment" = some (some (.ref f6)))
      (l6 : K.lookup f6 = some ⟨oc6, od6, .func (PySem.W.fnOf "is_moment" "is_moment" (defArgs sPIsMoment) (defBody sPIsMoment) (defScope sPIsMoment) .none kV6 dc6 pm6 an6 cd6 ct6), sl6⟩)
      (c6 : PySem.W.codeIn K cd6 "is_moment" = true) (k6 : PySem.W.keepIn K (.ref f6) = true)
    {od7 an7 : Option Addr} {sl7 : Array (Option Value)} {oc7 kV7 dc7 pm7 cd7 ct7 : Value} (a7 : PySem.W.nsIn K mainGlobals "are_values" = some (some (.ref f7)))
      (l7 : K.lookup f7 = some ⟨oc7, od7, .func (PySem.W.fnOf "are_values" "are_values" (defArgs sPAreValues) (defBody sPAreValues) (defScope sPAreValues) .none kV7 dc7 pm7 an7 cd7 ct7), sl7⟩)
      (c7 : PySem.W.codeIn K cd7 "are_values" = true) (k7 : PySem.W.keepIn K (.ref f7) = true)
    {od8 an8 : Option Addr} {sl8 : Array (Option Value)} {oc8 kV8 dc8 pm8 cd8 ct8 : Value} (a8 : PySem.W.nsIn K mainGlobals "_law_bag" = some (some (.ref f8)))
      (l8 : K.lookup f8 = some ⟨oc8, od8, .func (PySem.W.fnOf "_law_bag" "_law_bag" (defArgs sBag) (defBody sBag) (defScope sBag) .none kV8 dc8 pm8 an8 cd8 ct8), sl8⟩)
      (c8 : PySem.W.codeIn K cd8 "_law_bag" = true) (k8 : PySem.W.keepIn K (.ref f8) = true)
    {od9 an9 : Option Addr} {sl9 : Array (Option Value)} {oc9 kV9 dc9 pm9 cd9 ct9 : Value} (a9 : PySem.W.nsIn K mainGlobals "_law_take" = some (some (.ref f9)))
      (l9 : K.lookup f9 = some ⟨oc9, od9, .func (PySem.W.fnOf "_law_take" "_law_take" (defArgs sTake) (defBody sTake) (defScope sTake) .none kV9 dc9 pm9 an9 cd9 ct9), sl9⟩)
      (c9 : PySem.W.codeIn K cd9 "_law_take" = true) (k9 : PySem.W.keepIn K (.ref f9) = true)
    {od10 an10 : Option Addr} {sl10 : Array (Option Value)} {oc10 kV10 dc10 pm10 cd10 ct10 : Value} (a10 : PySem.W.nsIn K mainGlobals "_law_alike" = some (some (.ref f10)))
      (l10 : K.lookup f10 = some ⟨oc10, od10, .func (PySem.W.fnOf "_law_alike" "_law_alike" (defArgs sAlike) (defBody sAlike) (defScope sAlike) .none kV10 dc10 pm10 an10 cd10 ct10), sl10⟩)
      (c10 : PySem.W.codeIn K cd10 "_law_alike" = true) (k10 : PySem.W.keepIn K (.ref f10) = true)
    {od11 an11 : Option Addr} {sl11 : Array (Option Value)} {oc11 kV11 dc11 pm11 cd11 ct11 : Value} (a11 : PySem.W.nsIn K mainGlobals "_law_text" = some (some (.ref f11)))
      (l11 : K.lookup f11 = some ⟨oc11, od11, .func (PySem.W.fnOf "_law_text" "_law_text" (defArgs sLText) (defBody sLText) (defScope sLText) .none kV11 dc11 pm11 an11 cd11 ct11), sl11⟩)
      (c11 : PySem.W.codeIn K cd11 "_law_text" = true) (k11 : PySem.W.keepIn K (.ref f11) = true)
    {od12 an12 : Option Addr} {sl12 : Array (Option Value)} {oc12 kV12 dc12 pm12 cd12 ct12 : Value} (a12 : PySem.W.nsIn K mainGlobals "_law_thing" = some (some (.ref f12)))
      (l12 : K.lookup f12 = some ⟨oc12, od12, .func (PySem.W.fnOf "_law_thing" "_law_thing" (defArgs sLThing) (defBody sLThing) (defScope sLThing) .none kV12 dc12 pm12 an12 cd12 ct12), sl12⟩)
      (c12 : PySem.W.codeIn K cd12 "_law_thing" = true) (k12 : PySem.W.keepIn K (.ref f12) = true)
    {od13 an13 : Option Addr} {sl13 : Array (Option Value)} {oc13 kV13 dc13 pm13 cd13 ct13 : Value} (a13 : PySem.W.nsIn K mainGlobals "_law_is_label" = some (some (.ref f13)))
      (l13 : K.lookup f13 = some ⟨oc13, od13, .func (PySem.W.fnOf "_law_is_label" "_law_is_label" (defArgs sLIsLabel) (defBody sLIsLabel) (defScope sLIsLabel) .none kV13 dc13 pm13 an13 cd13 ct13), sl13⟩)
      (c13 : PySem.W.codeIn K cd13 "_law_is_label" = true) (k13 : PySem.W.keepIn K (.ref f13) = true)
    {od14 an14 : Option Addr} {sl14 : Array (Option Value)} {oc14 kV14 dc14 pm14 cd14 ct14 : Value} (a14 : PySem.W.nsIn K mainGlobals "_law_due" = some (some (.ref f14)))
      (l14 : K.lookup f14 = some ⟨oc14, od14, .func (PySem.W.fnOf "_law_due" "_law_due" (defArgs sLDue) (defBody sLDue) (defScope sLDue) .none kV14 dc14 pm14 an14 cd14 ct14), sl14⟩)
      (c14 : PySem.W.codeIn K cd14 "_law_due" = true) (k14 : PySem.W.keepIn K (.ref f14) = true)
    {od15 an15 : Option Addr} {sl15 : Array (Option Value)} {oc15 kV15 dc15 pm15 cd15 ct15 : Value} (a15 : PySem.W.nsIn K mainGlobals "_law_told" = some (some (.ref f15)))
      (l15 : K.lookup f15 = some ⟨oc15, od15, .func (PySem.W.fnOf "_law_told" "_law_told" (defArgs sLTold) (defBody sLTold) (defScope sLTold) .none kV15 dc15 pm15 an15 cd15 ct15), sl15⟩)
      (c15 : PySem.W.codeIn K cd15 "_law_told" = true) (k15 : PySem.W.keepIn K (.ref f15) = true)
    {od16 an16 : Option Addr} {sl16 : Array (Option Value)} {oc16 kV16 dc16 pm16 cd16 ct16 : Value} (a16 : PySem.W.nsIn K mainGlobals "law" = some (some (.ref f16)))
      (l16 : K.lookup f16 = some ⟨oc16, od16, .func (PySem.W.fnOf "law" "law" (defArgs sLaw) (defBody sLaw) (defScope sLaw) .none kV16 dc16 pm16 an16 cd16 ct16), sl16⟩)
      (c16 : PySem.W.codeIn K cd16 "law" = true) (k16 : PySem.W.keepIn K (.ref f16) = true)
    {odm0 anm0 : Option Addr} {slm0 : Array (Option Value)} {ocm0 kVm0 dcm0 pmm0 cdm0 ctm0 : Value} {fm0 : Addr} (am0 : PySem.W.findIn K (.ref CZ) "__init__" = some (some (.ref fm0)))
      (lm0 : K.lookup fm0 = some ⟨ocm0, odm0, .func (PySem.W.fnOf "__init__" "Zone.__init__" (defArgs sZone_init) (defBody sZone_init) (defScope sZone_init) .none kVm0 dcm0 pmm0 anm0 cdm0 ctm0), slm0⟩)
      (cm0 : PySem.W.codeIn K cdm0 "Zone.__init__" = true) (km0 : PySem.W.keepIn K (.ref fm0) = true) (im0 : PySem.W.isFn K (.ref fm0) = true)
    (z_len : PySem.W.nsIn K mainGlobals "len" = some none) (z_int : PySem.W.nsIn K mainGlobals "int" = some none) (z_abs : PySem.W.nsIn K mainGlobals "abs" = some none) (z_tuple : PySem.W.nsIn K mainGlobals "tuple" = some none) (z_list : PySem.W.nsIn K mainGlobals "list" = some none) (z_repr : PySem.W.nsIn K mainGlobals "repr" = some none) (z_range : PySem.W.nsIn K mainGlobals "range" = some none) (z_isinstance : PySem.W.nsIn K mainGlobals "isinstance" = some none) (z_bool : PySem.W.nsIn K mainGlobals "bool" = some none) (z_str : PySem.W.nsIn K mainGlobals "str" = some none) (z_dict : PySem.W.nsIn K mainGlobals "dict" = some none) (v_LETTERS : PySem.W.nsIn K mainGlobals "LETTERS" = some (some (.str letS t_LETTERS))) (v_MOST_LETTERS : PySem.W.nsIn K mainGlobals "MOST_LETTERS" = some (some (.int 8 t_MOST_LETTERS))) (v_MOST_VALUE : PySem.W.nsIn K mainGlobals "MOST_VALUE" = some (some (.int 999 t_MOST_VALUE))) (v_FARTHEST : PySem.W.nsIn K mainGlobals "FARTHEST" = some (some (.int 1000000 t_FARTHEST))) (v_MOST_NAMES : PySem.W.nsIn K mainGlobals "MOST_NAMES" = some (some (.int 30 t_MOST_NAMES))) (zc : PySem.W.nsIn K mainGlobals "Zone" = some (some (.ref CZ))) (mk1 : PySem.W.makesIn K CZ = true) (mk2 : PySem.W.keepIn K (.ref CZ) = true) (c1X : PySem.W.plainGet K CZ Str.empty = true) (c2X : PySem.W.hasDictIn K CZ = true) (c3X : PySem.W.plainOver K CZ = true) (c4X : PySem.W.findIn K (.ref CZ) "__setattr__" = some (some (.builtin "object.__setattr__"))) (na : PySem.W.findIn K (.ref CZ) "its_values" = some none) (o1 : PySem.W.findIn K (.ref CZ) "__class__" = some (some (.builtin "object.__class__"))) (o2 : PySem.W.specialIn K (.builtin "object.__class__") "__get__" = some (some (.builtin "getset_descriptor.__get__"))) (o3 : PySem.W.takesIn K (.builtin "object.__class__") = some true) (o4 : PySem.W.mroIn K CZ (.type "object") = some true) (q_int : PySem.W.mroIn K CZ (.type "int") = some false) (q_bool : PySem.W.mroIn K CZ (.type "bool") = some false) (q_str : PySem.W.mroIn K CZ (.type "str") = some false) (q_tuple : PySem.W.mroIn K CZ (.type "tuple") = some false) (q_list : PySem.W.mroIn K CZ (.type "list") = some false) (q_dict : PySem.W.mroIn K CZ (.type "dict") = some false) :
    ∃ fd : FuncData, (∀ (s : Shared) (v : Value), BindsTo s fd ⟨[v], []⟩ [("_law_script", v)]) ∧ ∀ base : Heap, K.In base → base.Ns mainGlobals mg → Gd.FnG l.prog w K mg base CX0 5 fa fd ["_law_script"] (spLaw K) := by
  have e := hfa.symm.trans (PySem.W.mg_of X G a16)
  cases e
  have F0 := fun_mk (st := sPIsInteger) l0 c0 k0
  have b0 := F0.binds (ps := ["thing"]) fun _ _ _ _ _ _ us hl => match us, hl with | [_], _ => rfl
  have F1 := fun_mk (st := sPIsNumber) l1 c1 k1
  have b1 := F1.binds (ps := ["many", "thing"]) fun _ _ _ _ _ _ us hl => match us, hl with | [_, _], _ => rfl
  have F2 := fun_mk (st := sPIsLabel) l2 c2 k2
  have b2 := F2.binds (ps := ["thing"]) fun _ _ _ _ _ _ us hl => match us, hl with | [_], _ => rfl
  have F3 := fun_mk (st := sPIsName) l3 c3 k3
  have b3 := F3.binds (ps := ["thing"]) fun _ _ _ _ _ _ us hl => match us, hl with | [_], _ => rfl
  have F4 := fun_mk (st := sPIsFull) l4 c4 k4
  have b4 := F4.binds (ps := ["thing"]) fun _ _ _ _ _ _ us hl => match us, hl with | [_], _ => rfl
  have F5 := fun_mk (st := sPIsValue) l5 c5 k5
  have b5 := F5.binds (ps := ["thing"]) fun _ _ _ _ _ _ us hl => match us, hl with | [_], _ => rfl
  have F6 := fun_mk (st := sPIsMoment) l6 c6 k6
  have b6 := F6.binds (ps := ["thing"]) fun _ _ _ _ _ _ us hl => match us, hl with | [_], _ => rfl
  have F7 := fun_mk (st := sPAreValues) l7 c7 k7
  have b7 := F7.binds (ps := ["thing"]) fun _ _ _ _ _ _ us hl => match us, hl with | [_], _ => rfl
  have F8 := fun_mk (st := sBag) l8 c8 k8
  have b8 := F8.binds (ps := ["_law_script"]) fun _ _ _ _ _ _ us hl => match us, hl with | [_], _ => rfl
  have F9 := fun_mk (st := sTake) l9 c9 k9
  have b9 := F9.binds (ps := ["_law_bag_here", "_law_many"]) fun _ _ _ _ _ _ us hl => match us, hl with | [_, _], _ => rfl
  have F10 := fun_mk (st := sAlike) l10 c10 k10
  have b10 := F10.binds (ps := ["_law_found", "_law_right"]) fun _ _ _ _ _ _ us hl => match us, hl with | [_, _], _ => rfl
  have F11 := fun_mk (st := sLText) l11 c11 k11
  have b11 := F11.binds (ps := ["_law_bag_here"]) fun _ _ _ _ _ _ us hl => match us, hl with | [_], _ => rfl
  have F12 := fun_mk (st := sLThing) l12 c12 k12
  have b12 := F12.binds (ps := ["_law_bag_here"]) fun _ _ _ _ _ _ us hl => match us, hl with | [_], _ => rfl
  have F13 := fun_mk (st := sLIsLabel) l13 c13 k13
  have b13 := F13.binds (ps := ["_law_thing_here"]) fun _ _ _ _ _ _ us hl => match us, hl with | [_], _ => rfl
  have F14 := fun_mk (st := sLDue) l14 c14 k14
  have b14 := F14.binds (ps := ["_law_many", "_law_thing_here"]) fun _ _ _ _ _ _ us hl => match us, hl with | [_, _], _ => rfl
  have F15 := fun_mk (st := sLTold) l15 c15 k15
  have b15 := F15.binds (ps := ["_law_many", "_law_thing_here"]) fun _ _ _ _ _ _ us hl => match us, hl with | [_, _], _ => rfl
  have F16 := fun_mk (st := sLaw) l16 c16 k16
  have Fm0 := fun_mk (st := sZone_init) lm0 cm0 km0
  have bm0 := Fm0.binds (ps := ["self", "values"]) fun _ _ _ _ _ _ us hl => match us, hl with | [_, _], _ => rfl
  have B : Bi mg := ⟨PySem.W.mg_none_of X G z_len, PySem.W.mg_none_of X G z_int, PySem.W.mg_none_of X G z_abs, PySem.W.mg_none_of X G z_tuple, PySem.W.mg_none_of X G z_list, PySem.W.mg_none_of X G z_repr, PySem.W.mg_none_of X G z_range⟩
  refine ⟨PySem.W.fnOf "law" "law" (defArgs sLaw) (defBody sLaw) (defScope sLaw) .none kV16 dc16 pm16 an16 cd16 ct16, fun s v => .of_eq rfl, fun base _ _ => ?_⟩
  have Q : Bk mg := ⟨PySem.W.mg_none_of X G z_isinstance, PySem.W.mg_none_of X G z_bool, PySem.W.mg_none_of X G z_str, PySem.W.mg_none_of X G z_dict⟩
  have mL : mg "LETTERS" = some (.str letS t_LETTERS) := PySem.W.mg_of X G v_LETTERS
  have mM : mg "MOST_LETTERS" = some (.int 8 t_MOST_LETTERS) := PySem.W.mg_of X G v_MOST_LETTERS
  have mV : mg "MOST_VALUE" = some (.int 999 t_MOST_VALUE) := PySem.W.mg_of X G v_MOST_VALUE
  have mF : mg "FARTHEST" = some (.int 1000000 t_FARTHEST) := PySem.W.mg_of X G v_FARTHEST
  have mN : mg "MOST_NAMES" = some (.int 30 t_MOST_NAMES) := PySem.W.mg_of X G v_MOST_NAMES
  have cl : Cls K CZ := ⟨c1X, c2X, c3X, c4X⟩
  have S_is_integer : FnS l.prog w K mg base 1 "is_integer" (CKind K (fun _ => True) gInt) := ⟨_, _, _, ok_integer F0 B Q, PySem.W.mg_of X G a0, k0, b0⟩
  have S_is_integerH : FnS l.prog w K mg base 3 "is_integer" (CKind K (fun _ => True) gInt) := ⟨_, _, _, ok_integer F0 B Q, PySem.W.mg_of X G a0, k0, b0⟩
  have S_is_number : FnS l.prog w K mg base 2 "is_number" (CNum K) := ⟨_, _, _, ok_number (Ft := fun _ => True) F1 S_is_integer (by decide), PySem.W.mg_of X G a1, k1, b1⟩
  have S_is_numberH : FnS l.prog w K mg base 3 "is_number" (CNum K) := ⟨_, _, _, ok_number (Ft := fun _ => True) F1 S_is_integer (by decide), PySem.W.mg_of X G a1, k1, b1⟩
  have S_is_label : FnS l.prog w K mg base 1 "is_label" (CKind K FitL gLab) := ⟨_, _, _, ok_label F2 B Q mL mM, PySem.W.mg_of X G a2, k2, b2⟩
  have S_is_labelH : FnS l.prog w K mg base 3 "is_label" (CKind K FitL gLab) := ⟨_, _, _, ok_label F2 B Q mL mM, PySem.W.mg_of X G a2, k2, b2⟩
  have S_is_name : FnS l.prog w K mg base 2 "is_name" (CKind K FitN gNm) := ⟨_, _, _, ok_name F3 B Q S_is_label (by decide), PySem.W.mg_of X G a3, k3, b3⟩
  have S_is_nameH : FnS l.prog w K mg base 3 "is_name" (CKind K FitN gNm) := ⟨_, _, _, ok_name F3 B Q S_is_label (by decide), PySem.W.mg_of X G a3, k3, b3⟩
  have S_is_full : FnS l.prog w K mg base 3 "is_full" (CKind K FitN gFul) := ⟨_, _, _, ok_full F4 B S_is_name (by decide), PySem.W.mg_of X G a4, k4, b4⟩
  have S_is_value : FnS l.prog w K mg base 3 "is_value" (CKind K (fun _ => True) (gNum 1000)) := ⟨_, _, _, ok_value F5 mV S_is_number (by decide), PySem.W.mg_of X G a5, k5, b5⟩
  have S_is_moment : FnS l.prog w K mg base 3 "is_moment" (CKind K (fun _ => True) gMom) := ⟨_, _, _, ok_moment F6 mF S_is_integer (by decide), PySem.W.mg_of X G a6, k6, b6⟩
  have S_are_values : FnS l.prog w K mg base 1 "are_values" CVal0 := ⟨_, _, _, ok_values0 F7 B Q mN, PySem.W.mg_of X G a7, k7, b7⟩
  have S__law_take : FnS l.prog w K mg base 1 "_law_take" CTake := ⟨_, _, _, ok_take F9 B, PySem.W.mg_of X G a9, k9, b9⟩
  have S__law_takeH : FnS l.prog w K mg base 2 "_law_take" CTake := ⟨_, _, _, ok_take F9 B, PySem.W.mg_of X G a9, k9, b9⟩
  have S__law_alike : FnSG l.prog w K mg base 1 "_law_alike" CAlike := ⟨_, _, _, ok_alike F10 B, PySem.W.mg_of X G a10, k10, b10⟩
  have S__law_text : FnN l.prog w K mg base 2 "_law_text" (BPre ANil) (BPost RText) := ⟨_, _, _, ok_text F11 B S__law_take (by decide), PySem.W.mg_of X G a11, k11, b11⟩
  have S__law_thing : FnN l.prog w K mg base 3 "_law_thing" (BPre ANil) (BPost RThing) := ⟨_, _, _, ok_thing F12 B S__law_takeH S__law_text (by decide), PySem.W.mg_of X G a12, k12, b12⟩
  have S__law_is_label : FnS l.prog w K mg base 1 "_law_is_label" (CKind K FitL gLab) := ⟨_, _, _, ok_llabel F13 B Q, PySem.W.mg_of X G a13, k13, b13⟩
  have S__law_due : FnS l.prog w K mg base 2 "_law_due" (CP relDue) := ⟨_, _, _, ok_due F14 B Q S__law_is_label (by decide), PySem.W.mg_of X G a14, k14, b14⟩
  have S__law_told : FnS l.prog w K mg base 4 "_law_told" (CTold K) := ⟨_, _, _, ok_told F15 S_is_integerH S_is_labelH S_is_nameH S_is_full S_is_value S_is_moment S_is_numberH (by decide), PySem.W.mg_of X G a15, k15, b15⟩
  exact ok_law F16 B (ok_bag F8 B) (PySem.W.mg_of X G a8) k8 b8 S__law_take S__law_thing S__law_due S__law_told S__law_alike ⟨mk1, am0, im0, mk2⟩ (ok_zone0 Fm0 cl na S_are_values (by decide)) bm0 (PySem.W.mg_of X G zc) ⟨⟨cl, o1, o2, o3, o4⟩, kit_own q_int, kit_own q_bool, kit_own q_str, kit_own q_tuple, kit_own q_list, kit_own q_dict⟩
end Lw
open PySem PySem.W PyProof.Rows
set_option maxRecDepth 100000 in
set_option maxHeartbeats 0 in
theorem PySem.Challenge.cw_listnames_k11_kinds_of_any_value_holds : PySem.Challenge.rw_listnames_k11_kinds_of_any_value.Holds := by
  w_on; o_law; k_head; (case hw => w_witness2)
  k_fill
  refine Gd.walk_ofG (l := PySem.Challenge.rw_listnames_k11_kinds_of_any_value) (n := 63) (k := 5) (x := "_law_script") (CX := fun _ => L2.CX0) (sp := fun w => Lw.spLaw _) rfl (by decide) rfl ⟨rfl, by decide, by decide⟩ (fun w h Y => PySem.W.kIn_of Y) ?F (fun _ _ a ns hl _ hS => ⟨a, ns, rfl, hS, hl, fun _ => rfl⟩) (fun _ _ _ _ _ h => h)
  case F =>
    intro w mg fa h KX G hmg
    refine' Lw.all_mk KX G hmg ?a0 ?l0 ?c0 ?k0 ?a1 ?l1 ?c1 ?k1 ?a2 ?l2 ?c2 ?k2 ?a3 ?l3 ?c3 ?k3 ?a4 ?l4 ?c4 ?k4 ?a5 ?l5 ?c5 ?k5 ?a6 ?l6 ?c6 ?k6 ?a7 ?l7 ?c7 ?k7 ?a8 ?l8 ?c8 ?k8 ?a9 ?l9 ?c9 ?k9 ?a10 ?l10 ?c10 ?k10 ?a11 ?l11 ?c11 ?k11 ?a12 ?l12 ?c12 ?k12 ?a13 ?l13 ?c13 ?k13 ?a14 ?l14 ?c14 ?k14 ?a15 ?l15 ?c15 ?k15 ?a16 ?l16 ?c16 ?k16 ?am0 ?lm0 ?cm0 ?km0 ?im0 ?z_len ?z_int ?z_abs ?z_tuple ?z_list ?z_repr ?z_range ?z_isinstance ?z_bool ?z_str ?z_dict ?v_LETTERS ?v_MOST_LETTERS ?v_MOST_VALUE ?v_FARTHEST ?v_MOST_NAMES ?zc ?mk1 ?mk2 ?c1X ?c2X ?c3X ?c4X ?na ?o1 ?o2 ?o3 ?o4 ?q_int ?q_bool ?q_str ?q_tuple ?q_list ?q_dict
    (case zc => k_is)
    (case mk1 => k_is)
    (case mk2 => k_is)
    (case c1X => k_is)
    (case c2X => k_is)
    (case c3X => k_is)
    (case c4X => k_is)
    (case na => k_is)
    (case o1 => k_is)
    (case o2 => k_is)
    (case o3 => k_is)
    (case o4 => k_is)
    (case q_int => k_is)
    (case q_bool => k_is)
    (case q_str => k_is)
    (case q_tuple => k_is)
    (case q_list => k_is)
    (case q_dict => k_is)
    (case a0 => k_is)
    (case l0 => k_is)
    (case c0 => k_is)
    (case k0 => k_is)
    (case a1 => k_is)
    (case l1 => k_is)
    (case c1 => k_is)
    (case k1 => k_is)
    (case a2 => k_is)
    (case l2 => k_is)
    (case c2 => k_is)
    (case k2 => k_is)
    (case a3 => k_is)
    (case l3 => k_is)
    (case c3 => k_is)
    (case k3 => k_is)
    (case a4 => k_is)
    (case l4 => k_is)
    (case c4 => k_is)
    (case k4 => k_is)
    (case a5 => k_is)
    (case l5 => k_is)
    (case c5 => k_is)
    (case k5 => k_is)
    (case a6 => k_is)
    (case l6 => k_is)
    (case c6 => k_is)
    (case k6 => k_is)
    (case a7 => k_is)
    (case l7 => k_is)
    (case c7 => k_is)
    (case k7 => k_is)
    (case a8 => k_is)
    (case l8 => k_is)
    (case c8 => k_is)
    (case k8 => k_is)
    (case a9 => k_is)
    (case l9 => k_is)
    (case c9 => k_is)
    (case k9 => k_is)
    (case a10 => k_is)
    (case l10 => k_is)
    (case c10 => k_is)
    (case k10 => k_is)
    (case a11 => k_is)
    (case l11 => k_is)
    (case c11 => k_is)
    (case k11 => k_is)
    (case a12 => k_is)
    (case l12 => k_is)
    (case c12 => k_is)
    (case k12 => k_is)
    (case a13 => k_is)
    (case l13 => k_is)
    (case c13 => k_is)
    (case k13 => k_is)
    (case a14 => k_is)
    (case l14 => k_is)
    (case c14 => k_is)
    (case k14 => k_is)
    (case a15 => k_is)
    (case l15 => k_is)
    (case c15 => k_is)
    (case k15 => k_is)
    (case a16 => k_is)
    (case l16 => k_is)
    (case c16 => k_is)
    (case k16 => k_is)
    (case am0 => k_is)
    (case lm0 => k_is)
    (case cm0 => k_is)
    (case km0 => k_is)
    (case im0 => k_is)
    (case z_len => k_is)
    (case z_int => k_is)
    (case z_abs => k_is)
    (case z_tuple => k_is)
    (case z_list => k_is)
    (case z_repr => k_is)
    (case z_range => k_is)
    (case z_isinstance => k_is)
    (case z_bool => k_is)
    (case z_str => k_is)
    (case z_dict => k_is)
    (case v_LETTERS => k_is)
    (case v_MOST_LETTERS => k_is)
    (case v_MOST_VALUE => k_is)
    (case v_FARTHEST => k_is)
    (case v_MOST_NAMES => k_is)
