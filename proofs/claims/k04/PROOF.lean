import PyProof.Rows.All
import Wide.All
import OpenK.AllK
import Wide.FinOn
import KE.DatumIndex
import HandS.ForMost
import HandS.ForExc
import HandS.Lambda
import HandS.ExcInit
import KE.KExcSuper
import HandS.ExcIs
import KE.KExcIs
import HandS.Wide
import HandS.Style
import HandS.TupAny
import HandS.Deep
import HandS.IsInst
import HandS.Conv
import HandS.Flow
import HandS.SortInts
import HandS.Defaults
import HandS.EndTab
import HandS.EndBits
import KE.GoesMore
import KE.GoesEnum
import HandS.Iter
import HandS.MakeKwOnly
import HandS.Codes
import PyProof.InstNe
import HandS.SortRule
import HandS.Dict
import PySem.Challenge.RW_handalong_k04_networks_kept_and_refused
set_option Elab.async false
set_option linter.all false
set_option maxRecDepth 100000
set_option maxHeartbeats 2000000
/-! Guards: a promise of a def under which repr may be asked; repr of data of any depth. -/
namespace NL
open PySem PySem.Spec PyProof.Rows L2

/-- a promise kept wherever no repr is under way -/
structure FnG (P : Program) (w : World) (K : PySem.W.Frag) (mg : Str → Option Value) (base : Heap)
    (CX : CXT) (k : Nat) (f : Addr) (fd : FuncData) (ps : List Str) (sp : Sp) : Prop where
  lenG : ∀ vs H Q E, sp vs H Q E → vs.length = ps.length
  runG : ∀ (A : Around) (outer : List Env) (s : Shared) (H : Hp) (args : Args) (us : List Value)
    (vs : List V) (Q : VK) (E : XK), A.guards = some [] → Room k A → Env0 P w K mg base A outer s H →
      BindsTo s fd args (ps.zip us) → Vals vs us → sp vs H Q E →
      codeAny (model P w) A (.call (.ref f) args) (CR CX outer P w H s Q E) s

section
variable {P : Program} {w : World} {K : PySem.W.Frag} {mg : Str → Option Value} {base : Heap} {CX : CXT}
theorem FnG.ofOk {k f fd ps sp} (F : FnOk P w K mg base CX k f fd ps sp) : FnG P w K mg base CX k f fd ps sp :=
  ⟨F.len, fun A outer s H args us vs Q E _ => F.run A outer s H args us vs Q E⟩
theorem FnG.mono {j k f fd ps sp} (F : FnG P w K mg base CX j f fd ps sp) (h : j ≤ k) : FnG P w K mg base CX k f fd ps sp :=
  ⟨F.lenG, fun A outer s H args us vs Q E hg hr => F.runG A outer s H args us vs Q E hg (hr.mono h)⟩
/-- a def by its body, nothing let out -/
theorem okG {x qual : Str} {st : Stmt} {f : Addr} {fd : FuncData} {N ps : List Str} {k : Nat} {sp : Sp}
    (F : Fun K x qual st f fd) (S : FnScope N ps (defScope st)) (hlen : ∀ vs H Q E, sp vs H Q E → vs.length = ps.length)
    (hb : ∀ (cdv : Value) (A : Around) (outer : List Env) (s : Shared) (H : Hp) (vs : List V) (Q : VK) (E : XK),
      A.guards = some [] → Room k (A.deeper (envOfC qual (defScope st) s.heap.objs.size f cdv)) → sp vs H Q E →
      ∃ t, PSs (cxOf CX0 P w K mg base N qual (defScope st) f cdv A outer s H E).nox (defBody st) t ∧
        t { nx := fun _ H' => Q .non H', rt := Q } (start N vs) H) :
    FnG P w K mg base CX0 (k + 1) f fd ps sp := by
  obtain ⟨oc, od, kV, doc, pm, an, cdv, ct, osl, rfl, lk, hcd⟩ := F.ex
  refine ⟨hlen, fun A outer s H args us vs Q E hg hr e0 hbd r hsp => ?_⟩
  refine LamX.run_ofS lk hcd S hr e0 hbd r (hlen _ _ _ _ hsp) fun hr' => ?_
  obtain ⟨t, h, q⟩ := hb cdv A outer s H vs Q E hg hr' hsp
  exact ⟨t, h.nox, q⟩
/-- a def by its body, which may raise -/
theorem okGX {x qual : Str} {st : Stmt} {f : Addr} {fd : FuncData} {N ps : List Str} {k : Nat} {sp : Sp}
    (F : Fun K x qual st f fd) (S : FnScope N ps (defScope st)) (hlen : ∀ vs H Q E, sp vs H Q E → vs.length = ps.length)
    (hb : ∀ (cdv : Value) (A : Around) (outer : List Env) (s : Shared) (H : Hp) (vs : List V) (Q : VK) (E : XK),
      A.guards = some [] → Room k (A.deeper (envOfC qual (defScope st) s.heap.objs.size f cdv)) → sp vs H Q E →
      ∃ t, PSs (cxOf (L2.CX P w) P w K mg base N qual (defScope st) f cdv A outer s H E) (defBody st) t ∧
        t { nx := fun _ H' => Q .non H', rt := Q } (start N vs) H) :
    FnG P w K mg base (L2.CX P w) (k + 1) f fd ps sp := by
  obtain ⟨oc, od, kV, doc, pm, an, cdv, ct, osl, rfl, lk, hcd⟩ := F.ex
  refine ⟨hlen, fun A outer s H args us vs Q E hg hr e0 hbd r hsp => ?_⟩
  refine LamX.run_ofS lk hcd S hr e0 hbd r (hlen _ _ _ _ hsp) fun hr' => ?_
  exact hb cdv A outer s H vs Q E hg hr' hsp
end

section
variable {X : Cx} {CX : CXT} {k : Nat} {f : Addr} {fd : FuncData} {ps : List Str} {sp : Sp} {dvs : List V} {ds : List Value} {E : XK}
/-- the guarded callee runs -/
theorem run_fnG {pins : List (Addr × Obj)} {σ : L2.St} {H : Hp} {s : Shared} {Q : VK} {us : List Value} {vs : List V}
    (F : FnG X.prog X.w X.K X.mg X.base CX k f fd ps sp) (hgd : X.A.guards = some []) (hr : Room k X.A)
    (hb : Binds X.K fd ps ds) (hd : Vals dvs ds) (hx : Passes CX X E) (I : Inv X pins σ H s) (r : Vals vs us)
    (h : sp (vs ++ dvs) H Q E) : wpAny (model X.prog X.w) X.A (call (.ref f) us) (EP X pins σ Q) X.xe s := by
  have rr := r.append hd
  have hl : (us ++ ds).length = ps.length := rr.length.symm.trans (F.lenG _ _ _ _ h)
  have run := F.runG X.A X.stack s H ⟨us, []⟩ (us ++ ds) (vs ++ dvs) Q E hgd hr I.env0 (hb s us I.kIn hl) rr h
  refine wpAny_call (codeAny_mono run fun res s' hq => ?_)
  match res, hq with
  | .error e, hq => exact hx pins σ H s e s' I hq
  | .ok (.ret u), hq => exact I.after hq
/-- f(e, ..), f a guarded def -/
theorem pe_callG {x : Str} {p pos : Pos} {e : Expr} {es : List Expr} {t : TA}
    (F : FnG X.prog X.w X.K X.mg X.base CX k f fd ps sp) (hgd : X.A.guards = some []) (hr : Room k X.A) (hg : Gl X x)
    (hm : X.mg x = some (.ref f)) (hk : PySem.W.keepIn X.K (.ref f) = true) (hb : Binds X.K fd ps ds) (hd : Vals dvs ds)
    (hx : Passes CX X E) (ha : PA X (e :: es) t) (hdb : (x == ("__debug__" : Str)) = false := by decide)
    (he : starEach (e :: es) X.env = (false, eval e X.env) :: starEach es X.env := by rfl)
    (hpl : (backTo pos (starEach es X.env)).any (·.1) = false := by rfl) :
    PE X (.Call (.Name x p) (e :: es) [] pos) (tCall sp dvs E t) := by
  constructor
  intro pins s σ H Q I h
  refine wpAny_Call_Name_kw (ld_glob I hg hm ?_ hdb)
  have step := thn (Q' := fun us s1 => X.K.In s1.heap ∧ wpAny (model X.prog X.w) X.A (call (.ref f) us) (EP X pins σ Q) X.xe s1)
    (ha.run pos pins s σ H _ I h) fun us s1 ⟨vs, H1, I1, r, q⟩ => ⟨I1.kIn, run_fnG F hgd hr hb hd hx I1 r q⟩
  exact PySem.W.callWith_K (h₀ := X.base) I.ok.mod.kin hk step he hpl
end

/-! ### repr -/
def rRepr (K : PySem.W.Frag) : List V → Hp → VK → Prop := fun xs H Q => ∃ x d, xs = [x] ∧ Dp K H x d ∧
  d.showable = true ∧ d.hasDict = false ∧ d.depth ≤ 60 ∧ d.shown.length ≤ sizeLine ∧ Q (.str d.shown) H
section
variable {X : Cx}
theorem call_repr (hg : X.A.guards = some []) (hu : X.A.units + 64 < cLine) : CallR X (.builtin "repr") (rRepr X.K) := by
  intro pins s σ H xs us Q I r h
  obtain ⟨x, d, rfl, hd, hsh, hnd, hdp, hz, q⟩ := h
  obtain ⟨u, rfl, ru⟩ := vals1 r
  obtain ⟨as, R⟩ := Dp.reads I d x u hd ru
  cases hd with
  | non =>
    cases (show u = Value.none from ru)
    exact PySem.P.repr_of_none ⟨.str _, H, I.tok _, ⟨_, rfl⟩, q⟩
  | bl b =>
    cases (show u = Value.bool b from ru)
    exact PySem.P.repr_of_bool ⟨.str _, H, I.tok _, ⟨_, rfl⟩, q⟩
  | int i =>
    obtain ⟨t, rfl⟩ := ru
    exact PySem.P.repr_of_int (of_decide_eq_true hsh) ⟨.str _, H, I.tok _, ⟨_, rfl⟩, q⟩
  | str y =>
    obtain ⟨t, rfl⟩ := ru
    exact PySem.P.repr_of_str ⟨.str _, H, I.tok _, ⟨_, rfl⟩, q⟩ hz
  | lst h1 h2 =>
    rename_i a ys ds
    cases (show u = Value.ref a from ru)
    exact repr_of_reads' R hsh (fun e => by rw [hnd] at e; cases e) hg (by omega) (fun _ _ e => e)
      (fun h' tk0 tk hk => ⟨.str _, H, I.kept hk, ⟨_, rfl⟩, q⟩) hz
  | tup h1 h2 =>
    rename_i a ys ds
    cases (show u = Value.ref a from ru)
    exact repr_of_reads' R hsh (fun e => by rw [hnd] at e; cases e) hg (by omega) (fun _ _ e => e)
      (fun h' tk0 tk hk => ⟨.str _, H, I.kept hk, ⟨_, rfl⟩, q⟩) hz
end
end NL
set_option maxRecDepth 100000
set_option maxHeartbeats 2000000
/-! The end of a law by a guarded promise. -/
namespace NL
open PySem PySem.Spec PyProof.Rows L2

/-- what is tracked at the entry: the script alone, if it is no object of the module -/
structure AtEntry (K : PySem.W.Frag) (a : Addr) (ob : Obj) (xs : List V) (H : Hp) : Prop where
  one : ∀ b u, H b = some u → b = a ∧ u = .frz ob (.lst xs)
  own : ∀ u, H a = some u → K.lookup a = none
  red : SqL K H a xs

theorem entry_mk {K : PySem.W.Frag} {h : Heap} {a : Addr} {us : List Value} {xs : List V} (KX : K.In h)
    (ha : h.get? a = some { cls := .type "list", data := .seq us.toArray }) (r : Vals xs us) (hz : us.length ≤ sizeLine) :
    ∃ H : Hp, AtEntry K a { cls := .type "list", data := .seq us.toArray } xs H := by
  cases hk : K.lookup a with
  | some o =>
    have e := (KX a o hk).symm.trans ha
    cases e
    exact ⟨fun _ => none, fun b u e => (nomatch e), fun u e => (nomatch e),
      .inr ⟨_, us.toArray, _, hk, rfl, rfl, rfl, by simpa using hz, by simpa using r⟩⟩
  | none =>
    refine ⟨fun b => if b = a then some (.frz { cls := .type "list", data := .seq us.toArray } (.lst xs)) else none,
      fun b u e => ?_, fun _ _ => hk, .inl (.inr ⟨_, if_pos rfl⟩)⟩
    by_cases hb : b = a
    · have e' := (if_pos hb).symm.trans e
      exact ⟨hb, (Option.some.inj e').symm⟩
    · have e' := (if_neg hb).symm.trans e
      cases e'

theorem call_law {P : Program} {w : World} {K : PySem.W.Frag} {mg mb : Str → Option Value} {CX : CXT} {k : Nat} {fa a : Addr}
    {fd : FuncData} {x : Str} {sp : Sp} {s₁ : Shared} {us : List Value} {ns : List Int}
    (KX : K.In s₁.heap) (hns : s₁.heap.Ns mainGlobals mg) (hb : s₁.heap.Ns builtinsNs mb)
    (hbb : ∀ x : Str, x ≠ "__name__" → mb x = bootBuiltins x) (hlim : s₁.heap.NoLimit) (hg : s₁.gens = #[])
    (ha : s₁.heap.get? a = some { cls := .type "list", data := .seq us.toArray }) (hi : IntsAre us ns)
    (hl : ns.length ≤ sizeLine) (hr : Room k callerA)
    (F : ∀ base : Heap, K.In base → base.Ns mainGlobals mg → FnG P w K mg base CX k fa fd [x] sp)
    (hbind : ∀ (s : Shared) (u : Value), BindsTo s fd ⟨[u], []⟩ [(x, u)])
    (hsp : ∀ H : Hp, SqL K H a (ns.map V.int) → sp [.ref a] H (fun v _ => v = .bl true) fun _ _ _ => False)
    (hCX : ∀ H e s', CX [] H s₁ (fun _ _ _ => False) e s' → False) :
    codeAny (model P w) callerA (.call (.ref fa) ⟨[.ref a], []⟩)
      (fun r s' => r = .ok (.ret (.bool true)) ∧ OldK s₁.heap s'.heap ∧ s'.os = s₁.os ∧ AllBare s'.gens) s₁ := by
  have rv := vals_ints hi
  have hlu : us.length ≤ sizeLine := by
    rw [← hi.length] at hl
    exact hl
  obtain ⟨H, E⟩ := entry_mk KX ha rv hlu
  have still : ∀ {b : Addr} {o : Obj}, s₁.heap.get? b = some o → H b = none → (hidT s₁.heap H).get? b = some o := fun e n => hidT_get e n
  have noDict : ∀ {b : Addr} {o : Obj} {es : Array DictEntry} {ep : Nat}, s₁.heap.get? b = some o → o.data = .dict es ep → H b = none := by
    intro b o es ep e d
    match hb : H b with
    | none => rfl
    | some u =>
      obtain ⟨rfl, _⟩ := E.one b u hb
      rw [ha] at e
      cases e
      cases (show Data.seq us.toArray _ = Data.dict es ep from d)
  have ns' : ∀ {b : Addr} {m : Str → Option Value}, s₁.heap.Ns b m → (hidT s₁.heap H).Ns b m := by
    intro b m q
    obtain ⟨o, es, ep, e, d, r⟩ := q
    exact ⟨o, es, ep, still e (noDict e d), d, r⟩
  have KB : K.In (hidT s₁.heap H) := by
    intro b o e
    refine still (KX b o e) ?_
    match hb : H b with
    | none => rfl
    | some u =>
      obtain ⟨rfl, _⟩ := E.one b u hb
      rw [E.own u hb] at e
      cases e
  have lim' : (hidT s₁.heap H).NoLimit := by
    obtain ⟨mc, h1, h2⟩ := hlim
    exact ⟨mc, ns' h1, h2⟩
  have hok : HOk P w H s₁.heap := by
    intro b u e
    obtain ⟨rfl, rfl⟩ := E.one b u e
    exact ⟨ha, by rw [List.length_map]; exact hl, us, _, rv, ha⟩
  have e0 : Env0 P w K mg (hidT s₁.heap H) callerA [] s₁ H :=
    { frames := rfl, mod := ⟨KB, ns' hns, ⟨mb, ns' hb, hbb⟩, lim'⟩, bs := fun b o e => of_hidT e,
      bsz := Nat.le_of_eq (hidT_size _ _), funs := trivial, frf := fun b z => absurd (show b ∈ ([] : List Addr) from z) (by simp),
      hok := hok, bare := .of_eq hg }
  have run := (F _ KB (ns' hns)).runG callerA [] s₁ H ⟨[.ref a], []⟩ [.ref a] [.ref a] (fun v _ => v = .bl true) (fun _ _ _ => False)
    rfl hr e0 (hbind s₁ (.ref a)) (.cons rfl .nil) (hsp H E.red)
  refine codeAny_mono run fun res s' hq => ?_
  match res, hq with
  | .error e, hq => exact (hCX H e s' hq).elim
  | .ok (.ret u), hq =>
    obtain ⟨v, H', os, bare, un, hok', r', q⟩ := hq
    subst q
    obtain rfl : u = Value.bool true := r'
    refine ⟨rfl, OldK.of_keep fun b o e => ?_, os, bare⟩
    match hb : H b with
    | none => exact un.keep b o e hb (fun z => absurd (show b ∈ ([] : List Addr) from z) (by simp)) (by simp)
    | some u =>
      obtain ⟨rfl, rfl⟩ := E.one b u hb
      obtain ⟨e1, _⟩ := hok b _ hb
      obtain ⟨e2, _⟩ := hok' b _ (un.frzs b _ _ hb)
      rw [e] at e1
      cases e1
      exact e2

/-- the goal that k_head leaves, from a guarded promise of the law's def -/
theorem walkG {l : PySem.W.OpenLaw} {n k : Nat} {q : Program} {loose : List Str} {XP : (Str → Option Value) → Heap → Prop}
    {YP : World → Heap → Prop} {d : DefRec} {K : Params → PySem.W.Frag} {CX : CXT} {sp : PySem.W.Frag → Sp} {x : Str}
    (hn : l.most = some n) (hn2 : n ≤ sizeLine) (hdf : d.params.defaults = []) (hr : Room k callerA)
    (hY : ∀ (w : World) (h : Heap), YP w h → (K w.params).In h)
    (F : ∀ (w : World) (mg : Str → Option Value) (fa : Addr) (h : Heap), (K w.params).In h → h.Ns mainGlobals mg → mg d.name = some (.ref fa) →
      ∃ fd : FuncData, (∀ (s : Shared) (u : Value), BindsTo s fd ⟨[u], []⟩ [(x, u)]) ∧
        ∀ base : Heap, (K w.params).In base → base.Ns mainGlobals mg → FnG l.prog w (K w.params) mg base CX k fa fd [x] (sp (K w.params)))
    (hsp : ∀ (K : PySem.W.Frag) (H : Hp) (a : Addr) (ns : List Int), ns.length ≤ n → SqL K H a (ns.map V.int) →
      sp K [.ref a] H (fun v _ => v = .bl true) fun _ _ _ => False)
    (hCX : ∀ (H : Hp) (s : Shared) (e : Value) (s' : Shared), CX [] H s (fun _ _ _ => False) e s' → False) :
    PySem.W.WalkO q loose XP YP l.row.toRowW d [] (fun f vs => PySem.call f vs) := by
  refine Att.attach_call hn hdf fun w s₀ s₁ mg mb fa o pm cd doc a vs ns G Y ho hd hcd hmg hobj hints hlen hg => ?_
  obtain ⟨fd, hb, hF⟩ := F w mg fa _ (hY w _ Y) G.T.g hmg
  exact call_law (hY w _ Y) G.T.g G.T.b G.T.builtins G.T.nolimit hg hobj hints (Nat.le_trans hlen hn2) hr hF hb
    (fun H hS => hsp _ H a ns hlen hS) fun H e s' => hCX H s₁ e s'
end NL
set_option maxRecDepth 100000
set_option maxHeartbeats 4000000
/-! Own errors whose __init__ says super().__init__(text) and, mostly, self.at = at. -/
namespace NL
open PySem PySem.Spec PyProof.Rows PySem.W PySem.Calls

/-- super().__init__, bound, called with some text -/
theorem ve_bound {prog : Program} {w : World} {A : Around} {E : Value → Shared → Prop} {h : Heap} {g : Array GenState} {d : Drawn} {t : Nat} {os : OsState}
    {nm q : Str} {C N : Addr} {bs bm : List Value} {hdct : Bool} {sn : List Str} {sub : List Value} {ab : Bool} {col : Option Bool} {dd : Option Addr} {k0 k1 k2 k3 k5 : Option Value}
    {u e t0 : Addr} {rest : List Value} {Q : Value → Shared → Prop}
    (hC : h.get? C = some (excClassObj nm q C N bs bm hdct sn sub ab col dd k0 k1 k2 k3 k5 "ValueError.__new__"))
    (he : h.get? e = some (excObj C t0 none .none)) (hu : h.get? u = some (kxs_mw "ValueError.__init__" e)) (hz : rest.length ≤ sizeLine)
    (hq : ∀ h' t1, (∀ b o, b ≠ e → h.get? b = some o → h'.get? b = some o) → h'.get? e = some (excObj C t1 none .none) → Q .none ⟨h', g, d, t, os⟩) :
    wpAny (model prog w) A (call (.ref u) rest) Q E ⟨h, g, d, t, os⟩ := by
  have tests : (Value.type "method-wrapper" == Value.type "method" || Value.type "method-wrapper" == Value.type "builtin_function_or_method" ||
      Value.type "method-wrapper" == Value.type "method-wrapper") = true := by decide
  refine wpAny_call (codeAny_of_tree ?_)
  show wpAny _ A.in1 (callAny (.ref u) ⟨rest, []⟩) _ _ _
  simp only [callAny]
  refine wpAny_bind (wpAny_load hu ?_)
  simp only [kxs_mw, tests, if_true]
  refine KFB.if_so (by decide) ?_
  have FB := F.excBase_ValueError
  refine wpAny_bind (check_bound_init FB.toExcCallFacts hC he rfl ?_)
  refine wpAny_bind (wpAny_pure (wpAny_pure ?_))
  refine ⟨plainId_quiet FB.init.plain _, codeAny_builtin FB.initEntry ?_⟩
  refine exc_init_tree (cls := .ref C) (t0 := t0) (dv := none) (c2 := .none) (c3 := .none) (b4 := .bool false) he hz ?_
  intro h' k e1 _
  exact hq h' _ k e1

/-- the names of __init__(self, at) | __init__(self) -/
abbrev atScope : Scope := { kind := .function, names := [(PySem.Str.ofString "self", .local), (PySem.Str.ofString "at", .local),
  (PySem.Str.ofString "__class__", .free), (PySem.Str.ofString "super", .globalImplicit)], isGenerator := false, isCoroutine := false, more := [] }
abbrev noScope : Scope := { kind := .function, names := [(PySem.Str.ofString "self", .local),
  (PySem.Str.ofString "__class__", .free), (PySem.Str.ofString "super", .globalImplicit)], isGenerator := false, isCoroutine := false, more := [] }
/-- how super().__init__(text) is read, at its places -/
def SuperCall (msg : Str) (j : Nat) (p0 p1 p2 p3 p4 : Pos) : Prop := ∀ env : Env, ∃ pl : Sem Bool,
  eval (.Call (.Attribute (.Call (.Name "super" p0) [] [] p1) "__init__" p2) [.Constant (.str msg) j p3] [] p4) env = (do
    let ov ← attributeBase (.Call (.Name "super" p0) [] [] p1) "__init__" env (eval (.Call (.Name "super" p0) [] [] p1) env)
    standAt p2.atName
    let (f, first) ← holding [ov] (getMethod ov "__init__" pl)
    callWith p4 f first (backTo p4 (starEach [.Constant (.str msg) j p3] env)) [])
example : SuperCall "invalid question" 0 ⟨7, 8, 7, 13⟩ ⟨7, 8, 7, 15⟩ ⟨7, 8, 7, 24⟩ ⟨7, 25, 7, 43⟩ ⟨7, 8, 7, 44⟩ := fun _ => ⟨_, rfl⟩
/-- what the written part says of an error's class at C, its __init__ at fI, the cell of __class__ at cc, the code at cda -/
structure ErrF (P : Program) (K : Frag) (C fI cc cda : Addr) (qual : Str) (params : Arguments) (body : List Stmt) (scope : Scope) : Prop where
  ox : L2.OexC K C
  iC : findIn K (.ref C) "__init__" = some (some (.ref fI))
  tI : typeIn K (.ref fI) = some (.type "function")
  fn : ∃ oc od doc pm an ct osl, K.lookup fI = some ⟨oc, od, .func (ksFn "__init__" qual params body scope .none .none doc pm an (.ref cda) ct cc), osl⟩
  cd : codeIn K (.ref cda) qual = true
  fl : ∃ ccl cdd vs ccs file tf, K.lookup cda = some ⟨ccl, cdd, .fields vs, ccs⟩ ∧ vs[2]? = some (.str file tf) ∧ ((P.main.file : Str) == file) = true
  ce : ∃ cl cld csl, K.lookup cc = some ⟨cl, cld, .cell (some (.ref C)), csl⟩
  sub : mroIn K C (.ref C) = some true
  sup : nsIn K mainGlobals "super" = some none
  any : nsIn K cStatics "thirdparty.any" = some none
  si : ks_superIn K C C "__init__" = some (some (.builtin "ValueError.__init__"))
  sv : subIn K (.ref C) (.type "ValueError") = some true
  top : (P.main.scope.names.lookup ("super" : Str)).isSome = false

section
variable {P : Program} {w : World} {A : Around} {E : Value → Shared → Prop} {s : Shared} {K : Frag} {C fI cc cda : Addr} {qual : Str} {params : Arguments} {body : List Stmt} {scope : Scope} {mg : Str → Option Value}

theorem exprConst {M : Model} {env : Env} {x : Str} {j : Nat} {p pos : Pos} {Q : List Value → Shared → Prop} (h : ∀ t, Q [.str x t] { s with toks := s.toks + 1 }) :
    wpAny M A (spliced (backTo pos (starEach [.Constant (.str x) j p] env))) Q E s := by
  refine Calls.spliced_cons (wpAny_Constant_str (k := j) (pos := p) ?_)
  exact Calls.spliced_nil (h s.toks)

/-- the statement super().__init__(text) in the __init__ of a new error at x -/
theorem super_init {L x t0 : Addr} {m : Str → Option Value} {mb : Str → Option Value} {ar : Arg} {msg : Str} {j : Nat} {p0 p1 p2 p3 p4 p5 : Pos} {Q : Flow → Shared → Prop}
    (T : ErrF P K C fI cc cda qual params body scope) (X : K.In s.heap) (hns : s.heap.Ns L m) (hmx : m ar.arg = some (.ref x))
    (hg : s.heap.Ns mainGlobals mg) (hmg : mg "super" = none) (hb : s.heap.Ns builtinsNs mb) (hbb : mb "super" = bootBuiltins "super")
    (hx : s.heap.get? x = some (excObj C t0 none .none))
    (hp : (params.posonlyargs ++ params.args).head? = some ar) (hsc : (scope = atScope ∨ scope = noScope) ∧ ar.arg = "self")
    (he : SuperCall msg j p0 p1 p2 p3 p4)
    (hq : ∀ h' tk t1, (∀ b o, b ≠ x → s.heap.get? b = some o → h'.get? b = some o) → h'.get? x = some (excObj C t1 none .none) → Q .next { s with heap := h', toks := tk }) :
    PySem.wpAt (model P w) A (.func body (ksEnv qual scope L fI (.ref cda) cc))
      (exec (.Expr (.Call (.Attribute (.Call (.Name "super" p0) [] [] p1) "__init__" p2) [.Constant (.str msg) j p3] [] p4) p5) (ksEnv qual scope L fI (.ref cda) cc)) Q E s := by
  have hk : scope.kind = .function := by rcases hsc.1 with rfl | rfl <;> rfl
  have hka : scope.names.lookup ar.arg = some .local := by rw [hsc.2]; rcases hsc.1 with rfl | rfl <;> rfl
  have hks : scope.names.lookup ("super" : Str) = some .globalImplicit := by rcases hsc.1 with rfl | rfl <;> rfl
  have hkc : scope.names.lookup ("__class__" : Str) = some .free := by rcases hsc.1 with rfl | rfl <;> rfl
  obtain ⟨oc, od, doc, pm, an, ct, osl, hf⟩ := T.fn
  obtain ⟨ccl, cdd, vs, ccs, file, tf, hcode, hvs, hfile⟩ := T.fl
  obtain ⟨cl, cld, csl, hcell⟩ := T.ce
  obtain ⟨nm, q, N, bs, bm, sn, sub, ab, col, dd, k0, k1, k2, k3, k5, hC, hbm⟩ := T.ox.cls
  have hcl : clsIn K C = some { name := nm, bases := bs, mro := .ref C :: bm, ns := N, qualname := q, hasDict := true, slotNames := sn, subclasses := sub, abstract := ab, collection := col, hasDel := false } := by
    unfold clsIn
    rw [hC]
    all_goals rfl
  obtain ⟨hh, g, d, t, os⟩ := s
  have hCo := X _ _ hC
  have IA : InstAt hh x (excObj C t0 none .none) C none := ⟨hx, rfl, rfl, trivial⟩
  have hxC : x ≠ C := ks_ne X IA hcl
  obtain ⟨pl, he⟩ := he (ksEnv qual scope L fI (.ref cda) cc)
  refine ks_wpAt_Expr_any (hi := by rcases hsc.1 with rfl | rfl <;> rfl) (hs := by rcases hsc.1 with rfl | rfl <;> rfl) (ks_wpAt_MethodCall (he := he) (ks_wpAt_super_base (env := ksEnv qual scope L fI (.ref cda) cc) hks hkc (by decide) rfl (X _ _ hf) rfl hp rfl (X _ _ hcode) rfl hvs hfile T.top ?_))
  refine ks_loadName_global hk hks (loadGlobal_builtin (env := ksEnv qual scope L fI (.ref cda) cc) hg hmg hb (hbb.trans (by decide +kernel : bootBuiltins "super" = some (.type "super"))) ⟨rfl, ?_⟩)
  refine wpAny_loadName_free hk hkc rfl ⟨_, X _ _ hcell, rfl⟩ ?_
  refine wpAny_loadName_local hk hka hns hmx ?_
  refine ks_wpAny_isType_cls hCo rfl ⟨rfl, ?_⟩
  refine ks_wpAny_call_super hCo rfl hx rfl (fun c e => by cases e) (looks_mroIn X T.sub) (fun h' e k => ?_)
  have X' : K.In h' := X.keeps k
  have hsi := T.si
  unfold ks_superIn at hsi
  rw [hcl] at hsi
  have hx' := k _ _ hx
  have IA' : InstAt h' x (excObj C t0 none .none) C none := ⟨hx', rfl, rfl, trivial⟩
  have hI : Looks (model P w) h' (isInstance (.ref x) (.type "ValueError")) true := IA'.type.andThen (looks_subIn X' T.sv)
  refine kxs_getMethod kxs_ValueError e (looks_opaque X' T.any) (l₀ := .ref C :: bm) ?_ rfl X' hsi hI hxC (by decide) ?_
  · exact fun A Q E s k q => wpAny_bind ((looks_clsIn X' hcl) A _ E s k (wpAny_pure q))
  have hm : (h'.push (kxs_mw "ValueError.__init__" x)).get? h'.objs.size = some (kxs_mw "ValueError.__init__" x) := Heap.get?_push_at rfl rfl
  have kk : ∀ b o, hh.get? b = some o → (h'.push (kxs_mw "ValueError.__init__" x)).get? b = some o := fun b o z => Heap.get?_push_of_some _ (k _ _ z)
  show wpAny _ _ (callWith _ (.ref h'.objs.size) [] _ []) _ _ _
  refine kxs_callWith (i := "ValueError.__init__") (x := x) rfl ?_
  refine evalArgs_plain (exprConst fun tk => ⟨hm, ?_⟩)
  refine ve_bound (kk _ _ hCo) (kk _ _ hx) hm (by rw [sizeLine_eq]; show 1 ≤ 16777216; decide) fun h2 t1 k2 e2 => ?_
  exact hq h2 _ t1 (fun b o hb z => k2 b o hb (kk b o z)) e2
end
end NL
namespace NL
open PySem PySem.Spec PyProof.Rows L2
/-- __init__(self, at): the new error bears at -/
def spErr (C : Addr) : Sp := fun vs H Q _ => ∃ (a : Addr) (v : V), vs = [.ref a, v] ∧ H a = some (exo a C none) ∧
  ∀ d, H d = none → d ≠ a → Q .non (upd (upd H d (exd d [("at", v)])) a (exo a C (some d)))

theorem exo_eq {a C t : Addr} : PySem.W.excObj C t none .none = { cls := .ref C, dict := none, data := .fields #[.ref t, .none, .none, .none, .bool false, .none] } := rfl

section
variable {P : Program} {w : World} {K : PySem.W.Frag} {mg : Str → Option Value} {base : Heap} {C fI cc cda : Addr} {qual : Str} {params : Arguments} {fd : FuncData}
open PySem.W in
theorem err_init {k j : Nat} {ar : Arg} {msg : Str} {p0 p1 p2 p3 p4 p5 q1 q2 q3 q4 : Pos}
    (T : ErrF P K C fI cc cda qual params [.Expr (.Call (.Attribute (.Call (.Name "super" p0) [] [] p1) "__init__" p2) [.Constant (.str msg) j p3] [] p4) p5,
      .Assign [.Attribute (.Name "self" q1) "at" q2] (.Name "at" q3) q4] atScope)
    (hfd : ∃ doc pm an ct, fd = ksFn "__init__" qual params [.Expr (.Call (.Attribute (.Call (.Name "super" p0) [] [] p1) "__init__" p2) [.Constant (.str msg) j p3] [] p4) p5,
      .Assign [.Attribute (.Name "self" q1) "at" q2] (.Name "at" q3) q4] atScope .none .none doc pm an (.ref cda) ct cc ∧
      ∃ oc od osl, K.lookup fI = some ⟨oc, od, .func fd, osl⟩)
    (hp : (params.posonlyargs ++ params.args).head? = some ar) (har : ar.arg = "self")
    (he : SuperCall msg j p0 p1 p2 p3 p4) (noAt : findIn K (.ref C) "at" = some none) :
    FnOk P w K mg base CX0 (k + 1) fI fd ["self", "at"] (spErr C) := by
  obtain ⟨doc, pm, an, ct, rfl, oc, od, osl, hf⟩ := hfd
  refine ⟨fun vs H Q E h => ?_, fun A outer s H args us vs Q E hr e0 hb r hsp => ?_⟩
  · obtain ⟨a, v, rfl, _⟩ := h
    rfl
  obtain ⟨x, v, rfl, hx0, hq⟩ := hsp
  cases r with
  | cons r1 r2 =>
  rename_i u1 us1
  cases r2 with
  | cons r2 r3 =>
  rename_i u us2
  cases r3
  obtain rfl : u1 = Value.ref x := r1
  have KX : K.In s.heap := e0.mod.kin.keeps fun b o e => (e0.bs b o e).1
  have lim : s.heap.NoLimit := e0.mod.nolimit.keeps fun b o e => (e0.bs b o e).1
  have kb : ∀ {b m}, base.Ns b m → s.heap.Ns b m := fun {b m} q => q.keeps fun b o e => (e0.bs b o e).1
  obtain ⟨mb, hmb, hbb⟩ := e0.mod.blt
  obtain ⟨t0, hx⟩ := exo_at e0.hok hx0
  obtain ⟨nm, q, N, bs, bm, sn, sub, ab, col, dd, k0, k1, k2, k3, k5, hC, hbm⟩ := T.ox.cls
  have hcl : clsIn K C = some { name := nm, bases := bs, mro := .ref C :: bm, ns := N, qualname := q, hasDict := true, slotNames := sn, subclasses := sub, abstract := ab, collection := col, hasDel := false } := by
    unfold clsIn
    rw [hC]
    all_goals rfl
  refine ks_codeAny_call_defAt (binds := [("self", Value.ref x), ("at", u)]) hr.depth (KX _ _ hf) rfl lim (codeRec_of KX T.cd) rfl hb (show ∀ y ∈ atScope.names, y.2 ≠ .cell by decide)
    (fun y hy => by rcases List.mem_cons.mp hy with rfl | hy; · rfl
                    · rcases List.mem_cons.mp hy with rfl | hy; · rfl
                      · cases hy) (fun h₀ hns kp => ?_)
  have hxL : s.heap.objs.size ≠ x := Nat.ne_of_gt (Heap.lt_size hx)
  refine ks_wpAt_execs_cons (super_init (mg := mg) (mb := mb) T (KX.keeps kp) hns (by rw [har]; rfl) ((kb e0.mod.glob).keeps kp) (mg_none_of e0.mod.kin e0.mod.glob T.sup)
    ((kb hmb).keeps kp) (hbb _ (by decide)) (kp _ _ hx) hp ⟨.inl rfl, har⟩ he fun h1 tk t1 kq hx1 => ?_)
  show PySem.wpAt _ _ _ (execs _ _) _ _ _
  refine wpAt_of_wpAny (wpAny_execs_cons (plainObj_wpAny_Assign_Attribute ?_ (by rfl)))
  have hn1 : h1.Ns s.heap.objs.size (fun y => ([("self", Value.ref x), ("at", u)] : List (Str × Value)).reverse.lookup y) := by
    obtain ⟨oL, es, ep, hL, rr⟩ := hns
    exact ⟨oL, es, ep, kq _ _ hxL hL, rr⟩
  refine wpAny_Name (wpAny_loadName_local (v := u) rfl rfl hn1 rfl ?_) (by decide)
  refine wpAny_Name (wpAny_loadName_local (v := .ref x) rfl rfl hn1 rfl ?_) (by decide)
  have k1' : ∀ b o, b ≠ x → s.heap.get? b = some o → h1.get? b = some o := fun b o hb z => kq b o hb (kp b o z)
  have X1 : K.In h1 := fun b o z => by
    refine k1' b o ?_ (KX b o z)
    rintro rfl
    rw [e0.mod.kin b o z |> e0.bs b o |>.2] at hx0
    cases hx0
  refine set_plain X1 (ox := excObj C t1 none .none) (od := none) ⟨hx1, rfl, rfl, trivial⟩ T.ox.sa ?_
  refine PySem.HandSPX.exc_osa X1 hx1 hcl (show PySem.HandSPX.refsVE (.ref C :: bm) = true from hbm) rfl noAt (fun h3 tk3 dx k3 dn dne hx3 hn3 => ?_)
  refine wpAny_execs_nil ?_
  have keep : ∀ b o, b ≠ x → s.heap.get? b = some o → h3.get? b = some o := fun b o hb z => k3 b o hb (k1' b o hb z)
  have nx : ∀ {b : Addr}, H b = none → b ≠ x := fun {b} n z => by
    rw [z, hx0] at n
    cases n
  have ltd : ∀ {b : Addr} {o : Obj}, b ≠ x → s.heap.get? b = some o → b ≠ dx := fun {b o} hb z => Nat.ne_of_lt (Nat.lt_of_lt_of_le (Heap.lt_size (k1' b o hb z)) dn)
  have big : s.heap.objs.size < dx := Nat.lt_of_lt_of_le hn1.lt dn
  have hd : H dx = none := e0.hok.fresh (Nat.le_of_lt big)
  refine ⟨.non, _, rfl, e0.bare, ⟨fun b o z n _ _ => keep b o (nx n) z, fun b o z n _ _ => ⟨o.slots, keep b o (nx n) z⟩, fun b o z n _ => ?_, fun b o z _ => ?_,
    fun b xs z => ?_, fun b o v z => ?_, fun b ps z => ⟨#[], ?_⟩⟩, ?_, rfl, hq dx hd dne⟩
  · rw [upd_ne (nx n), upd_ne (ltd (nx n) z)]
    exact n
  · by_cases hb : b = x
    · exact ⟨_, by rw [hb]; exact hx3⟩
    · exact ⟨o, keep b o hb z⟩
  · rw [upd_ne (at_ne hx0 z exo_tup), upd_ne (ne_of_none z hd)]
    exact z
  · rw [upd_ne (at_ne hx0 z exo_frz), upd_ne (ne_of_none z hd)]
    exact z
  · rw [upd_ne (at_ne hx0 z exo_tbl), upd_ne (ne_of_none z hd), z]
    simp
  · intro b o z
    by_cases hb : b = x
    · subst hb
      rw [upd_same] at z
      cases z
      exact exo_ok hx3
    · rw [upd_ne hb] at z
      by_cases hbd : b = dx
      · subst hbd
        rw [upd_same] at z
        cases z
        exact exd_ok hn3 (relO_put (fs := []) r2 fun g => True.intro)
      · rw [upd_ne hbd] at z
        refine (e0.hok b o z).stay (fun c y hc zz => keep c y ?_ zz) (fun c hc => ?_) fun c xs hc => ?_
        · rcases hc with rfl | hc
          · exact hb
          · exact at_ne hx0 hc exo_own
        · rw [upd_ne (at_ne hx0 hc exo_own), upd_ne (ne_of_none hc hd)]
          exact hc
        · rw [upd_ne (at_ne hx0 hc exo_tup), upd_ne (ne_of_none hc hd)]
          exact hc
end
end NL
set_option maxRecDepth 100000
set_option maxHeartbeats 4000000
/-! Own errors raised, heard, looked at. -/
namespace NL
open PySem PySem.Spec PyProof.Rows L2

/-- an error's class as the def's of the text see it: its name x, its address C -/
structure ErrK (P : Program) (K : PySem.W.Frag) (mg : Str → Option Value) (x : Str) (C : Addr) : Prop where
  gC : mg x = some (.ref C)
  ox : OexC K C
  ini : ∃ fI fd, PySem.W.findIn K (.ref C) "__init__" = some (some (.ref fI)) ∧ PySem.W.typeIn K (.ref fI) = some (.type "function") ∧
    Binds K fd ["self", "at"] [] ∧ ∀ (w : World) (base : Heap), FnOk P w K mg base CX0 1 fI fd ["self", "at"] (spErr C)
  ec : ExcC K C
  noAt : PySem.W.findIn K (.ref C) "at" = some none
  te : PySem.W.exmOne K (.ref C) (.ref C) = some true

/-- X(e), the new error: it bears the value of e -/
def tMkErr (C : Addr) (ta : TA) : L2.St → Hp → XK → Prop := fun σ H Q => ta σ H fun vs H1 => ∃ v, vs = [v] ∧
  ∀ d, H1 d = none → Q (.ref C) (some d) (upd H1 d (.xd [("at", v)]))
section
variable {X : Cx} {x : Str} {C : Addr} {e : Expr} {ta : TA} {p pos : Pos}
theorem err_heap {H : Hp} {a d : Addr} {o1 o2 o3 o4 : HO} (ha : H a = none) (hd : H d = none) (ne : d ≠ a) :
    upd (L2.del (upd (upd (upd H a o1) d o2) a o3) a) d o4 = upd H d o4 := by
  funext b
  by_cases hbd : b = d
  · subst hbd
    rw [upd_same, upd_same]
  · rw [upd_ne hbd, upd_ne hbd]
    by_cases hba : b = a
    · subst hba
      rw [del_same, ha]
    · rw [del_ne hba, upd_ne hba, upd_ne hbd, upd_ne hba]
theorem pmk_err (T : ErrK X.prog X.K X.mg x C) (hr : Room 2 X.A) (ha : PA X [e] ta) (hg : Gl X x := by rfl)
    (hdb : (x == ("__debug__" : Str)) = false := by decide) (he : starEach [e] X.env = (false, eval e X.env) :: starEach [] X.env := by rfl)
    (hpl : (backTo pos (starEach [] X.env)).any (·.1) = false := by rfl) : PMk X (.Call (.Name x p) [e] [] pos) (tMkErr C ta) := by
  obtain ⟨fI, fd, i1, i2, i3, i4⟩ := T.ini
  intro pins s σ H Q I h
  have ha' : PA X [e] (fun σ H Q => ∃ Q0 : List V → Hp → Prop, ta σ H Q0 ∧ ∀ vs H1, Q0 vs H1 → Q vs H1) := by
    constructor
    intro pos pins s σ H Q I h
    obtain ⟨Q0, h, k⟩ := h
    exact thn (ha.run pos pins s σ H Q0 I h) fun us s1 ⟨vs, H1, I1, r, q⟩ => ⟨vs, H1, I1, r, k _ _ q⟩
  refine pmk_oex (x := x) (p := p) (pos := pos) (dvs := []) (ds := []) T.ox i1 i2 (i4 X.w X.base) hr i3 .nil pass0 hg T.gC ha' hdb he hpl pins s σ H Q I ?_
  refine ⟨_, h, fun vs H1 q => ?_⟩
  obtain ⟨v, rfl, q⟩ := q
  refine ⟨(show 1 ≤ 1000 by decide), fun a na => ?_⟩
  refine ⟨a, v, rfl, upd_same, fun d hd ne => ⟨rfl, d, [(("at" : Str), v)], upd_same, ?_, ?_, ?_⟩⟩
  · rw [upd_ne ne, upd_same]
  · rw [upd_ne ne] at hd
    exact hd
  · rw [upd_ne ne] at hd
    rw [err_heap na hd ne]
    exact q d hd
end

/-! ### in the suite that holds the error -/
def rIsErr (K : PySem.W.Frag) (a : Addr) (cls : Value) (d : Option Addr) : List V → Hp → VK → Prop := fun xs H Q =>
  ∃ (C : Addr) (c : V) (cv : Value) (b : Bool), xs = [.ref a, c] ∧ cls = .ref C ∧ ExcC K C ∧ (∀ u, RelV c u → u = cv) ∧
    PySem.W.kitOne K (.ref C) cv = some b ∧ (d = none ∨ ∃ dd fs, d = some dd ∧ H dd = some (.xd fs)) ∧ Q (.bl b) H
section
variable {X : Cx} {a : Addr} {cls : Value} {d : Option Addr} {oe : Obj} {pn : List (Addr × Obj)}
/-- the error as an instance -/
theorem err_inst {pins : List (Addr × Obj)} {σ : L2.St} {H : Hp} {s : Shared} {C : Addr} (hz : Zc cls d oe) (hf : ∃ vs, oe.data = .fields vs)
    (I : Inv (X.suite a ((a, oe) :: pn)) pins σ H s) (hc : cls = .ref C) (hd : d = none ∨ ∃ dd fs, d = some dd ∧ H dd = some (.xd fs)) :
    ∃ od, PySem.W.InstAt s.heap a oe C od := by
  obtain ⟨hget, _⟩ := I.pin (a, oe) (List.mem_append.mpr (.inl List.mem_cons_self))
  obtain ⟨vs, hv⟩ := hf
  obtain ⟨oc, od, oda, osl⟩ := oe
  obtain ⟨h1, h2⟩ := hz
  dsimp only at h1 h2 hv
  subst h1 h2 hv
  rcases hd with rfl | ⟨dd, fs, rfl, hdd⟩
  · exact ⟨none, hget, hc, rfl, trivial⟩
  · obtain ⟨mA, ⟨od, es, ep, ho, _⟩, _⟩ := (show ObjOk X.prog X.w H s.heap dd (.xd fs) from I.hok dd _ hdd)
    exact ⟨some od, hget, hc, rfl, ho⟩
theorem call_isErr (hz : Zc cls d oe) (hf : ∃ vs, oe.data = .fields vs) :
    CallR (X.suite a ((a, oe) :: pn)) (.builtin "isinstance") (rIsErr X.K a cls d) := by
  intro pins s σ H xs us Q I r h
  obtain ⟨C, c, cv, b, rfl, hc, EC, hcv, e, hd, q⟩ := h
  match us, r with
  | [u1, u2], .cons rx (.cons rt .nil) =>
    cases (show u1 = Value.ref a from rx)
    obtain rfl := hcv _ rt
    obtain ⟨od, J⟩ := err_inst hz hf I hc hd
    obtain ⟨cd, hcl, _⟩ := PySem.W.any_some EC.hd
    exact PySem.W.kia_one (PySem.W.kitx_exc (by rw [hcl]; rfl) EC.hg EC.hk EC.hs EC.ha EC.hn EC.ht EC.hm) I.kIn J e
      (fun z => nomatch z) fun tk => ⟨.bl b, H, I.kept (t' := tk) fun _ _ z => z, rfl, q⟩
/-- e.at, e the error that the suite holds -/
def tAt (K : PySem.W.Frag) (a : Addr) (cls : Value) (d : Option Addr) (te : TE) : TE := fun σ H Q => te σ H fun x H1 => x = .ref a ∧
  ∃ (C dd : Addr) (v : V), cls = .ref C ∧ d = some dd ∧ ExcC K C ∧ PySem.W.findIn K (.ref C) "at" = some none ∧ H1 dd = some (.xd [("at", v)]) ∧ Q v H1
theorem pe_at {e : Expr} {te : TE} {pos : Pos} (hz : Zc cls d oe) (hf : ∃ vs, oe.data = .fields vs) (he : PE (X.suite a ((a, oe) :: pn)) e te)
    (hb : attributeBase e "at" X.env (eval e X.env) = eval e X.env := by rfl) :
    PE (X.suite a ((a, oe) :: pn)) (.Attribute e "at" pos) (tAt X.K a cls d te) := by
  constructor
  intro pins s σ H Q I h
  refine attr_of hb (thn (he.run pins s σ H _ I h) fun u s1 hh => ?_)
  obtain ⟨x, H1, I1, rx, ex, C, dd, v, ec, ed, EC, noAt, ea, q⟩ := hh
  subst ex
  cases (show u = Value.ref a from rx)
  obtain ⟨mA, hns, hr⟩ := (show ObjOk X.prog X.w H1 s1.heap dd (.xd [(("at" : Str), v)]) from I1.hok dd _ ea)
  obtain ⟨od, ho, hl⟩ := lookIn_ns hns
  have l : List.lookup ("at" : Str) [(("at" : Str), v)] = some v := by simp [List.lookup]
  obtain ⟨u, hu, ru⟩ := RelO.some_of (v := v) (o := mA "at") (by rw [← l]; exact hr "at")
  obtain ⟨vs, hd⟩ := hf
  obtain ⟨ha, _⟩ := I1.pin (a, oe) (List.mem_append_left _ List.mem_cons_self)
  have J : PySem.W.InstAt s1.heap a oe C (some od) :=
    ⟨ha, hz.1.trans ec, by unfold PySem.W.notCls; rw [hd] <;> rfl, by rw [hz.2, ed]; exact ho⟩
  refine HandSPX.exc_get I1.kIn J EC.hg EC.hk EC.hs (PySem.W.findObj_own EC.hd noAt rfl (by rw [hl, hu])) (handed_of ru) ?_
  exact ⟨v, H1, I1.tok _, ru, q⟩
end
end NL
set_option maxRecDepth 100000
set_option maxHeartbeats 2000000
/-! Operators by all the kinds of their operands; readings step by step. -/
namespace NL
open PySem PySem.Spec PyProof.Rows L2

/-! ### one rule an operator -/
def aAdd (K : PySem.W.Frag) : R2 := fun x y H Q => rI0 (fun i j => .int (i + j)) x y H Q ∨ rCatA K x y H Q ∨ rCat x y H Q
def aMul : R2 := rI CMulW fun i j => .int (i * j)
def aMod : R2 := rI (fun _ j => j ≠ 0) fun i j => .int (i.fmod j)
/-- // by any divisor but 0 below 2 ^ 9000 -/
def CDivA (_ j : Int) : Prop := j ≠ 0 ∧ j.natAbs.log2 < 9000
def aDiv : R2 := rI CDivA fun i j => .int (i.fdiv j)
def aPow : R2 := rI CPow fun i j => .int (i ^ j.toNat)
def aEq (K : PySem.W.Frag) : R2 := fun x y H Q => rEq x y H Q ∨ rEqD K x y H Q
def aNe (K : PySem.W.Frag) : R2 := fun x y H Q => rNe x y H Q ∨ rNeD K x y H Q
def aIs : R2 := fun x y H Q => rIsB x y H Q ∨ (y = .non ∧ Q (.bl (decide (x = .non))) H)
def aNis : R2 := fun x y H Q => rNotB x y H Q ∨ (y = .non ∧ Q (.bl (!decide (x = .non))) H)
def aIn (K : PySem.W.Frag) : R2 := rInD K
def aNin (K : PySem.W.Frag) : R2 := rNotInD K
section
variable {X : Cx}
theorem oAdd : OpR X (binaryOp .Add) (aAdd X.K) := OpR.or op_add (OpR.or op_catA op_cat)
theorem oMul : OpR X (binaryOp .Mult) aMul := op_mulW
theorem oMod : OpR X (binaryOp .Mod) aMod := op_modN
theorem oDiv : OpR X (binaryOp .FloorDiv) aDiv := opI fun i j _ _ _ _ _ hc q => floordiv_int hc.1 q (.inl (PyProof.noPylong_of_log2 hc.2))
theorem oPow : OpR X (binaryOp .Pow) aPow := op_pow
theorem oEq (hu : X.A.units + 64 < cLine) : OpR X (compareOp .Eq) (aEq X.K) := OpR.or op_eq (op_eqD hu)
theorem oNe (hu : X.A.units + 64 < cLine) : OpR X (compareOp .NotEq) (aNe X.K) := OpR.or op_ne (op_neD hu)
theorem oIs : OpR X (compareOp .Is) aIs := OpR.or op_isBl op_isN
theorem oNis : OpR X (compareOp .IsNot) aNis := OpR.or op_notBl op_notN
theorem oIn (hu : X.A.units + 65 < cLine) : OpR X (compareOp .In) (aIn X.K) := op_inD hu
theorem oNin (hu : X.A.units + 65 < cLine) : OpR X (compareOp .NotIn) (aNin X.K) := op_notInD hu
end
def aLen (K : PySem.W.Frag) : List V → Hp → VK → Prop := fun xs H Q => ∃ p ys, xs = [.ref p] ∧ (SqL K H p ys ∨ SqT K H p ys) ∧ Q (.int ys.length) H
def aTuple (K : PySem.W.Frag) : List V → Hp → VK → Prop := fun xs H Q => ∃ p ys, xs = [.ref p] ∧
  ((SqL K H p ys ∧ ∀ l, H l = none → Q (.ref l) (upd H l (.tup ys))) ∨ (SqT K H p ys ∧ Q (.ref p) H))
def aList (K : PySem.W.Frag) : List V → Hp → VK → Prop := fun xs H Q => ∃ p ys, xs = [.ref p] ∧ (SqL K H p ys ∨ SqT K H p ys) ∧
  ∀ l, H l = none → Q (.ref l) (upd H l (.lst ys))
def aAbs : List V → Hp → VK → Prop := fun xs H Q => ∃ i, xs = [.int i] ∧ Q (.int (if i < 0 then -i else i)) H
def aInt : List V → Hp → VK → Prop := fun xs H Q => (∃ i, xs = [.int i] ∧ Q (.int i) H) ∨ ∃ k, xs = [.bl k] ∧ Q (.int (if k then 1 else 0)) H
def aMax (K : PySem.W.Frag) : List V → Hp → VK → Prop := fun xs H Q => (∃ i j, xs = [.int i, .int j] ∧ Q (.int (if j > i then j else i)) H) ∨ rMax K xs H Q
def aMin (K : PySem.W.Frag) : List V → Hp → VK → Prop := fun xs H Q => (∃ i j, xs = [.int i, .int j] ∧ Q (.int (if j < i then j else i)) H) ∨ rMin K xs H Q
def aStr : List V → Hp → VK → Prop := fun xs H Q => ∃ i, xs = [.int i] ∧ i.natAbs.log2 < 1920 ∧ Q (.str (toString i)) H
def aIsi (K : PySem.W.Frag) : List V → Hp → VK → Prop := fun xs H Q => rIsi K xs H Q ∨ rIsiT K xs H Q
section
variable {X : Cx}
theorem cLen : CallR X (.builtin "len") (aLen X.K) := call_len_seq
theorem cTuple : CallR X (.type "tuple") (aTuple X.K) := call_tuple_of
theorem cList : CallR X (.type "list") (aList X.K) := call_list_of
theorem cAbs : CallR X (.builtin "abs") aAbs := call_abs
theorem cInt : CallR X (.type "int") aInt := call_int1
theorem cMax (hc : X.calm = true) : CallR X (.builtin "max") (aMax X.K) := CallR.or (call_max2 hc) (cr_max hc)
theorem cMin (hc : X.calm = true) : CallR X (.builtin "min") (aMin X.K) := CallR.or (call_min2 hc) (cr_min hc)
theorem cStr : CallR X (.type "str") aStr := call_str_int
theorem cIsi : CallR X (.builtin "isinstance") (aIsi X.K) := CallR.or call_isi call_isiT
end

/-! ### readings, step by step -/
section
variable {K : PySem.W.Frag} {σ : L2.St} {H : Hp} {nx bk ct : L2.St → Hp → Prop} {rt Q : VK} {te ta tb : TE} {t u : TS} {tt tt2 : TT} {v x y : V} {i : Nat} {QT : Bool → Hp → Prop} {QA : List V → Hp → Prop} {tr : TA}
theorem w_seq (h : t ⟨u ⟨nx, rt, bk, ct⟩, rt, bk, ct⟩ σ H) : tSeq t u ⟨nx, rt, bk, ct⟩ σ H := h
theorem w_asg (h : te σ H fun v H1 => nx (σ.set i (some v)) H1) : tAsg te (gName i) ⟨nx, rt, bk, ct⟩ σ H := h
theorem w_drop (h : te σ H fun _ H1 => nx σ H1) : tDrop te ⟨nx, rt, bk, ct⟩ σ H := h
theorem w_ret (h : te σ H rt) : tRet te ⟨nx, rt, bk, ct⟩ σ H := h
theorem w_next (h : nx σ H) : tNext ⟨nx, rt, bk, ct⟩ σ H := h
theorem w_brk (h : bk σ H) : tBreak ⟨nx, rt, bk, ct⟩ σ H := h
theorem w_cont (h : ct σ H) : tCont ⟨nx, rt, bk, ct⟩ σ H := h
theorem w_ifS (h : tt σ H fun b H1 => if b = true then t ⟨nx, rt, bk, ct⟩ σ H1 else u ⟨nx, rt, bk, ct⟩ σ H1) : tIfS tt t u ⟨nx, rt, bk, ct⟩ σ H := h
theorem w_var (e : σ[i]? = some (some v)) (h : Q v H) : tVar i σ H Q := ⟨v, e, h⟩
theorem w_c (h : Q v H) : tC v σ H Q := h
theorem w_op {r : R2} (h : ta σ H fun x H1 => tb σ H1 fun y H2 => r x y H2 Q) : tOp r ta tb σ H Q := h
theorem w_un {r : V → Hp → VK → Prop} (h : ta σ H fun x H1 => r x H1 Q) : tUn r ta σ H Q := h
theorem w_test (h : te σ H fun x H' => ∃ k, x = .bl k ∧ QT k H') : tTest te σ H QT := h
theorem w_B (h : te σ H fun x H' => ∃ k, x = .bl k ∧ QT k H') : tB te σ H QT := h
theorem w_bl {b : Bool} (h : QT b H) : ∃ k, V.bl b = .bl k ∧ QT k H := ⟨b, rfl, h⟩
theorem w_not (h : tt σ H fun c H1 => QT (!c) H1) : tNot tt σ H QT := h
theorem w_and (h : tt σ H fun c H1 => if c = true then tt2 σ H1 QT else QT false H1) : tAnd tt tt2 σ H QT := h
theorem w_or (h : tt σ H fun c H1 => if c = true then QT true H1 else tt2 σ H1 QT) : tOr tt tt2 σ H QT := h
theorem w_andV (h : ta σ H fun x H1 => ∃ c, x = .bl c ∧ if c = true then tb σ H1 Q else Q (.bl false) H1) : tAndV ta tb σ H Q := h
theorem w_orV (h : ta σ H fun x H1 => ∃ c, x = .bl c ∧ if c = true then Q (.bl true) H1 else tb σ H1 Q) : tOrV ta tb σ H Q := h
theorem w_notV (h : ta σ H fun x H1 => ∃ c, x = .bl c ∧ Q (.bl (!c)) H1) : tNotV ta σ H Q := h
theorem w_blP {b : Bool} {P : Bool → Prop} (h : P b) : ∃ c, V.bl b = .bl c ∧ P c := ⟨b, rfl, h⟩
theorem w_if (h : tt σ H fun c H1 => if c = true then ta σ H1 Q else tb σ H1 Q) : tIf tt ta tb σ H Q := h
theorem w_nil (h : QA [] H) : tNil σ H QA := h
theorem w_cons (h : ta σ H fun x H1 => tr σ H1 fun xs H2 => QA (x :: xs) H2) : tCons ta tr σ H QA := h
theorem w_call {sp : Sp} {dvs : List V} {E : XK} (h : tr σ H fun vs H1 => sp (vs ++ dvs) H1 Q E) : tCall sp dvs E tr σ H Q := h
theorem w_callS {sp : Sp} {E : L2.St → XK} (h : tr σ H fun vs H1 => sp vs H1 Q (E σ)) : tCallS sp E tr σ H Q := h
theorem w_cb {r : List V → Hp → VK → Prop} (h : tr σ H fun vs H1 => r vs H1 Q) : tCB r tr σ H Q := h
theorem w_tup (h : tr σ H fun xs H1 => xs.length ≤ sizeLine ∧ ∀ p, H1 p = none → Q (.ref p) (upd H1 p (.tup xs))) : tTup tr σ H Q := h
theorem w_lst (h : tr σ H fun xs H1 => xs.length ≤ sizeLine ∧ ∀ p, H1 p = none → Q (.ref p) (upd H1 p (.lst xs))) : tLst tr σ H Q := h
theorem w_par {j : Nat} (h : tr σ H fun vs H1 => ∃ v w, vs = [v, w] ∧ nx ((σ.set i (some v)).set j (some w)) H1) : tPar i j tr ⟨nx, rt, bk, ct⟩ σ H := h
theorem w_two {v w : V} {P : V → V → Prop} (h : P v w) : ∃ a b, [v, w] = [a, b] ∧ P a b := ⟨v, w, rfl, h⟩
-- by values
theorem w_addI {i j : Int} (h : Q (.int (i + j)) H) : aAdd K (.int i) (.int j) H Q := .inl ⟨i, j, rfl, rfl, h⟩
theorem w_I0 {g : Int → Int → V} {i j : Int} (h : Q (g i j) H) : rI0 g (.int i) (.int j) H Q := ⟨i, j, rfl, rfl, h⟩
theorem w_mul {i j : Int} (c : CMulW i j) (h : Q (.int (i * j)) H) : aMul (.int i) (.int j) H Q := ⟨i, j, rfl, rfl, c, h⟩
theorem w_mod {i j : Int} (c : j ≠ 0) (h : Q (.int (i.fmod j)) H) : aMod (.int i) (.int j) H Q := ⟨i, j, rfl, rfl, c, h⟩
theorem w_div {i j : Int} (c : j ≠ 0) (l : j.natAbs.log2 < 9000) (h : Q (.int (i.fdiv j)) H) : aDiv (.int i) (.int j) H Q := ⟨i, j, rfl, rfl, ⟨c, l⟩, h⟩
theorem w_divP {i : Int} {b : Nat} {j : Int} (c : 0 < j) (hb : j.natAbs < 2 ^ b) (h0 : 0 < b) (h9 : b ≤ 9000) (h : Q (.int (i / j)) H) : aDiv (.int i) (.int j) H Q :=
  w_div (by omega) (Nat.lt_of_lt_of_le (PySem.Flt.log2_lt_of h0 hb) h9) (by rw [Int.fdiv_eq_ediv_of_nonneg i (by omega)]; exact h)
theorem w_pow {i j : Int} (c : CPow i j) (h : Q (.int (i ^ j.toNat)) H) : aPow (.int i) (.int j) H Q := ⟨i, j, rfl, rfl, c, h⟩
theorem w_neg {i : Int} (h : Q (.int (-i)) H) : rU (fun i => .int (-i)) (.int i) H Q := ⟨i, rfl, h⟩
theorem w_eq (c : scal x y = true) (h : Q (.bl (decide (x = y))) H) : aEq K x y H Q := .inl ⟨c, h⟩
theorem w_ne (c : scal x y = true) (h : Q (.bl (!decide (x = y))) H) : aNe K x y H Q := .inl ⟨c, h⟩
theorem w_eqI {i j : Int} (h : Q (.bl (decide (i = j))) H) : aEq K (.int i) (.int j) H Q := .inl ⟨rfl, by
  have e : decide (V.int i = V.int j) = decide (i = j) := by
    by_cases q : i = j
    · simp [q]
    · have n : ¬ V.int i = V.int j := fun z => q (V.int.inj z)
      simp [q]
  rw [e]
  exact h⟩
theorem w_neI {i j : Int} (h : Q (.bl (!decide (i = j))) H) : aNe K (.int i) (.int j) H Q := .inl ⟨rfl, by
  have e : decide (V.int i = V.int j) = decide (i = j) := by
    by_cases q : i = j
    · simp [q]
    · have n : ¬ V.int i = V.int j := fun z => q (V.int.inj z)
      simp [q]
  rw [e]
  exact h⟩
theorem w_absI {i : Int} (h : Q (.int (if i < 0 then -i else i)) H) : aAbs [.int i] H Q := ⟨i, rfl, h⟩
theorem w_intI {i : Int} (h : Q (.int i) H) : aInt [.int i] H Q := .inl ⟨i, rfl, h⟩
theorem w_lenL {p : Addr} {ys : List V} (e : SqL K H p ys) (h : Q (.int ys.length) H) : aLen K [.ref p] H Q := ⟨p, ys, rfl, .inl e, h⟩
theorem w_lenT {p : Addr} {ys : List V} (e : SqT K H p ys) (h : Q (.int ys.length) H) : aLen K [.ref p] H Q := ⟨p, ys, rfl, .inr e, h⟩
theorem w_ixL {p : Addr} {ys : List V} {i : Int} (e : SqL K H p ys) (a : atI ys i = some v) (h : Q v H) : rIx K (.ref p) (.int i) H Q := .inl ⟨p, ys, i, v, rfl, rfl, e, a, h⟩
theorem w_ixT {p : Addr} {ys : List V} {i : Int} (e : SqT K H p ys) (a : atI ys i = some v) (h : Q v H) : rIx K (.ref p) (.int i) H Q := .inr (.inl ⟨p, ys, i, v, rfl, rfl, e, a, h⟩)
theorem w_ite {c : Bool} {A B : Prop} (h1 : c = true → A) (h2 : c = false → B) : if c = true then A else B := by
  cases c
  · exact h2 rfl
  · exact h1 rfl
theorem w_iteD {c : Prop} [Decidable c] {A B : Prop} (h1 : c → A) (h2 : ¬ c → B) : if decide c = true then A else B := by
  by_cases q : c
  · rw [if_pos (decide_eq_true q)]; exact h1 q
  · rw [if_neg (by simpa using q)]; exact h2 q
theorem w_iteN {c : Prop} [Decidable c] {A B : Prop} (h1 : ¬ c → A) (h2 : c → B) : if (!decide c) = true then A else B := by
  by_cases q : c
  · rw [if_neg (by simpa using q)]; exact h2 q
  · rw [if_pos (by simpa using q)]; exact h1 q
theorem w_iteT {A B : Prop} (h : A) : if true = true then A else B := by rw [if_pos rfl]; exact h
theorem w_iteF {A B : Prop} (h : B) : if false = true then A else B := by rw [if_neg Bool.false_ne_true]; exact h
end
end NL
set_option maxRecDepth 100000
set_option maxHeartbeats 2000000
/-! Defs kept: where a def stands, what it promises; calls by that. -/
namespace NL
open PySem PySem.Spec PyProof.Rows L2

/-- the statement st of the text stands as the def x -/
def Def (K : PySem.W.Frag) (mg : Str → Option Value) (x : Str) (st : Stmt) (ps : List Str) : Prop :=
  ∃ f fd, Fun K x x st f fd ∧ mg x = some (.ref f) ∧ Binds K fd ps []
/-- the def x keeps its promise -/
def Kept (P : Program) (w : World) (K : PySem.W.Frag) (mg : Str → Option Value) (base : Heap) (CX : CXT) (k : Nat) (x : Str) (st : Stmt) (ps : List Str) (sp : Sp) : Prop :=
  ∃ f fd, Fun K x x st f fd ∧ mg x = some (.ref f) ∧ Binds K fd ps [] ∧ FnOk P w K mg base CX k f fd ps sp
def KeptG (P : Program) (w : World) (K : PySem.W.Frag) (mg : Str → Option Value) (base : Heap) (CX : CXT) (k : Nat) (x : Str) (st : Stmt) (ps : List Str) (sp : Sp) : Prop :=
  ∃ f fd, Fun K x x st f fd ∧ mg x = some (.ref f) ∧ Binds K fd ps [] ∧ FnG P w K mg base CX k f fd ps sp
section
variable {P : Program} {w : World} {K : PySem.W.Frag} {mg : Str → Option Value} {base : Heap} {x : Str} {st : Stmt} {N ps : List Str} {k : Nat} {sp : Sp}
theorem Kept.imp {CX : CXT} {sp' : Sp} (O : Kept P w K mg base CX k x st ps sp) (h : ∀ vs H Q E, sp' vs H Q E → sp vs H Q E) : Kept P w K mg base CX k x st ps sp' := by
  obtain ⟨f, fd, a, b, c, d⟩ := O
  exact ⟨f, fd, a, b, c, d.imp h⟩
theorem keep0 (D : Def K mg x st ps) (S : FnScope N ps (defScope st)) (len : ∀ vs H Q E, sp vs H Q E → vs.length = ps.length)
    (hb : ∀ (f : Addr) (cdv : Value) (A : Around) (outer : List Env) (s : Shared) (H : Hp) (vs : List V) (Q : VK) (E : XK), Room k (A.deeper (envOfC x (defScope st) s.heap.objs.size f cdv)) → sp vs H Q E →
      ∃ t, PSs (cxOf CX0 P w K mg base N x (defScope st) f cdv A outer s H E).nox (defBody st) t ∧ t { nx := fun _ H' => Q .non H', rt := Q } (start N vs) H) :
    Kept P w K mg base CX0 (k + 1) x st ps sp := by
  obtain ⟨f, fd, F, g, b⟩ := D
  exact ⟨f, fd, F, g, b, F.ok S len fun cdv A outer s H vs Q E hr h => hb f cdv A outer s H vs Q E hr h⟩
theorem keepX (D : Def K mg x st ps) (S : FnScope N ps (defScope st)) (len : ∀ vs H Q E, sp vs H Q E → vs.length = ps.length)
    (hb : ∀ (f : Addr) (cdv : Value) (A : Around) (outer : List Env) (s : Shared) (H : Hp) (vs : List V) (Q : VK) (E : XK), Room k (A.deeper (envOfC x (defScope st) s.heap.objs.size f cdv)) → sp vs H Q E →
      ∃ t, PSs (cxOf (L2.CX P w) P w K mg base N x (defScope st) f cdv A outer s H E) (defBody st) t ∧ t { nx := fun _ H' => Q .non H', rt := Q } (start N vs) H) :
    Kept P w K mg base (L2.CX P w) (k + 1) x st ps sp := by
  obtain ⟨f, fd, F, g, b⟩ := D
  exact ⟨f, fd, F, g, b, F.okX S len fun cdv A outer s H vs Q E hr h => hb f cdv A outer s H vs Q E hr h⟩
theorem keepG (D : Def K mg x st ps) (S : FnScope N ps (defScope st)) (len : ∀ vs H Q E, sp vs H Q E → vs.length = ps.length)
    (hb : ∀ (f : Addr) (cdv : Value) (A : Around) (outer : List Env) (s : Shared) (H : Hp) (vs : List V) (Q : VK) (E : XK), A.guards = some [] → Room k (A.deeper (envOfC x (defScope st) s.heap.objs.size f cdv)) → sp vs H Q E →
      ∃ t, PSs (cxOf CX0 P w K mg base N x (defScope st) f cdv A outer s H E).nox (defBody st) t ∧ t { nx := fun _ H' => Q .non H', rt := Q } (start N vs) H) :
    KeptG P w K mg base CX0 (k + 1) x st ps sp := by
  obtain ⟨f, fd, F, g, b⟩ := D
  exact ⟨f, fd, F, g, b, okG F S len fun cdv A outer s H vs Q E hg hr h => hb f cdv A outer s H vs Q E hg hr h⟩
end

section
variable {X : Cx} {k : Nat} {st : Stmt} {ps : List Str} {sp : Sp} {x : Str} {p pos : Pos} {e : Expr} {es : List Expr} {t : TA}
/-- f(e, ..) -/
theorem pk_call (O : Kept X.prog X.w X.K X.mg X.base CX0 k x st ps sp) (hr : Room k X.A) (ha : PA X (e :: es) t) (hg : Gl X x := by rfl) (hdb : (x == ("__debug__" : Str)) = false := by decide)
    (he : starEach (e :: es) X.env = (false, eval e X.env) :: starEach es X.env := by rfl) (hpl : (backTo pos (starEach es X.env)).any (·.1) = false := by rfl) :
    PE X (.Call (.Name x p) (e :: es) [] pos) (tCall sp [] E0 t) := by
  obtain ⟨f, fd, F, g, b, ok⟩ := O
  exact pe_call ok hr hg g F.kp b .nil pass0 ha hdb he hpl
/-- f(e, ..), f may raise, but not here -/
theorem pk_callL (O : Kept X.prog X.w X.K X.mg X.base (L2.CX X.prog X.w) k x st ps sp) (hr : Room k X.A) (ha : PA X (e :: es) t) (hg : Gl X x := by rfl) (hdb : (x == ("__debug__" : Str)) = false := by decide)
    (he : starEach (e :: es) X.env = (false, eval e X.env) :: starEach es X.env := by rfl) (hpl : (backTo pos (starEach es X.env)).any (·.1) = false := by rfl) :
    PE X (.Call (.Name x p) (e :: es) [] pos) (tCall sp [] E0 t) := by
  obtain ⟨f, fd, F, g, b, ok⟩ := O
  exact pe_call ok hr hg g F.kp b .nil passL ha hdb he hpl
/-- f(e, ..), what f raises is handed on -/
theorem pk_callX {E : XK} (O : Kept X.prog X.w X.K X.mg X.base (L2.CX X.prog X.w) k x st ps sp) (tk : Takes X (fun cls d _ H => E cls d H)) (hr : Room k X.A) (ha : PA X (e :: es) t) (hg : Gl X x := by rfl) (hdb : (x == ("__debug__" : Str)) = false := by decide)
    (he : starEach (e :: es) X.env = (false, eval e X.env) :: starEach es X.env := by rfl) (hpl : (backTo pos (starEach es X.env)).any (·.1) = false := by rfl) :
    PE X (.Call (.Name x p) (e :: es) [] pos) (tCall sp [] E t) := by
  obtain ⟨f, fd, F, g, b, ok⟩ := O
  exact pe_call ok hr hg g F.kp b .nil (passes_call tk fun _ _ _ _ h => h) ha hdb he hpl
/-- f(e, ..), a guarded def -/
theorem pk_callG (O : KeptG X.prog X.w X.K X.mg X.base CX0 k x st ps sp) (hgd : X.A.guards = some []) (hr : Room k X.A) (ha : PA X (e :: es) t) (hg : Gl X x := by rfl) (hdb : (x == ("__debug__" : Str)) = false := by decide)
    (he : starEach (e :: es) X.env = (false, eval e X.env) :: starEach es X.env := by rfl) (hpl : (backTo pos (starEach es X.env)).any (·.1) = false := by rfl) :
    PE X (.Call (.Name x p) (e :: es) [] pos) (tCall sp [] E0 t) := by
  obtain ⟨f, fd, F, g, b, ok⟩ := O
  exact pe_callG ok hgd hr hg g F.kp b .nil pass0 ha hdb he hpl
end

/-! ### keywords: the values by place -/
def pick {α : Type} (idx : List Nat) (xs : List α) : List α := idx.filterMap fun i => xs[i]?
theorem pick_vals {vs : List V} {us : List Value} (r : Vals vs us) : ∀ idx : List Nat, Vals (pick idx vs) (pick idx us)
  | [] => .nil
  | i :: idx => by
    have ih := pick_vals r idx
    unfold pick at ih ⊢
    cases h : vs[i]? with
    | none =>
      rw [List.filterMap_cons_none h, List.filterMap_cons_none (r.none_of h)]
      exact ih
    | some v =>
      obtain ⟨u, hu, ru⟩ := r.get h
      rw [List.filterMap_cons_some h, List.filterMap_cons_some hu]
      exact .cons ru ih
/-- f(e, .., k = v, ..): n positional values, then the keywords' ones; idx puts them into the parameters' order -/
def tCallW (n m : Nat) (idx : List Nat) (sp : Sp) (E : XK) (t tk : TA) : TE := fun σ H Q => t σ H fun vs H1 => tk σ H1 fun zs H2 =>
  vs.length = n ∧ zs.length = m ∧ sp (pick idx (vs ++ zs)) H2 Q E
section
variable {X : Cx} {CX : CXT} {k n : Nat} {st : Stmt} {ps ks : List Str} {sp : Sp} {x : Str} {p pos : Pos} {e : Expr} {es : List Expr} {kws : List Keyword} {t tk : TA} {E : XK} {f : Addr} {fd : FuncData} {idx : List Nat}
def KwB (fd : FuncData) (ps ks : List Str) (n : Nat) (idx : List Nat) : Prop := ∀ us ws : List Value, us.length = n → ws.length = ks.length → bindArgs fd ⟨us, ks.zip ws⟩ = pure (ps.zip (pick idx (us ++ ws)))
/-- the text's own parameters, all given -/
def KwS (x : Str) (st : Stmt) (ps ks : List Str) (n : Nat) (idx : List Nat) : Prop := ∀ (kV doc pm : Value) (an : Option Addr) (cdv ct : Value), KwB (PySem.W.fnOf x x (defArgs st) (defBody st) (defScope st) .none kV doc pm an cdv ct) ps ks n idx
theorem KwS.kwb (h : KwS x st ps ks n idx) {K : PySem.W.Frag} (F : Fun K x x st f fd) : KwB fd ps ks n idx := by
  obtain ⟨oc, od, kV, doc, pm, an, cdv, ct, osl, rfl, _⟩ := F.ex
  exact h kV doc pm an cdv ct
theorem run_fnW {pins : List (Addr × Obj)} {σ : L2.St} {H : Hp} {s : Shared} {Q : VK} {us ws : List Value} {vs zs : List V} (F : FnOk X.prog X.w X.K X.mg X.base CX k f fd ps sp) (hr : Room k X.A) (hb : KwB fd ps ks n idx) (hx : Passes CX X E)
    (I : Inv X pins σ H s) (r : Vals vs us) (rz : Vals zs ws) (l1 : vs.length = n) (l2 : zs.length = ks.length) (h : sp (pick idx (vs ++ zs)) H Q E) :
    wpAny (model X.prog X.w) X.A (call (.ref f) us (ks.zip ws)) (EP X pins σ Q) X.xe s := by
  have run := F.run X.A X.stack s H ⟨us, ks.zip ws⟩ (pick idx (us ++ ws)) _ Q E hr I.env0 (.of_eq (hb us ws (r.length.symm.trans l1) (rz.length.symm.trans l2))) (pick_vals (r.append rz) idx) h
  refine wpAny_call (codeAny_mono run fun res s' hq => ?_)
  match res, hq with
  | .error e, hq => exact hx pins σ H s e s' I hq
  | .ok (.ret u), hq => exact I.after hq
theorem pk_callW {CX : CXT} (O : Kept X.prog X.w X.K X.mg X.base CX k x st ps sp) (hx : Passes CX X E) (hb : KwS x st ps ks n idx) (hr : Room k X.A) (ha : PA X (e :: es) t) (hkw : PK X kws tk) (hg : Gl X x := by rfl)
    (hall : (backToKw pos (keywordEach kws X.env)).all (·.1.isSome) = true := by rfl) (hks : (backToKw pos (keywordEach kws X.env)).filterMap (·.1) = ks := by rfl)
    (hdb : (x == ("__debug__" : Str)) = false := by decide) (he : starEach (e :: es) X.env = (false, eval e X.env) :: starEach es X.env := by rfl)
    (hpl : ((backTo pos (starEach (e :: es) X.env)).any (·.1) || (backToKw pos (keywordEach kws X.env)).any (·.1.isNone)) = false := by rfl) :
    PE X (.Call (.Name x p) (e :: es) kws pos) (tCallW n ks.length idx sp E t tk) := by
  obtain ⟨f, fd, F, g, b, ok⟩ := O
  constructor
  intro pins s σ H Q I h
  refine wpAny_Call_Name_kw (ld_glob I hg g ?_ hdb)
  refine PySem.W.callWith_KW (h₀ := X.base) I.ok.mod.kin F.kp hall (thn (ha.run pos pins s σ H _ I h) fun us s1 hh => ?_) hpl he
  obtain ⟨vs, H1, I1, r, q⟩ := hh
  refine thn (hkw.run pos pins s1 σ H1 _ I1 q) fun ws s2 hh => ?_
  obtain ⟨zs, H2, I2, rz, l1, l2, q2⟩ := hh
  refine ⟨I2.kIn, ?_⟩
  rw [hks]
  exact run_fnW ok hr (hb.kwb F) hx I2 r rz l1 l2 q2
/-- f(k = v, ..) -/
theorem pk_callW0 {CX : CXT} (O : Kept X.prog X.w X.K X.mg X.base CX k x st ps sp) (hx : Passes CX X E) (hb : KwS x st ps ks 0 idx) (hr : Room k X.A) (hkw : PK X kws tk) (hg : Gl X x := by rfl)
    (hall : (backToKw pos (keywordEach kws X.env)).all (·.1.isSome) = true := by rfl) (hks : (backToKw pos (keywordEach kws X.env)).filterMap (·.1) = ks := by rfl)
    (hdb : (x == ("__debug__" : Str)) = false := by decide)
    (hpl : (backToKw pos (keywordEach kws X.env)).any (·.1.isNone) = false := by rfl) :
    PE X (.Call (.Name x p) [] kws pos) (tCallW 0 ks.length idx sp E tNil tk) := by
  obtain ⟨f, fd, F, g, b, ok⟩ := O
  constructor
  intro pins s σ H Q I h
  refine wpAny_Call_Name_kw (ld_glob I hg g ?_ hdb)
  refine PySem.W.callWith_KW0 (h₀ := X.base) I.ok.mod.kin F.kp hall (thn (hkw.run pos pins s σ H _ I h) fun ws s2 hh => ?_) hpl
  obtain ⟨zs, H2, I2, rz, l1, l2, q2⟩ := hh
  refine ⟨I2.kIn, ?_⟩
  rw [hks]
  exact run_fnW (us := []) (vs := []) ok hr (hb.kwb F) hx I2 .nil rz l1 l2 q2
end
end NL
set_option maxRecDepth 100000
set_option maxHeartbeats 2000000
namespace NL
open PySem PySem.Spec PyProof.Rows L2

section
variable {K : PySem.W.Frag} {σ : L2.St} {H : Hp} {nx bk ct : L2.St → Hp → Prop} {rt Q : VK} {te ta tb : TE} {t u : TS} {tt tt2 : TT} {v x y : V} {i : Nat} {QT : Bool → Hp → Prop} {QA : List V → Hp → Prop} {tr : TA}
theorem w_while {m : Nat} (W : Nat → L2.St → Hp → Prop) (h0 : W m σ H) (hs : ∀ m σ H, W m σ H → tt σ H fun b H1 => if b = true then
    ∃ N : L2.St → Hp → Prop, (∀ σ' H', N σ' H' → ∃ m', m' < m ∧ W m' σ' H') ∧ t ⟨N, rt, nx, N⟩ σ H1 else nx σ H1) : tWhile tt t ⟨nx, rt, bk, ct⟩ σ H := ⟨W, ⟨m, h0⟩, hs⟩
theorem w_go {m : Nat} {W : Nat → L2.St → Hp → Prop} (h : t ⟨fun σ' H' => ∃ m', m' < m ∧ W m' σ' H', rt, nx, fun σ' H' => ∃ m', m' < m ∧ W m' σ' H'⟩ σ H) :
    ∃ N : L2.St → Hp → Prop, (∀ σ' H', N σ' H' → ∃ m', m' < m ∧ W m' σ' H') ∧ t ⟨N, rt, nx, N⟩ σ H := ⟨_, fun _ _ h => h, h⟩
theorem w_bm0 {T : String} {r : V → List V → Hp → VK → Prop} (h : te σ H fun x H1 => tyV K T x H1 ∧ r x [] H1 Q) : tBM0 K T r te σ H Q := h
theorem w_bm {T : String} {r : V → List V → Hp → VK → Prop} (h : te σ H fun x H1 => tyV K T x H1 ∧ tr σ H1 fun xs H2 => r x xs H2 Q) : tBM K T r te tr σ H Q := h
theorem w_callW {n m : Nat} {idx : List Nat} {sp : Sp} {E : XK} {tk : TA} (h : tr σ H fun vs H1 => tk σ H1 fun zs H2 => vs.length = n ∧ zs.length = m ∧ sp (pick idx (vs ++ zs)) H2 Q E) : tCallW n m idx sp E tr tk σ H Q := h
theorem w_sub {T : TSet} (h : te σ H fun x H1 => ta σ H1 fun o H1 => tb σ H1 fun i H2 => T o i x H2 fun H3 => nx σ H3) : tAsg te (gSub ta tb T) ⟨nx, rt, bk, ct⟩ σ H := h
theorem tyL {l : Addr} {xs : List V} (h : H l = some (.lst xs)) : tyV K "list" (.ref l) H := .inl ⟨rfl, _, SqL.of h⟩
/-- isinstance against a built-in class -/
theorem w_isi {x : V} {T U : String} {b : Bool} (ty : TyX K H x (.type T)) (e : kitB T U = some b) (h : Q (.bl b) H) : aIsi K [x, .ty U] H Q :=
  .inl ⟨x, .ty U, _, _, b, rfl, .ty U, ty, kit_ty e, h⟩
end
theorem w_iteNF {A B : Prop} (h : A) : if (!false) = true then A else B := h
theorem w_iteNT {A B : Prop} (h : B) : if (!true) = true then A else B := by
  rw [if_neg (by decide)]
  exact h
theorem ty_same {K : PySem.W.Frag} {H H' : Hp} {x : V} {t : Value} (e : Same H H') (h : TyX K H x t) : TyX K H' x t := by
  cases h with
  | base h =>
    cases h with
    | non => exact .base .non
    | bl x => exact .base (.bl x)
    | int i => exact .base (.int i)
    | str x => exact .base (.str x)
    | flt x => exact .base (.flt x)
    | lst h => exact .base (.lst (e _ _ h))
    | frz h => exact .base (.frz (e _ _ h))
    | tup h => exact .base (.tup (e _ _ h))
    | dK h => exact .base (.dK (e _ _ h))
    | dT h => exact .base (.dT (e _ _ h))
    | ins h cl a b c d => exact .base (.ins (e _ _ h) cl a b c d)
  | byt b => exact .byt b
  | set h => exact .set (e _ _ h)
  | kList h c => exact .kList h c
  | kTuple h c => exact .kTuple h c
  | kDict h c => exact .kDict h c
  | fTuple h => exact .fTuple (e _ _ h)
  | fDict h => exact .fDict (e _ _ h)
section
variable {X : Cx}
theorem sl_any : SlR X (fun x lo hi H Q => rSlL X.K x lo hi H Q ∨ rSlA X.K x lo hi H Q) := SlR.or sl_list sl_tupA
end

/-! ### comprehensions whose element leaves what stands -/
section
variable {K : PySem.W.Frag} {σ : L2.St} {H : Hp} {Q : VK} {tl te : TE} {tt : TT} {vs : List Nat} {j : Nat} {a : Addr} {xs : List V}
theorem Same.newT {H : Hp} {p : Addr} {o : HO} (h : H p = none) : Same H (upd H p o) := fun b u e => by
  rw [upd_ne (ne_of_none e h)]
  exact e
theorem Same.putT {H H' : Hp} {p : Addr} {o : HO} (e : Same H H') (h : H p = none) : Same H (upd H' p o) := fun b u ha => by
  rw [upd_ne (ne_of_none ha h)]
  exact e b u ha
theorem same_t {K : PySem.W.Frag} {H H' : Hp} {a : Addr} {xs : List V} (e : Same H H') (h : SqT K H a xs) : SqT K H' a xs := by
  rcases h with (h | ⟨o, h⟩) | h
  · exact .inl (.inl (e _ _ h))
  · exact .inl (.inr ⟨o, e _ _ h⟩)
  · exact .inr h
theorem paired_snoc {α β : Type} {F : α → β → Prop} : ∀ {l1 : List α} {l2 : List β} {x : α} {y : β}, Paired F l1 l2 → F x y → Paired F (l1 ++ [x]) (l2 ++ [y])
  | _, _, _, _, .nil, h => .cons h .nil
  | _, _, _, _, .cons h t, k => .cons h (paired_snoc t k)
theorem take_snoc {α : Type} {l : List α} {i : Nat} {x : α} (h : l[i]? = some x) : l.take (i + 1) = l.take i ++ [x] := by
  rw [List.take_succ, h]
  rfl
/-- what a turn asks: x the item, the slots with it, any heap that kept what stood -/
def LcTurn (tt : TT) (te : TE) (R : V → V → Hp → Prop) (p : V → Bool) (H : Hp) (x : V) (σ2 : L2.St) : Prop :=
  ∀ H1, Same H H1 → ∀ Q : Bool → Hp → Prop, (∀ H2, Same H1 H2 → Q (p x) H2) → tt σ2 H1 Q
def LcElt (te : TE) (R : V → V → Hp → Prop) (H : Hp) (x : V) (σ2 : L2.St) : Prop :=
  ∀ H1, Same H H1 → ∀ Q : VK, (∀ y H2, Same H1 H2 → R x y H2 → Q y H2) → te σ2 H1 Q
structure LcAt (R : V → V → Hp → Prop) (H : Hp) (D : Addr) (zs : List V) (H' : Hp) : Prop where
  nw : H D = none
  sm : Same H H'
  at_ : ∃ ys, H' D = some (.lst ys) ∧ Paired (fun x y => R x y H') zs ys
theorem LcAt.turn {R : V → V → Hp → Prop} {p : V → Bool} {D : Addr} {zs : List V} {H' : Hp} {x : V} {σ2 : L2.St} {Nx : Hp → Prop} (mono : ∀ x y H1 H2, R x y H1 → (∀ b o, b ≠ D → H1 b = some o → H2 b = some o) → R x y H2)
    (L : LcAt R H D zs H') (hz : zs.length < sizeLine) (ht : LcTurn tt te R p H x σ2) (he : p x = true → LcElt te R H x σ2) (k1 : p x = true → ∀ H2, LcAt R H D (zs ++ [x]) H2 → Nx H2) (k2 : p x = false → ∀ H2, LcAt R H D zs H2 → Nx H2) :
    tt σ2 H' fun b H3 => if b = true then te σ2 H3 fun y H4 => ∃ acc, H4 D = some (.lst acc) ∧ acc.length < sizeLine ∧ Nx (upd H4 D (.lst (acc ++ [y]))) else Nx H3 := by
  obtain ⟨nw, sm, ys, e, pr⟩ := L
  have pm : ∀ {H1 H2 : Hp} {l1 l2 : List V}, Paired (fun x y => R x y H1) l1 l2 → (∀ b o, b ≠ D → H1 b = some o → H2 b = some o) → Paired (fun x y => R x y H2) l1 l2 := fun q s => Paired.mapP q fun a b r => mono a b _ _ r s
  refine ht H' sm _ fun H3 s3 => ?_
  cases hp : p x with
  | false =>
    rw [if_neg Bool.false_ne_true]
    exact k2 hp H3 ⟨nw, sm.trans s3, ys, s3 _ _ e, pm pr fun b o _ q => s3 b o q⟩
  | true =>
    rw [if_pos rfl]
    refine he hp H3 (sm.trans s3) _ fun y H4 s4 r => ?_
    have hl : ys.length < sizeLine := by
      have := Paired.length pr
      omega
    refine ⟨ys, s4 _ _ (s3 _ _ e), hl, k1 hp _ ⟨nw, Same.putT ((sm.trans s3).trans s4) nw, _, upd_same, ?_⟩⟩
    have far : ∀ b o, b ≠ D → H4 b = some o → upd H4 D (.lst (ys ++ [y])) b = some o := fun b o hb q => by
      rw [upd_ne hb]
      exact q
    exact paired_snoc (pm (pm (pm pr fun b o _ q => s3 b o q) fun b o _ q => s4 b o q) far) (mono _ _ _ _ r far)
/-- what the building of a list asks of its walk -/
def LcGo (J : It) (j : Nat) (tt : TT) (te : TE) (vs : List Nat) (σ : L2.St) (H : Hp) (Q : VK) : Prop :=
    ∀ D, H D = none → ∃ W : Nat → Nat → Hp → Prop, (∃ m, W 0 m (upd H D (.lst []))) ∧ ∀ i m H, W i m H →
      (J.stop i H ∧ Q (.ref D) H) ∨ (J.go i H ∧ ∃ Nx : Hp → Prop, (∀ H', Nx H' → ∃ m', m' < m ∧ W (i + 1) m' H') ∧ ∀ x H', J.yld i H x H' → gName j x (wipe σ vs) H' fun σ2 H2 => wipe σ2 vs = wipe σ vs ∧ tt σ2 H2 fun b H3 =>
        if b = true then te σ2 H3 fun y H4 => ∃ acc, H4 D = some (.lst acc) ∧ acc.length < sizeLine ∧ Nx (upd H4 D (.lst (acc ++ [y]))) else Nx H3)
theorem w_lcT (h : tl σ H fun x H1 => ∃ a, x = .ref a ∧ (∃ xs, SqT K H1 a xs) ∧ LcGo (Itt K a) j tt te vs σ H1 Q) : tLc (iTup K tl) (gName j) tt te vs σ H Q := h
theorem w_lcL (h : tl σ H fun x H1 => ∃ a, x = .ref a ∧ (∃ xs, SqL K H1 a xs) ∧ LcGo (Itl K a) j tt te vs σ H1 Q) : tLc (iList K tl) (gName j) tt te vs σ H Q := h
theorem w_ref {a : Addr} {P : Addr → Prop} (h : P a) : ∃ b, V.ref a = .ref b ∧ P b := ⟨a, rfl, h⟩
theorem lc_tup_rel (R : V → V → Hp → Prop) (p : V → Bool) (hS : SqT K H a xs) (hz : xs.length < sizeLine) (hw : ∀ x, wipe ((wipe σ vs).set j (some x)) vs = wipe σ vs)
    (mono : ∀ D, H D = none → ∀ x y H1 H2, R x y H1 → (∀ b o, b ≠ D → H1 b = some o → H2 b = some o) → R x y H2)
    (ht : ∀ x ∈ xs, LcTurn tt te R p H x ((wipe σ vs).set j (some x))) (he : ∀ x ∈ xs, p x = true → LcElt te R H x ((wipe σ vs).set j (some x)))
    (hq : ∀ D H', LcAt R H D (xs.filter p) H' → Q (.ref D) H') :
    LcGo (Itt K a) j tt te vs σ H Q := fun D hD =>
  lc_tup (K := K) (a := a) (xs := xs) (Qd := fun H' => Q (.ref D) H') (fun i H' => LcAt R H D ((xs.take i).filter p) H') ⟨hD, Same.newT hD, [], upd_same, .nil⟩ (fun i H' _ L => same_t L.sm hS)
    (fun i x H' hx L => ⟨hw x, L.turn (mono D hD) (Nat.lt_of_le_of_lt (Nat.le_trans (List.length_filter_le _ _) (List.length_take_le _ _)) (Nat.lt_of_lt_of_le (List.getElem?_eq_some_iff.mp hx).1 (Nat.le_of_lt hz))) (ht x (List.mem_of_getElem? hx)) (he x (List.mem_of_getElem? hx))
      (fun hp H2 L2 => by rw [take_snoc hx, List.filter_append, List.filter_cons, if_pos hp]; exact L2) (fun hp H2 L2 => by rw [take_snoc hx, List.filter_append, List.filter_cons, if_neg (by rw [hp]; decide)]; simpa using L2)⟩)
    (fun H' L => by rw [List.take_length] at L; exact hq D H' L)
theorem lc_lst_rel (R : V → V → Hp → Prop) (p : V → Bool) (hS : SqL K H a xs) (hz : xs.length < sizeLine) (hw : ∀ x, wipe ((wipe σ vs).set j (some x)) vs = wipe σ vs)
    (mono : ∀ D, H D = none → ∀ x y H1 H2, R x y H1 → (∀ b o, b ≠ D → H1 b = some o → H2 b = some o) → R x y H2)
    (ht : ∀ x ∈ xs, LcTurn tt te R p H x ((wipe σ vs).set j (some x))) (he : ∀ x ∈ xs, p x = true → LcElt te R H x ((wipe σ vs).set j (some x)))
    (hq : ∀ D H', LcAt R H D (xs.filter p) H' → Q (.ref D) H') :
    LcGo (Itl K a) j tt te vs σ H Q := fun D hD =>
  lc_list (K := K) (a := a) (xs := xs) (Qd := fun H' => Q (.ref D) H') (fun i H' => LcAt R H D ((xs.take i).filter p) H') ⟨hD, Same.newT hD, [], upd_same, .nil⟩ (fun i H' _ L => L.sm.seq hS)
    (fun i x H' hx L => ⟨hw x, L.turn (mono D hD) (Nat.lt_of_le_of_lt (Nat.le_trans (List.length_filter_le _ _) (List.length_take_le _ _)) (Nat.lt_of_lt_of_le (List.getElem?_eq_some_iff.mp hx).1 (Nat.le_of_lt hz))) (ht x (List.mem_of_getElem? hx)) (he x (List.mem_of_getElem? hx))
      (fun hp H2 L2 => by rw [take_snoc hx, List.filter_append, List.filter_cons, if_pos hp]; exact L2) (fun hp H2 L2 => by rw [take_snoc hx, List.filter_append, List.filter_cons, if_neg (by rw [hp]; decide)]; simpa using L2)⟩)
    (fun H' L => by rw [List.take_length] at L; exact hq D H' L)
theorem turn_yes {R : V → V → Hp → Prop} {x : V} {σ2 : L2.St} : LcTurn tYes te R (fun _ => true) H x σ2 := fun H1 _ Q q => q H1 (Same.refl H1)
theorem filter_true {α : Type} (l : List α) : l.filter (fun _ => true) = l := by
  induction l with
  | nil => rfl
  | cons a l ih => rw [List.filter_cons, if_pos rfl, ih]
/-- the elements are values that hang on the item alone -/
theorem paired_eq {f : V → V} : ∀ {xs ys : List V}, Paired (fun x y => y = f x) xs ys → ys = xs.map f
  | _, _, .nil => rfl
  | _, _, .cons h t => by rw [h, paired_eq t]; rfl
end
theorem ru64 {k : Nat} {A : Around} (r : Room k A) : A.units + 64 < cLine := r.units
theorem ru65 {k : Nat} {A : Around} (r : Room k A) : A.units + 65 < cLine := by
  have := r.un
  omega
end NL
set_option maxRecDepth 100000
set_option maxHeartbeats 2000000
/-! Loops over lists, slices, lists of ints as data; the deal of a law. -/
namespace NL
open PySem PySem.Spec PyProof.Rows L2

section
variable {K : PySem.W.Frag} {σ : L2.St} {H : Hp} {nx bk ct : L2.St → Hp → Prop} {rt Q : VK} {te ta tl : TE} {t u : TS} {v x y : V} {i : Nat} {D : Ends} {g : TG} {tr : TA} {a : Addr} {xs : List V}
theorem w_sl {r : V → Option Int → Option Int → Hp → VK → Prop} {tp tq : TO} (h : te σ H fun x H1 => tp σ H1 fun l H2 => tq σ H2 fun u H3 => r x l u H3 Q) : tSl r te tp tq σ H Q := h
theorem w_npart {Q : Option Int → Hp → Prop} (h : Q none H) : tNoPart σ H Q := h
theorem w_part {Q : Option Int → Hp → Prop} (h : te σ H fun x H1 => ∃ i, x = .int i ∧ Q (some i) H1) : tPart te σ H Q := h
theorem w_iv {j : Int} {P : Int → Prop} (h : P j) : ∃ i, V.int j = .int i ∧ P i := ⟨j, rfl, h⟩
theorem w_slL {lo hi : Option Int} (e : SqL K H a xs) (h : ∀ p, H p = none → Q (.ref p) (upd H p (.lst (cutV xs lo hi)))) : (rSlL K (.ref a) lo hi H Q ∨ rSlA K (.ref a) lo hi H Q) := .inl ⟨a, xs, rfl, e, h⟩
theorem w_rev (h : te σ H fun x H1 => ∃ a xs, x = .ref a ∧ SqL K H1 a xs ∧ ∀ p, H1 p = none → Q (.ref p) (upd H1 p (.lst xs.reverse))) : tRevL K te σ H Q := h
theorem w_rev1 (e : SqL K H a xs) (h : ∀ p, H p = none → Q (.ref p) (upd H p (.lst xs.reverse))) : ∃ b ys, V.ref a = .ref b ∧ SqL K H b ys ∧ ∀ p, H p = none → Q (.ref p) (upd H p (.lst ys.reverse)) := ⟨a, xs, rfl, e, h⟩
/-- what a loop asks of its walk -/
def ForGo (J : It) (g : TG) (tb : TS) (D : Ends) (σ : L2.St) (H : Hp) : Prop :=
  ∃ W : Nat → Nat → L2.St → Hp → Prop, (∃ m, W 0 m σ H) ∧ ∀ i m σ H, W i m σ H →
      (J.stop i H ∧ D.nx σ H) ∨ (J.go i H ∧ ∃ N : L2.St → Hp → Prop, (∀ σ' H', N σ' H' → ∃ m', m' < m ∧ W (i + 1) m' σ' H') ∧ ∀ x H', J.yld i H x H' → g x σ H' fun σ2 H2 => tb { D with nx := N, ct := N, bk := D.nx } σ2 H2)
theorem w_forL (h : tl σ H fun x H1 => ∃ a, x = .ref a ∧ (∃ xs, SqL K H1 a xs) ∧ ForGo (Itl K a) g t D σ H1) : tFor (iList K tl) g t D σ H := h
theorem w_forT (h : tl σ H fun x H1 => ∃ a, x = .ref a ∧ (∃ xs, SqT K H1 a xs) ∧ ForGo (Itt K a) g t D σ H1) : tFor (iTup K tl) g t D σ H := h
theorem w_forR1 (h : tr σ H fun vs H1 => ∃ j : Int, vs = [.int j] ∧ -(2 ^ 62) ≤ j ∧ j < 2 ^ 62 ∧ ForGo (Itr 0 j.toNat) g t D σ H1) : tFor (iRng1 tr) g t D σ H := h
theorem w_one {j : Int} {P : Int → Prop} (h : P j) : ∃ i, [V.int j] = [.int i] ∧ P i := ⟨j, rfl, h⟩
theorem fgL {g : TG} {tb : TS} (Pv : Nat → L2.St → Hp → Prop) (h0 : Pv 0 σ H) (hl : ∀ i σ H, i ≤ xs.length → Pv i σ H → SqL K H a xs)
    (hs : ∀ i x σ H, xs[i]? = some x → Pv i σ H → g x σ H fun σ2 H2 => tb ⟨Pv (i + 1), D.rt, D.nx, Pv (i + 1)⟩ σ2 H2) (hd : ∀ σ H, Pv xs.length σ H → D.nx σ H) : ForGo (Itl K a) g tb D σ H := for_list Pv h0 hl hs hd
theorem fgT {g : TG} {tb : TS} (Pv : Nat → L2.St → Hp → Prop) (h0 : Pv 0 σ H) (hl : ∀ i σ H, i ≤ xs.length → Pv i σ H → SqT K H a xs)
    (hs : ∀ i x σ H, xs[i]? = some x → Pv i σ H → g x σ H fun σ2 H2 => tb ⟨Pv (i + 1), D.rt, D.nx, Pv (i + 1)⟩ σ2 H2) (hd : ∀ σ H, Pv xs.length σ H → D.nx σ H) : ForGo (Itt K a) g tb D σ H := for_tup Pv h0 hl hs hd
theorem fgR {lo : Int} {n : Nat} {g : TG} {tb : TS} (Pv : Nat → L2.St → Hp → Prop) (h0 : Pv 0 σ H)
    (hs : ∀ i σ H, i < n → Pv i σ H → g (.int (lo + i)) σ H fun σ2 H2 => tb ⟨Pv (i + 1), D.rt, D.nx, Pv (i + 1)⟩ σ2 H2) (hd : ∀ σ H, Pv n σ H → D.nx σ H) : ForGo (Itr lo n) g tb D σ H := for_range Pv h0 hs hd
theorem w_g {P : L2.St → Hp → Prop} (h : P (σ.set i (some v)) H) : gName i v σ H P := h
theorem w_append {l : Addr} (e : H l = some (.lst xs)) (z : xs.length < sizeLine) (h : Q .non (upd H l (.lst (xs ++ [y])))) : rAppend (.ref l) [y] H Q := ⟨l, xs, y, rfl, rfl, e, z, h⟩
theorem w_pop {l : Addr} (e : H l = some (.lst xs)) (z : xs[xs.length - 1]? = some y) (h : Q y (upd H l (.lst xs.dropLast))) : tyV K "list" (.ref l) H ∧ rPop (.ref l) [] H Q := ⟨tyL e, l, xs, y, rfl, rfl, e, z, h⟩
theorem w_setL {l : Addr} {k : Int} {j : Nat} {N : Hp → Prop} (e : H l = some (.lst xs)) (z : ixN xs.length k = some j) (h : N (upd H l (.lst (xs.set j v)))) : rSetL (.ref l) (.int k) v H N := ⟨l, xs, k, j, rfl, rfl, e, z, h⟩
end

/-! ### ints as data -/
def dInts (ns : List Int) : List PyData := ns.map .int
section
variable {K : PySem.W.Frag} {H : Hp}
theorem dp_ints : ∀ ns : List Int, DpAll K H (ns.map V.int) (dInts ns)
  | [] => .nil
  | n :: ns => .cons (.int n) (dp_ints ns)
theorem lay_ints : ∀ ns : List Int, PyData.canLayAll0 (dInts ns) = true
  | [] => rfl
  | n :: ns => by
    show (PyData.canLay0 (.int n) && PyData.canLayAll0 (dInts ns)) = true
    rw [lay_ints ns]
    rfl
theorem dep_ints : ∀ ns : List Int, PyData.depthAll (dInts ns) = 0
  | [] => rfl
  | n :: ns => by
    show max (PyData.depth (.int n)) (PyData.depthAll (dInts ns)) = 0
    rw [dep_ints ns]
    rfl
theorem shp_list (ns : List Int) : SeqAt.shaped (.list (dInts ns)) = true := by
  unfold SeqAt.shaped
  rw [show PyData.canLay0 (.list (dInts ns)) = PyData.canLayAll0 (dInts ns) from rfl, lay_ints, show PyData.depth (.list (dInts ns)) = PyData.depthAll (dInts ns) + 1 from rfl, dep_ints]
  rfl
theorem shp_tup (ns : List Int) : SeqAt.shaped (.tuple (dInts ns)) = true := by
  unfold SeqAt.shaped
  rw [show PyData.canLay0 (.tuple (dInts ns)) = PyData.canLayAll0 (dInts ns) from rfl, lay_ints, show PyData.depth (.tuple (dInts ns)) = PyData.depthAll (dInts ns) + 1 from rfl, dep_ints]
  rfl
theorem eqv_ints : ∀ ns ms : List Int, PyData.eqvAll (dInts ns) (dInts ms) = decide (ns = ms)
  | [], [] => rfl
  | [], m :: ms => rfl
  | n :: ns, [] => rfl
  | n :: ns, m :: ms => by
    show ((n == m) && PyData.eqvAll (dInts ns) (dInts ms)) = _
    rw [eqv_ints ns ms]
    by_cases h : n = m
    · subst h
      by_cases h2 : ns = ms
      · subst h2
        simp
      · simp [h2]
    · simp [h]
theorem w_neL {x y : Addr} {ns ms : List Int} {Q : VK} (hx : SqL K H x (ns.map V.int)) (hy : SqL K H y (ms.map V.int)) (h : Q (.bl (!decide (ns = ms))) H) : aNe K (.ref x) (.ref y) H Q :=
  .inr ⟨.list (dInts ns), .list (dInts ms), .lst hx (dp_ints ns), .lst hy (dp_ints ms), shp_list ns, shp_list ms, by
    rw [show PyData.eqv (.list (dInts ns)) (.list (dInts ms)) = PyData.eqvAll (dInts ns) (dInts ms) from rfl, eqv_ints]
    exact h⟩
theorem w_eqT {x y : Addr} {ns ms : List Int} {Q : VK} (hx : SqT K H x (ns.map V.int)) (hy : SqT K H y (ms.map V.int)) (h : Q (.bl (decide (ns = ms))) H) : aEq K (.ref x) (.ref y) H Q :=
  .inr ⟨.tuple (dInts ns), .tuple (dInts ms), .tup hx (dp_ints ns), .tup hy (dp_ints ms), shp_tup ns, shp_tup ms, by
    rw [show PyData.eqv (.tuple (dInts ns)) (.tuple (dInts ms)) = PyData.eqvAll (dInts ns) (dInts ms) from rfl, eqv_ints]
    exact h⟩
end

/-! ### the deal -/
/-- the deal at a: its cells at l -/
structure DealAt (H : Hp) (a l : Addr) : Prop where
  ne : l ≠ a
  ex : ∃ (ns : List Int) (b : Int), H a = some (.lst [.ref l, .int b]) ∧ H l = some (.lst (ns.map V.int)) ∧ (∀ n ∈ ns, 0 ≤ n) ∧ ns.length ≤ 48 ∧ 0 ≤ b ∧ b < 2147483647
/-- all else stands as it stood -/
def Fr (a l : Addr) (H H' : Hp) : Prop := ∀ b o, H b = some o → b ≠ a → b ≠ l → H' b = some o
theorem Fr.refl {a l : Addr} {H : Hp} : Fr a l H H := fun _ _ e _ _ => e
theorem Fr.trans {a l : Addr} {H H1 H2 : Hp} (x : Fr a l H H1) (y : Fr a l H1 H2) : Fr a l H H2 := fun b o e h1 h2 => y b o (x b o e h1 h2) h1 h2
theorem Fr.same {a l : Addr} {H H1 : Hp} (x : Same H H1) : Fr a l H H1 := fun b o e _ _ => x b o e
theorem Fr.updA {a l : Addr} {H H1 : Hp} {o : HO} (x : Fr a l H H1) : Fr a l H (upd H1 a o) := fun b o e h1 h2 => by
  rw [upd_ne h1]
  exact x b o e h1 h2
theorem Fr.updL {a l : Addr} {H H1 : Hp} {o : HO} (x : Fr a l H H1) : Fr a l H (upd H1 l o) := fun b o e h1 h2 => by
  rw [upd_ne h2]
  exact x b o e h1 h2
theorem Fr.newT {a l p : Addr} {H H1 : Hp} {o : HO} (x : Fr a l H H1) (h : H1 p = none) : Fr a l H (upd H1 p o) := fun b o e h1 h2 => by
  have q := x b o e h1 h2
  rw [upd_ne (ne_of_none q h)]
  exact q
theorem DealAt.same {H H' : Hp} {a l : Addr} (d : DealAt H a l) (e : Same H H') : DealAt H' a l := by
  obtain ⟨ne, ns, b, h1, h2, h3⟩ := d
  exact ⟨ne, ns, b, e _ _ h1, e _ _ h2, h3⟩
theorem DealAt.keep {H H' : Hp} {a l c : Addr} {o : HO} (d : DealAt H a l) (f : Fr a l H H') (e : H c = some o) (ho : ∀ xs, o ≠ .lst xs) : H' c = some o := by
  obtain ⟨ne, ns, b, h1, h2, h3⟩ := d
  refine f c o e (fun z => ?_) (fun z => ?_)
  · subst z
    rw [e] at h1
    exact ho _ (Option.some.inj h1)
  · subst z
    rw [e] at h2
    exact ho _ (Option.some.inj h2)
theorem DealAt.sqT {K : PySem.W.Frag} {H H' : Hp} {a l c : Addr} {xs : List V} (d : DealAt H a l) (f : Fr a l H H') (h : SqT K H c xs) : SqT K H' c xs := by
  rcases h with (h | ⟨o, h⟩) | h
  · exact .inl (.inl (d.keep f h fun _ e => by cases e))
  · exact .inl (.inr ⟨o, d.keep f h fun _ e => by cases e⟩)
  · exact .inr h
theorem Fr.sqL {K : PySem.W.Frag} {H H' : Hp} {a l c : Addr} {xs : List V} (f : Fr a l H H') (h : SqL K H c xs) (n1 : c ≠ a) (n2 : c ≠ l) : SqL K H' c xs := by
  rcases h with (h | ⟨o, h⟩) | h
  · exact .inl (.inl (f _ _ h n1 n2))
  · exact .inl (.inr ⟨o, f _ _ h n1 n2⟩)
  · exact .inr h
theorem map_drop_last (ns : List Int) : (ns.map V.int).dropLast = (ns.dropLast).map V.int := by
  rw [List.map_dropLast]
theorem at_last {ns : List Int} (h : ns ≠ []) : atI (ns.map V.int) (-1) = some (.int (ns.getLast h)) := by
  have hp : 0 < ns.length := List.length_pos_iff.mpr h
  unfold atI ixN
  rw [List.length_map, if_neg (by omega), if_pos (by omega)]
  show (ns.map V.int)[(-1 + (ns.length : Int)).toNat]? = _
  rw [show (-1 + (ns.length : Int)).toNat = ns.length - 1 by omega, List.getElem?_map, ← List.getLast?_eq_getElem?, List.getLast?_eq_some_getLast h]
  rfl
theorem get_last {ns : List Int} (h : ns ≠ []) : (ns.map V.int)[(ns.map V.int).length - 1]? = some (.int (ns.getLast h)) := by
  rw [List.length_map, List.getElem?_map, ← List.getLast?_eq_getElem?, List.getLast?_eq_some_getLast h]
  rfl
theorem mem_drop_last {ns : List Int} {n : Int} (h : n ∈ ns.dropLast) : n ∈ ns := List.dropLast_subset ns h
theorem last_mem {ns : List Int} (h : ns ≠ []) : ns.getLast h ∈ ns := List.getLast_mem h
theorem none_same {H H' : Hp} {b : Addr} (e : Same H H') (h : H' b = none) : H b = none := by
  cases q : H b with
  | none => rfl
  | some o =>
    rw [e b o q] at h
    cases h
theorem cut_to (xs : List V) (n : Nat) : cutV xs none (some (n : Int)) = xs.take n := by
  unfold cutV
  show List.take (HT.sIx xs.length xs.length (some (n : Int)) - 0) (xs.drop 0) = _
  rw [List.drop_zero, Nat.sub_zero]
  have : HT.sIx xs.length xs.length (some (n : Int)) = min n xs.length := HT.sIx_nat _ _ _
  rw [this]
  rcases Nat.le_total n xs.length with h | h
  · rw [Nat.min_eq_left h]
  · rw [Nat.min_eq_right h, List.take_length, List.take_of_length_le h]
theorem abs_nat (i : Int) : (if i < 0 then -i else i) = ((i.natAbs : Nat) : Int) := by
  split <;> omega
/-- a number below n is drawn -/
def spAny : Sp := fun vs H Q _ => ∃ (a l : Addr) (n : Int), vs = [.ref a, .int n] ∧ 0 < n ∧ n < 2 ^ 100 ∧ DealAt H a l ∧ ∀ r H', 0 ≤ r → r < n → DealAt H' a l → Fr a l H H' → Q (.int r) H'
/-- one of some ints is drawn -/
def spOf (K : PySem.W.Frag) : Sp := fun vs H Q _ => ∃ (a l s : Addr) (xs : List V), vs = [.ref a, .ref s] ∧ DealAt H a l ∧ SqL K H s xs ∧ s ≠ a ∧ s ≠ l ∧ 0 < xs.length ∧ xs.length ≤ 2 ^ 24 ∧
  ∀ x ∈ xs, ∀ H', DealAt H' a l → Fr a l H H' → Q x H'
/-- the deal is laid -/
def spDraw (K : PySem.W.Frag) : Sp := fun vs H Q _ => ∃ (p : Addr) (ns : List Int) (z : Int), vs = [.ref p, .int z] ∧ SqL K H p (ns.map V.int) ∧ 0 ≤ z ∧ z < 10000 ∧
  ∀ a l H', H a = none → H l = none → DealAt H' a l → Same H H' → Q (.ref a) H'
end NL
set_option maxRecDepth 100000
set_option maxHeartbeats 2000000
/-! The end of a law by a guarded promise, its tables of code objects at hand; lambdas handed to a def that hears one error. -/
namespace NL
open PySem PySem.Spec PyProof.Rows L2

/-- the tables' places -/
abbrev tabs (cs : List (Addr × Addr)) : List Addr := cs.map (·.2)
/-- what is tracked at the entry: the script, if it is no object of the module, and the empty tables -/
structure AtEntryT (K : PySem.W.Frag) (a : Addr) (ob : Obj) (xs : List V) (cs : List (Addr × Addr)) (H : Hp) : Prop where
  one : ∀ b u, H b = some u → (b = a ∧ u = .frz ob (.lst xs)) ∨ (b ∈ tabs cs ∧ u = .tbl #[])
  tb : ∀ p ∈ cs, H p.2 = some (.tbl #[])
  own : ∀ u, H a = some u → K.lookup a = none
  red : SqL K H a xs
theorem entry_mkT {K : PySem.W.Frag} {h : Heap} {a : Addr} {us : List Value} {xs : List V} {cs : List (Addr × Addr)} (KX : K.In h)
    (ha : h.get? a = some { cls := .type "list", data := .seq us.toArray }) (r : Vals xs us) (hz : us.length ≤ sizeLine)
    (na : a ∉ tabs cs) : ∃ H : Hp, AtEntryT K a { cls := .type "list", data := .seq us.toArray } xs cs H := by
  obtain ⟨H0, E⟩ := entry_mk KX ha r hz
  refine ⟨fun b => if b ∈ tabs cs then some (.tbl #[]) else H0 b, fun b u e => ?_, fun p hp => ?_, fun u e => ?_, ?_⟩
  · by_cases hb : b ∈ tabs cs
    · have e' := (if_pos hb).symm.trans e
      exact .inr ⟨hb, (Option.some.inj e').symm⟩
    · have e' := (if_neg hb).symm.trans e
      exact .inl (E.one b u e')
  · exact if_pos (List.mem_map.mpr ⟨p, hp, rfl⟩)
  · exact E.own u ((if_neg na).symm.trans e)
  · have at_a : (fun b => if b ∈ tabs cs then some (HO.tbl #[]) else H0 b) a = H0 a := if_neg na
    rcases E.red with (q | ⟨o, q⟩) | q
    · exact .inl (.inl (at_a.trans q))
    · exact .inl (.inr ⟨o, at_a.trans q⟩)
    · exact .inr q

theorem call_lawT {P : Program} {w : World} {K : PySem.W.Frag} {mg mb : Str → Option Value} {CX : CXT} {k : Nat} {fa a : Addr} {cs : List (Addr × Addr)}
    {fd : FuncData} {x : Str} {sp : Sp} {s₁ : Shared} {us : List Value} {ns : List Int}
    (KX : K.In s₁.heap) (hns : s₁.heap.Ns mainGlobals mg) (hb : s₁.heap.Ns builtinsNs mb)
    (hbb : ∀ x : Str, x ≠ "__name__" → mb x = bootBuiltins x) (hlim : s₁.heap.NoLimit) (hg : s₁.gens = #[])
    (tabAt : ∀ p ∈ cs, s₁.heap.get? p.2 = some { cls := .none, data := .fields #[] }) (tabK : ∀ p ∈ cs, K.lookup p.2 = none)
    (heads : ∀ p ∈ cs, PySem.W.CodeHd s₁.heap p.1 p.2)
    (hbm : ∃ (bm : Addr) (ob : Obj), mg "__builtins__" = some (.ref bm) ∧ bm ≠ builtinsNs ∧ s₁.heap.get? bm = some ob ∧
      ob.cls = .type "module" ∧ ob.dict = some builtinsNs ∧ ob.data = .plain)
    (ha : s₁.heap.get? a = some { cls := .type "list", data := .seq us.toArray }) (hi : IntsAre us ns)
    (hl : ns.length ≤ sizeLine) (hr : Room k callerA)
    (F : ∀ base : Heap, K.In base → base.Ns mainGlobals mg → (∀ p ∈ cs, LamX.TabB base mg p.1 p.2) → FnG P w K mg base CX k fa fd [x] sp)
    (hbind : ∀ (s : Shared) (u : Value), BindsTo s fd ⟨[u], []⟩ [(x, u)])
    (hsp : ∀ H : Hp, (∀ p ∈ cs, H p.2 = some (.tbl #[])) → SqL K H a (ns.map V.int) → sp [.ref a] H (fun v _ => v = .bl true) fun _ _ _ => False)
    (hCX : ∀ H e s', CX [] H s₁ (fun _ _ _ => False) e s' → False) :
    codeAny (model P w) callerA (.call (.ref fa) ⟨[.ref a], []⟩)
      (fun r s' => r = .ok (.ret (.bool true)) ∧ OldK s₁.heap s'.heap ∧ s'.os = s₁.os ∧ AllBare s'.gens) s₁ := by
  have rv := vals_ints hi
  have hlu : us.length ≤ sizeLine := by
    rw [← hi.length] at hl
    exact hl
  have tabOf : ∀ b ∈ tabs cs, s₁.heap.get? b = some { cls := .none, data := .fields #[] } := by
    intro b hb
    obtain ⟨p, hp, rfl⟩ := List.mem_map.mp hb
    exact tabAt p hp
  have na : a ∉ tabs cs := by
    intro z
    have q := (tabOf a z).symm.trans ha
    have d : Data.fields #[] = Data.seq us.toArray _ := congrArg Obj.data (Option.some.inj q)
    cases d
  obtain ⟨H, E⟩ := entry_mkT (cs := cs) KX ha rv hlu na
  have still : ∀ {b : Addr} {o : Obj}, s₁.heap.get? b = some o → H b = none → (hidT s₁.heap H).get? b = some o := fun e n => hidT_get e n
  -- an object that is no sequence and no empty table is not tracked
  have free : ∀ {b : Addr} {o : Obj}, s₁.heap.get? b = some o → (∀ vs n, o.data ≠ .seq vs n) → o.data ≠ .fields #[] → H b = none := by
    intro b o e d1 d2
    match hb : H b with
    | none => rfl
    | some u =>
      rcases E.one b u hb with ⟨rfl, _⟩ | ⟨m, _⟩
      · cases e.symm.trans ha
        exact absurd rfl (d1 _ _)
      · cases e.symm.trans (tabOf b m)
        exact absurd rfl d2
  have ns' : ∀ {b : Addr} {m : Str → Option Value}, s₁.heap.Ns b m → (hidT s₁.heap H).Ns b m := by
    intro b m q
    obtain ⟨o, es, ep, e, d, r⟩ := q
    exact ⟨o, es, ep, still e (free e (fun vs n z => by rw [d] at z; cases z) fun z => by rw [d] at z; cases z), d, r⟩
  have KB : K.In (hidT s₁.heap H) := by
    intro b o e
    refine still (KX b o e) ?_
    match hb : H b with
    | none => rfl
    | some u =>
      rcases E.one b u hb with ⟨rfl, _⟩ | ⟨m, _⟩
      · rw [E.own u hb] at e
        cases e
      · obtain ⟨p, hp, rfl⟩ := List.mem_map.mp m
        rw [tabK p hp] at e
        cases e
  have lim' : (hidT s₁.heap H).NoLimit := by
    obtain ⟨mc, h1, h2⟩ := hlim
    exact ⟨mc, ns' h1, h2⟩
  have hok : HOk P w H s₁.heap := by
    intro b u e
    rcases E.one b u e with ⟨rfl, rfl⟩ | ⟨m, rfl⟩
    · exact ⟨ha, by rw [List.length_map]; exact hl, us, _, rv, ha⟩
    · exact tabOf b m
  have TB : ∀ p ∈ cs, LamX.TabB (hidT s₁.heap H) mg p.1 p.2 := by
    intro p hp
    have tp := tabAt p hp
    constructor
    · obtain ⟨o, vs, fl, tf, fg, tg, inF, tx, tt, e1, c1, c2, rest⟩ := heads p hp
      refine ⟨o, vs, fl, tf, fg, tg, inF, tx, tt, still e1 (free e1 (fun vs n z => ?_) fun z => ?_), c1, c2, rest⟩
      · rw [c2] at z
        cases z
      · rw [c2] at z
        cases z
        obtain ⟨r3, _⟩ := rest
        simp at r3
    · obtain ⟨bm, ob, b1, b2, b3, b4, b5, b6⟩ := hbm
      have nP : bm ≠ p.2 := by
        rintro rfl
        cases b3.symm.trans tp
        cases b6
      have nG : bm ≠ mainGlobals := by
        rintro rfl
        obtain ⟨o, es, ep, e, d, _⟩ := hns
        cases b3.symm.trans e
        cases b6.symm.trans d
      exact ⟨bm, ob, b1, b2, nG, nP, still b3 (free b3 (fun vs n z => by cases b6.symm.trans z) fun z => by cases b6.symm.trans z), b4, b5, b6⟩
    · intro z
      obtain ⟨o, es, ep, e, d, _⟩ := hns
      rw [z] at e
      cases e.symm.trans tp
      cases d
  have e0 : Env0 P w K mg (hidT s₁.heap H) callerA [] s₁ H :=
    { frames := rfl, mod := ⟨KB, ns' hns, ⟨mb, ns' hb, hbb⟩, lim'⟩, bs := fun b o e => of_hidT e,
      bsz := Nat.le_of_eq (hidT_size _ _), funs := trivial, frf := fun b z => absurd (show b ∈ ([] : List Addr) from z) (by simp),
      hok := hok, bare := .of_eq hg }
  have run := (F _ KB (ns' hns) TB).runG callerA [] s₁ H ⟨[.ref a], []⟩ [.ref a] [.ref a] (fun v _ => v = .bl true) (fun _ _ _ => False)
    rfl hr e0 (hbind s₁ (.ref a)) (.cons rfl .nil) (hsp H E.tb E.red)
  refine codeAny_mono run fun res s' hq => ?_
  match res, hq with
  | .error e, hq => exact (hCX H e s' hq).elim
  | .ok (.ret u), hq =>
    obtain ⟨v, H', os, bare, un, hok', r', q⟩ := hq
    subst q
    obtain rfl : u = Value.bool true := r'
    have plainOnes : ∀ b o, b ∉ tabs cs → s₁.heap.get? b = some o → s'.heap.get? b = some o := by
      intro b o nb e
      match hb : H b with
      | none => exact un.keep b o e hb (fun z => absurd (show b ∈ ([] : List Addr) from z) (by simp)) (by simp)
      | some u =>
        rcases E.one b u hb with ⟨rfl, rfl⟩ | ⟨m, _⟩
        · obtain ⟨e1, _⟩ := hok b _ hb
          obtain ⟨e2, _⟩ := hok' b _ (un.frzs b _ _ hb)
          cases e.symm.trans e1
          exact e2
        · exact absurd m nb
    have tabOnes : ∀ p ∈ cs, ∃ more : Array Value, s'.heap.get? p.2 = some { cls := .none, data := .fields more } := by
      intro p hp
      obtain ⟨more, z⟩ := un.tbls p.2 #[] (E.tb p hp)
      exact ⟨_, hok' p.2 _ z⟩
    refine ⟨rfl, ⟨fun b o e => ?_, fun b o e => ?_⟩, os, bare⟩
    · by_cases m : b ∈ tabs cs
      · obtain ⟨p, hp, rfl⟩ := List.mem_map.mp m
        obtain ⟨more, hm⟩ := tabOnes p hp
        cases e.symm.trans (tabAt p hp)
        refine .inr (.inl ⟨((heads p hp).tab (tabAt p hp)).isCodeTable, rfl, #[], more, rfl, ?_⟩)
        rw [Array.empty_append]
        exact hm
      · exact .inl (plainOnes b o m e)
    · by_cases m : b ∈ tabs cs
      · obtain ⟨p, hp, rfl⟩ := List.mem_map.mp m
        obtain ⟨more, hm⟩ := tabOnes p hp
        exact ⟨_, hm⟩
      · exact ⟨o, plainOnes b o m e⟩

/-- what is known of the law's def at the head's heap -/
def LawG (l : PySem.W.OpenLaw) (w : World) (K : PySem.W.Frag) (CX : CXT) (k n : Nat) (x : Str) (mg : Str → Option Value) (fa : Addr) (h : Heap) : Prop :=
  ∃ (fd : FuncData) (cs : List (Addr × Addr)) (sp : Sp), (∀ p ∈ cs, h.get? p.2 = some { cls := .none, data := .fields #[] } ∧ K.lookup p.2 = none ∧ PySem.W.CodeHd h p.1 p.2) ∧
    (∀ (s : Shared) (u : Value), BindsTo s fd ⟨[u], []⟩ [(x, u)]) ∧
    (∀ (H : Hp) (a : Addr) (ns : List Int), ns.length ≤ n → (∀ z ∈ ns, Builtin.Int.intBits z ≤ 1048576) → (∀ p ∈ cs, H p.2 = some (.tbl #[])) → SqL K H a (ns.map V.int) →
      sp [.ref a] H (fun v _ => v = .bl true) fun _ _ _ => False) ∧
    ∀ base : Heap, K.In base → base.Ns mainGlobals mg → (∀ p ∈ cs, LamX.TabB base mg p.1 p.2) → FnG l.prog w K mg base CX k fa fd [x] sp
/-- the goal that k_head leaves, from the law's def -/
theorem walkGT {l : PySem.W.OpenLaw} {n k : Nat} {q : Program} {loose : List Str} {XP : (Str → Option Value) → Heap → Prop}
    {YP : World → Heap → Prop} {d : DefRec} {K : Params → PySem.W.Frag} {CX : CXT} {x : Str}
    (hn : l.most = some n) (hn2 : n ≤ sizeLine) (hdf : d.params.defaults = []) (hr : Room k callerA)
    (hY : ∀ (w : World) (h : Heap), YP w h → (K w.params).In h)
    (F : ∀ (w : World) (mg : Str → Option Value) (fa : Addr) (h : Heap), YP w h → (K w.params).In h → h.Ns mainGlobals mg → mg d.name = some (.ref fa) →
      LawG l w (K w.params) CX k n x mg fa h)
    (hCX : ∀ (H : Hp) (s : Shared) (e : Value) (s' : Shared), CX [] H s (fun _ _ _ => False) e s' → False) :
    PySem.W.WalkO q loose XP YP l.row.toRowW d [] (fun f vs => PySem.call f vs) := by
  refine Att.attach_callB hn hdf fun w s₀ s₁ mg mb fa o pm cd doc a vs ns G Y ho hd hcd hmg hobj hints hlen hbits hg => ?_
  obtain ⟨fd, cs, sp, ht, hb, hsp, hF⟩ := F w mg fa _ Y (hY w _ Y) G.T.g hmg
  exact call_lawT (hY w _ Y) G.T.g G.T.b G.T.builtins G.T.nolimit hg (fun p hp => (ht p hp).1) (fun p hp => (ht p hp).2.1) (fun p hp => (ht p hp).2.2) G.T.bmain
    hobj hints (Nat.le_trans hlen hn2) hr hF hb (fun H hH hS => hsp H a ns hlen hbits hH hS) fun H e s' => hCX H s₁ e s'

/-! ### defs whose code object is known -/
def DefC (K : PySem.W.Frag) (mg : Str → Option Value) (x : Str) (st : Stmt) (ps : List Str) (c : Addr) : Prop :=
  ∃ f fd, Fun K x x st f fd ∧ mg x = some (.ref f) ∧ Binds K fd ps [] ∧ fd.code = .ref c
theorem DefC.def {K : PySem.W.Frag} {mg : Str → Option Value} {x : Str} {st : Stmt} {ps : List Str} {c : Addr} (D : DefC K mg x st ps c) : Def K mg x st ps := by
  obtain ⟨f, fd, F, g, b, _⟩ := D
  exact ⟨f, fd, F, g, b⟩
section
variable {P : Program} {w : World} {K : PySem.W.Frag} {mg : Str → Option Value} {base : Heap} {x : Str} {st : Stmt} {N ps : List Str} {k : Nat} {sp : Sp} {c : Addr}
theorem keepGC (D : DefC K mg x st ps c) (S : FnScope N ps (defScope st)) (len : ∀ vs H Q E, sp vs H Q E → vs.length = ps.length)
    (hb : ∀ (f : Addr) (A : Around) (outer : List Env) (s : Shared) (H : Hp) (vs : List V) (Q : VK) (E : XK), A.guards = some [] → Room k (A.deeper (envOfC x (defScope st) s.heap.objs.size f (.ref c))) → sp vs H Q E →
      ∃ t, PSs (cxOf CX0 P w K mg base N x (defScope st) f (.ref c) A outer s H E).nox (defBody st) t ∧ t { nx := fun _ H' => Q .non H', rt := Q } (start N vs) H) :
    KeptG P w K mg base CX0 (k + 1) x st ps sp := by
  obtain ⟨f, fd, F, g, b, hc⟩ := D
  have G : FnG P w K mg base CX0 (k + 1) f fd ps sp := by
    obtain ⟨oc, od, kV, doc, pm, an, cdv, ct, osl, rfl, lk, hcd⟩ := F.ex
    have e : cdv = .ref c := hc
    subst e
    refine ⟨len, fun A outer s H args us vs Q E hg hr e0 hbd r hsp => ?_⟩
    refine LamX.run_ofS lk hcd S hr e0 hbd r (len _ _ _ _ hsp) fun hr' => ?_
    obtain ⟨t, h, q⟩ := hb f A outer s H vs Q E hg hr' hsp
    exact ⟨t, h.nox, q⟩
  exact ⟨f, fd, F, g, b, G⟩
end

/-! ### a lambda handed to a def that hears one error and answers what it bears -/
/-- the error of the class C that is heard: the clause names Cx, the look is for Cn -/
structure Heard (K : PySem.W.Frag) (C Cx Cn : Addr) : Prop where
  yes : PySem.W.exmOne K (.ref C) (.ref Cx) = some true
  ec : ExcC K C
  isn : PySem.W.kitOne K (.ref C) (.ref Cn) = some true
  noAt : PySem.W.findIn K (.ref C) "at" = some none
/-- try: a() / except Cx as e: return e.at if isinstance(e, Cn) else None / return None -/
def TRef (K : PySem.W.Frag) (Cx Cn : Addr) : (XK → Hp → VK → Prop) → Hp → VK → Prop := fun tl H Q =>
  tl (fun cls d H' => ∃ (C dd : Addr) (v : V), cls = .ref C ∧ d = some dd ∧ Heard K C Cx Cn ∧ H' dd = some (.xd [("at", v)]) ∧ Q v H') H fun _ H' => Q .non H'
/-- the call of what was handed in, as a statement; n slots -/
def tAct (n : Nat) (f c' : Addr) (q : Str) (tl : XK → Hp → VK → Prop) (W : WX) : TS := fun D σ H => ∃ Ech : XK, (∀ cls d σ' H', σ'.length = n → Ech cls d H' → W cls d σ' H') ∧
  σ[0]? = some (some (.ref f)) ∧ H c' = some (LamX.CodeO c' q) ∧ tl Ech H fun _ H' => D.nx σ H'
section
variable {X Y : Cx} {f c' : Addr} {q a : Str} {tl : XK → Hp → VK → Prop}
/-- the call read by its act -/
def Acts (Y : Cx) (f c' : Addr) (q a : Str) (tl : XK → Hp → VK → Prop) : Prop := ∀ (W : WX) (pn : List (Addr × Obj)) (xe : Value → Shared → Prop) (E : XK) (p1 p2 : Pos), Takes (Y.tr pn xe) W → (∀ cls d σ' H', E cls d H' → W cls d σ' H') →
      PE (Y.tr pn xe) (.Call (.Name a p1) [] [] p2) (fun σZ HZ Q => σZ[0]? = some (some (.ref f)) ∧ HZ c' = some (LamX.CodeO c' q) ∧ tl E HZ Q)
theorem takes_len {W : WX} (t : Takes X W) : Takes X (fun cls d σ H => σ.length = X.N.length → W cls d σ H) := fun u s' ⟨a, B, sI, pins, σ, H, cls, d, e, I, nb, up, sky, na, os, ag, w⟩ =>
  t u s' ⟨a, B, sI, pins, σ, H, cls, d, e, I, nb, up, sky, na, os, ag, w I.len⟩
theorem pss_act {W : WX} {pn : List (Addr × Obj)} {xe : Value → Shared → Prop} {p1 p2 p3 : Pos} (act : Acts Y f c' q a tl) (tk : Takes (Y.tr pn xe) W) :
    PSs (Y.tr pn xe) [.Expr (.Call (.Name a p1) [] [] p2) p3] (tAct Y.N.length f c' q tl W) := by
  constructor
  intro pins s σ H D I h
  obtain ⟨Ech, hW, h1, h2, h3⟩ := h
  exact (pss_one (ps_expr (act _ pn xe Ech p1 p2 (takes_len tk) fun cls d σ' H' he hl => hW cls d σ' H' hl he))).run pins s σ H D I ⟨h1, h2, h3⟩
/-- x(lambda: e): x a kept def -/
theorem pk_lam {T : List (Addr × Str)} {TT : (XK → Hp → VK → Prop) → Hp → VK → Prop} {x : Str} {st : Stmt} {c P : Addr} {k : Nat} {Ng : List Str} {params : Arguments} {body : Expr} {scope : Scope} {t : XK → TE} {p lpos pos : Pos}
    (D : Def X.K X.mg x st [a]) (Sg : FnScope Ng [a] (defScope st)) (hNg : Ng[0]? = some a) (hva : Vis (defScope st) a)
    (hG : ∀ g cdg, LamX.GivesTo X Ng x (defScope st) g cdg (defBody st) a (X.env.qual ++ "<lambda>") TT)
    (TB : LamX.TabB X.base X.mg c P) (hcode : X.env.code = .ref c) (hmT : (P, X.env.qual ++ "<lambda>") ∈ T) (hu : ∀ p ∈ T, p.1 = P → p.2 = X.env.qual ++ "<lambda>")
    (hr : Room (k + 2) X.A) (L : LamX.LamS X.env.scope scope)
    (hbody : ∀ (A : Around) (outer : List Env) (s : Shared) (H : Hp) (E : XK) (f c' : Addr), Room k (A.deeper (LamX.lamEnv X scope s.heap.objs.size f c')) → PE (LamX.lamCx X A outer s H E scope f c') body (t E))
    (hg : Gl X x := by rfl) (hdef : defaultsOf params X.env = ([], []) := by rfl)
    (hbind : ∀ (q : Str) (cl : List (Str × Addr)) (pm cv ctv : Value), bindArgs (PySem.W.kla_fn "<lambda>" q params body scope cl pm cv ctv) ⟨[], []⟩ = pure [] := by intros; rfl)
    (hdb : (x == ("__debug__" : Str)) = false := by decide) (hd : (a == ("__debug__" : Str)) = false := by decide) (hcd : (a == ("__classdict__" : Str)) = false := by decide) :
    PE X (.Call (.Name x p) [.Lambda params body scope lpos] [] pos) (LamX.tLam T TT t) := by
  obtain ⟨g, fd, F, hm, b⟩ := D
  obtain ⟨oc, od, kV, doc, pm, an, cdv, ct, osl, rfl, lk, hcd'⟩ := F.ex
  exact LamX.pe_lamcall hg hm F.kp lk hcd' b Sg hNg hva (hG g cdv) TB hcode hmT hu hr L hdef hbind hbody hdb hd hcd
end
/-! ### what stays through a lambda's call -/
section
open LamX
theorem ExtN.seqT {K : PySem.W.Frag} {H H' : Hp} {c : Addr} {xs : List V} (e : ExtN H H') (h : SqT K H c xs) : SqT K H' c xs := by
  rcases h with (h | ⟨o, h⟩) | h
  · exact .inl (.inl (e _ _ h fun _ z => by cases z))
  · exact .inl (.inr ⟨o, e _ _ h fun _ z => by cases z⟩)
  · exact .inr h
theorem DealAt.extN {H H' : Hp} {a l : Addr} (d : DealAt H a l) (e : ExtN H H') : DealAt H' a l := by
  obtain ⟨ne, ns, b, h1, h2, h3⟩ := d
  exact ⟨ne, ns, b, e _ _ h1 (fun _ z => by cases z), e _ _ h2 (fun _ z => by cases z), h3⟩
theorem DealAt.tabs {H H' : Hp} {a l : Addr} {T : List (Addr × Str)} (d : DealAt H a l) (f : Fr a l H H') (t : Tabs T H) : Tabs T H' := by
  intro p hp
  obtain ⟨ps, h1, h2, h3⟩ := t p hp
  refine ⟨ps, d.keep f h1 (fun _ z => by cases z), h2, fun pos cv hc => ?_⟩
  obtain ⟨c, e, q⟩ := h3 pos cv hc
  exact ⟨c, e, d.keep f q (fun _ z => by unfold CodeO at z; cases z)⟩
end
end NL
set_option maxRecDepth 100000
set_option maxHeartbeats 2000000
/-! repr of ints and tuples of ints. -/
namespace NL
open PySem PySem.Spec PyProof.Rows L2

section
variable {K : PySem.W.Frag} {H : Hp} {Q : VK}
theorem small_show {i : Int} {n : Nat} (h : i.natAbs < 2 ^ n) (h0 : 0 < n) (hn : n ≤ 1900) : i.natAbs.log2 < 1920 := Nat.lt_of_lt_of_le (PySem.Flt.log2_lt_of h0 h) (by omega)
theorem w_rprI {i : Int} (h : i.natAbs.log2 < 1920) (q : Q (.str (toString i)) H) : rRepr K [.int i] H Q :=
  ⟨.int i, .int i, rfl, .int i, decide_eq_true h, rfl, show 0 ≤ 60 by decide, Nat.le_trans (int_text_len_1921 h) (by decide +kernel), q⟩
theorem w_rprB {b : Bool} (q : Q (.str (PyData.shown (.bool b))) H) : rRepr K [.bl b] H Q :=
  ⟨.bl b, .bool b, rfl, .bl b, rfl, rfl, show 0 ≤ 60 by decide, by cases b <;> decide +kernel, q⟩
theorem showable_ints : ∀ ns : List Int, (∀ n ∈ ns, n.natAbs.log2 < 1920) → PyData.showableAll (dInts ns) = true
  | [], _ => rfl
  | n :: ns, h => by
    show (PyData.showable (.int n) && PyData.showableAll (dInts ns)) = true
    rw [showable_ints ns fun m hm => h m (List.mem_cons_of_mem _ hm), Bool.and_true]
    exact decide_eq_true (h n List.mem_cons_self)
theorem noDict_ints : ∀ ns : List Int, PyData.hasDictAll (dInts ns) = false
  | [] => rfl
  | n :: ns => by
    show (PyData.hasDict (.int n) || PyData.hasDictAll (dInts ns)) = false
    rw [noDict_ints ns]
    rfl
theorem piled_ints : ∀ ns : List Int, (∀ n ∈ ns, n.natAbs.log2 < 1920) → piled (PyData.shownAll (dInts ns)) ≤ ns.length * 1923
  | [], _ => Nat.le_refl _
  | n :: ns, h => by
    have ih := piled_ints ns fun m hm => h m (List.mem_cons_of_mem _ hm)
    have h1 : (PyData.shown (.int n)).length ≤ 1921 := int_text_len_1921 (h n List.mem_cons_self)
    show piled (PyData.shown (.int n) :: PyData.shownAll (dInts ns)) ≤ (ns.length + 1) * 1923
    rw [piled_cons]
    omega
/-- repr of a tuple of ints -/
theorem w_rprT {a : Addr} {ns : List Int} (S : SqT K H a (ns.map V.int)) (h : ∀ n ∈ ns, n.natAbs.log2 < 1920) (hl : ns.length ≤ 1000) (q : Q (.str (PyData.shown (.tuple (dInts ns)))) H) : rRepr K [.ref a] H Q := by
  refine ⟨.ref a, .tuple (dInts ns), rfl, .tup S (dp_ints ns), showable_ints ns h, noDict_ints ns, ?_, ?_, q⟩
  · show PyData.depthAll (dInts ns) + 1 ≤ 60
    rw [dep_ints]
    decide
  · have hp := piled_ints ns h
    show (tupleText (PyData.shownAll (dInts ns))).length ≤ sizeLine
    have hz : sizeLine = 16777216 := by decide +kernel
    have hj : (Str.join ", " (PyData.shownAll (dInts ns))).length ≤ piled (PyData.shownAll (dInts ns)) := by
      by_cases e : PyData.shownAll (dInts ns) = []
      · rw [e]
        decide +kernel
      · have := join_length_add _ e
        omega
    unfold tupleText
    rw [Str.length_append, Str.length_append]
    have h1 : ("(" : Str).length = 1 := by decide +kernel
    have h2 : ((if (PyData.shownAll (dInts ns)).length == 1 then ",)" else ")" : String) : Str).length ≤ 2 := by
      split <;> decide +kernel
    omega
theorem w_neS {x y : Str} (h : Q (.bl (!decide (x = y))) H) : aNe K (.str x) (.str y) H Q := .inl ⟨rfl, by
  rw [show decide (V.str x = V.str y) = decide (x = y) from decide_eq_decide.mpr ⟨fun e => by cases e; rfl, fun e => by rw [e]⟩]
  exact h⟩
theorem w_eqS {x y : Str} (h : Q (.bl (decide (x = y))) H) : aEq K (.str x) (.str y) H Q := .inl ⟨rfl, by
  rw [show decide (V.str x = V.str y) = decide (x = y) from decide_eq_decide.mpr ⟨fun e => by cases e; rfl, fun e => by rw [e]⟩]
  exact h⟩
end
section
variable {K : PySem.W.Frag} {σ : L2.St} {H : Hp} {nx bk ct : L2.St → Hp → Prop} {rt Q : VK} {te : TE} {x y v : V} {a : Addr} {xs vs : List V} {n : Nat} {t : TGs} {g : TG} {N : L2.St → Hp → Prop}
theorem w_asgT (h : te σ H fun v H1 => gTup K n t v σ H1 nx) : tAsg te (gTup K n t) ⟨nx, rt, bk, ct⟩ σ H := h
theorem w_gtup (S : SqT K H a xs) (e : xs.length = n) (h : t xs σ H N) : gTup K n t (.ref a) σ H N := ⟨a, xs, rfl, S, e, h⟩
theorem w_gcons (h : g v σ H fun σ' H' => t vs σ' H' N) : gCons g t (v :: vs) σ H N := ⟨v, vs, rfl, h⟩
theorem w_gnil (h : N σ H) : gNil [] σ H N := ⟨rfl, h⟩
theorem w_nisS {b : Bool} (h : Q (.bl false) H) : aNis (.bl b) (.bl b) H Q := .inl ⟨b, b, rfl, rfl, by rw [decide_eq_true rfl]; exact h⟩
theorem w_nisB {b c : Bool} (h : Q (.bl (!decide (b = c))) H) : aNis (.bl b) (.bl c) H Q := .inl ⟨b, c, rfl, rfl, h⟩
end
end NL
set_option maxRecDepth 100000
set_option maxHeartbeats 2000000
/-! What the end of a law gathers. -/
namespace NL
open PySem PySem.Spec PyProof.Rows L2

section
variable {P : Program} {K : PySem.W.Frag} {h : Heap} {mg : Str → Option Value}
/-- a def where the written part shows it -/
theorem def_mk {x : Str} {st : Stmt} {ps : List Str} {f : Addr} {oc : Value} {od an : Option Addr} {osl : Array (Option Value)} {kV doc pm cdv ct : Value} (X : K.In h) (G : h.Ns mainGlobals mg)
    (hx : PySem.W.nsIn K mainGlobals x = some (some (.ref f)))
    (l : K.lookup f = some ⟨oc, od, .func (PySem.W.fnOf x x (defArgs st) (defBody st) (defScope st) .none kV doc pm an cdv ct), osl⟩)
    (c : PySem.W.codeIn K cdv x = true) (k : PySem.W.keepIn K (.ref f) = true)
    (hb : ∀ (kV doc pm : Value) (an : Option Addr) (cdv ct : Value) (us : List Value), us.length = ps.length → bindArgs (PySem.W.fnOf x x (defArgs st) (defBody st) (defScope st) .none kV doc pm an cdv ct) ⟨us, []⟩ = pure (ps.zip us)) :
    Def K mg x st ps := ⟨f, _, fun_mk l c k, PySem.W.mg_of X G hx, (fun_mk l c k).binds hb⟩
theorem defC_mk {x : Str} {st : Stmt} {ps : List Str} {f c0 : Addr} {oc : Value} {od an : Option Addr} {osl : Array (Option Value)} {kV doc pm ct : Value} (X : K.In h) (G : h.Ns mainGlobals mg)
    (hx : PySem.W.nsIn K mainGlobals x = some (some (.ref f)))
    (l : K.lookup f = some ⟨oc, od, .func (PySem.W.fnOf x x (defArgs st) (defBody st) (defScope st) .none kV doc pm an (.ref c0) ct), osl⟩)
    (c : PySem.W.codeIn K (.ref c0) x = true) (k : PySem.W.keepIn K (.ref f) = true)
    (hb : ∀ (kV doc pm : Value) (an : Option Addr) (cdv ct : Value) (us : List Value), us.length = ps.length → bindArgs (PySem.W.fnOf x x (defArgs st) (defBody st) (defScope st) .none kV doc pm an cdv ct) ⟨us, []⟩ = pure (ps.zip us)) :
    DefC K mg x st ps c0 := ⟨f, _, fun_mk l c k, PySem.W.mg_of X G hx, (fun_mk l c k).binds hb, rfl⟩

/-! ### an error's class -/
theorem exm_of {C D : Addr} (h1 : PySem.W.subIn K (.ref C) (.type "BaseException") = some true) (h2 : PySem.W.isClsIn K C = true)
    (h1' : PySem.W.subIn K (.ref D) (.type "BaseException") = some true) (h2' : PySem.W.isClsIn K D = true) (h3 : PySem.W.typeIn K (.ref D) = some (.type "type"))
    {b : Bool} (h4 : PySem.W.subIn K (.ref C) (.ref D) = some b) : PySem.W.exmOne K (.ref C) (.ref D) = some b := by
  have a1 : (PySem.W.subIn K (.ref D) (.type "BaseException") == some true) = true := by rw [h1'] <;> rfl
  have a2 : ((PySem.W.clsIn K D).isSome && PySem.W.typeIn K (.ref D) == some (.type "type")) = true := by
    have q : (PySem.W.clsIn K D).isSome = true := h2'
    rw [q, h3] <;> rfl
  show (if (PySem.W.subIn K (.ref D) (.type "BaseException") == some true) = true then (if ((PySem.W.clsIn K D).isSome && PySem.W.typeIn K (.ref D) == some (.type "type")) = true then PySem.W.subIn K (.ref C) (.ref D) else none) else none) = some b
  rw [if_pos a1, if_pos a2]
  exact h4
/-- an error's __init__: super().__init__(text); self.at = at -/
def InitShape (st : Stmt) : Prop := ∃ (msg : Str) (j : Nat) (p0 p1 p2 p3 p4 p5 q1 q2 q3 q4 : Pos),
  defBody st = [.Expr (.Call (.Attribute (.Call (.Name "super" p0) [] [] p1) "__init__" p2) [.Constant (.str msg) j p3] [] p4) p5, .Assign [.Attribute (.Name "self" q1) "at" q2] (.Name "at" q3) q4] ∧
  SuperCall msg j p0 p1 p2 p3 p4 ∧ defScope st = atScope ∧ ∃ ar : Arg, ((defArgs st).posonlyargs ++ (defArgs st).args).head? = some ar ∧ ar.arg = "self"
theorem errK_mk {x qual nm q : Str} {st : Stmt} {C fI cc cda N : Addr} {bs bm : List Value} {sn : List Str} {sub : List Value} {ab : Bool} {col : Option Bool} {dd od an cdd cld : Option Addr} {k0 k1 k2 k3 k5 : Option Value}
    {oc doc pm ct ccl cl : Value} {osl ccs csl : Array (Option Value)} {vs : Array Value} {file : Str} {tf : Tok} (X : K.In h) (G : h.Ns mainGlobals mg)
    (hx : PySem.W.nsIn K mainGlobals x = some (some (.ref C)))
    (xL : K.lookup C = some (excClassObj nm q C N bs bm true sn sub ab col dd k0 k1 k2 k3 k5 "ValueError.__new__")) (xV : PySem.HandSPX.refsVE bm = true)
    (sa : PySem.W.findIn K (.ref C) "__setattr__" = some (some (.builtin "object.__setattr__")))
    (exC : PySem.W.subIn K (.ref C) (.type "BaseException") = some true) (tyC : PySem.W.typeIn K (.ref C) = some (.type "type")) (kC : PySem.W.keepIn K (.ref C) = true)
    (iC : PySem.W.findIn K (.ref C) "__init__" = some (some (.ref fI))) (tI : PySem.W.typeIn K (.ref fI) = some (.type "function"))
    (fn : K.lookup fI = some ⟨oc, od, .func (PySem.W.ksFn "__init__" qual (defArgs st) (defBody st) (defScope st) .none .none doc pm an (.ref cda) ct cc), osl⟩)
    (cd : PySem.W.codeIn K (.ref cda) qual = true) (fl : K.lookup cda = some ⟨ccl, cdd, .fields vs, ccs⟩) (fv : vs[2]? = some (.str file tf)) (fP : ((P.main.file : Str) == file) = true)
    (ce : K.lookup cc = some ⟨cl, cld, .cell (some (.ref C)), csl⟩) (mr : PySem.W.mroIn K C (.ref C) = some true)
    (sup : PySem.W.nsIn K mainGlobals "super" = some none) (any : PySem.W.nsIn K PySem.cStatics "thirdparty.any" = some none)
    (si : PySem.W.ks_superIn K C C "__init__" = some (some (.builtin "ValueError.__init__"))) (sv : PySem.W.subIn K (.ref C) (.type "ValueError") = some true)
    (top : (P.main.scope.names.lookup ("super" : Str)).isSome = false)
    (noAt : PySem.W.findIn K (.ref C) "at" = some none)
    (hg : PySem.W.findIn K (.ref C) "__getattribute__" = some (some (.builtin "BaseException.__getattribute__"))) (hk : PySem.W.findIn K (.ref C) "__getattr__" = some none)
    (hd : PySem.W.hasDictIn K C = true) (ha : PySem.W.findIn K (.ref C) "__class__" = some (some (.builtin "object.__class__")))
    (hn : PySem.W.specialIn K (.builtin "object.__class__") "__get__" = some (some (.builtin "getset_descriptor.__get__"))) (ht : PySem.W.takesIn K (.builtin "object.__class__") = some true)
    (hm : PySem.W.mroIn K C (.type "object") = some true) (icl : PySem.W.isClsIn K C = true) (sCC : PySem.W.subIn K (.ref C) (.ref C) = some true)
    (shape : InitShape st)
    (hb : ∀ (doc pm : Value) (an : Option Addr) (cdv ct : Value) (cc : Addr) (us : List Value), us.length = 2 →
      bindArgs (PySem.W.ksFn "__init__" qual (defArgs st) (defBody st) (defScope st) .none .none doc pm an cdv ct cc) ⟨us, []⟩ = pure ((["self", "at"] : List Str).zip us)) :
    ErrK P K mg x C := by
  have ox : OexC K C := ⟨⟨nm, q, N, bs, bm, sn, sub, ab, col, dd, k0, k1, k2, k3, k5, xL, xV⟩, sa, exC, tyC, kC⟩
  have F : ErrF P K C fI cc cda qual (defArgs st) (defBody st) (defScope st) :=
    ⟨ox, iC, tI, ⟨_, _, _, _, _, _, _, fn⟩, cd, ⟨_, _, _, _, _, _, fl, fv, fP⟩, ⟨_, _, _, ce⟩, mr, sup, any, si, sv, top⟩
  obtain ⟨msg, j, p0, p1, p2, p3, p4, p5, q1, q2, q3, q4, eb, sc, es, ar, h1, h2⟩ := shape
  rw [eb, es] at F
  refine ⟨PySem.W.mg_of X G hx, ox, ⟨fI, _, iC, tI, .all (hb doc pm an (.ref cda) ct cc), fun w base => ?_⟩, ⟨hg, hk, exC, hd, ha, hn, ht, hm⟩, noAt, exm_of exC icl exC icl tyC sCC⟩
  refine err_init F ⟨doc, pm, an, ct, ?_, oc, od, osl, fn⟩ h1 h2 sc noAt
  rw [eb, es]
theorem fd_one {x q : Str} {st : Stmt} {f : Addr} {d e : FuncData} (F : Fun K x q st f d) (G : Fun K x q st f e) : d = e := by
  obtain ⟨_, _, _, _, _, _, _, _, _, _, l1, _⟩ := F.ex
  obtain ⟨_, _, _, _, _, _, _, _, _, _, l2, _⟩ := G.ex
  have z := l1.symm.trans l2
  injection z with z
  injection z with _ _ z
  injection z
/-- the law's def at its one place -/
theorem law_mk {w : World} {x y : Str} {st : Stmt} {fa : Addr} {k : Nat} {sp : Sp} {cs : List (Addr × Addr)} (D : Def K mg x st [y]) (hfa : mg x = some (.ref fa))
    (hb : ∀ (kV doc pm : Value) (an : Option Addr) (cdv ct u : Value), bindArgs (PySem.W.fnOf x x (defArgs st) (defBody st) (defScope st) .none kV doc pm an cdv ct) ⟨[u], []⟩ = pure [(y, u)])
    (ok : ∀ base : Heap, K.In base → base.Ns mainGlobals mg → (∀ p ∈ cs, LamX.TabB base mg p.1 p.2) → KeptG P w K mg base CX0 k x st [y] sp) :
    ∃ fd : FuncData, (∀ (s : Shared) (u : Value), BindsTo s fd ⟨[u], []⟩ [(y, u)]) ∧
      ∀ base : Heap, K.In base → base.Ns mainGlobals mg → (∀ p ∈ cs, LamX.TabB base mg p.1 p.2) → FnG P w K mg base CX0 k fa fd [y] sp := by
  obtain ⟨f, fd, F, g, _⟩ := D
  cases g.symm.trans hfa
  refine ⟨fd, fun s u => ?_, fun base h1 h2 h3 => ?_⟩
  · obtain ⟨_, _, kV, doc, pm, an, cdv, ct, _, rfl, _⟩ := F.ex
    exact .of_eq (hb kV doc pm an cdv ct u)
  · obtain ⟨f2, fd2, F2, g2, _, G⟩ := ok base h1 h2 h3
    cases g2.symm.trans hfa
    cases fd_one F F2
    exact G
/-- the law's table -/
theorem tab_mk {c PT : Addr} (X : K.In h) (e : PySem.W.codeHdIn K c PT = true) : PySem.W.CodeHd h c PT := PySem.W.codeHd_of_K X e
end
end NL
set_option maxRecDepth 100000
set_option maxHeartbeats 2000000
/-! sorted(t), t a tuple of ints. -/
namespace NL
open PySem PySem.Spec PyProof.Rows L2
section
variable {prog : Program} {w : World} {A : Around} {E : Value → Shared → Prop} {s : Shared}
/-- the heap with the gathered list -/
abbrev gathered (h : Heap) (vs : List Value) : Heap := (h.push (seqObj "list" #[] 0)).update h.objs.size (Obj.mapSeq (· ++ vs.toArray))
theorem gather_tup {t : Addr} {vs : List Value} {Q : List Value → Shared → Prop} (ht : IsTup s.heap t vs.toArray) (hz : vs.length ≤ sizeLine)
    (h : Q vs { s with heap := gathered s.heap vs }) : wpAny (model prog w) A (collect (.ref t)) Q E s := by
  obtain ⟨ot, got, hcls, n, hdat⟩ := ht
  unfold collect
  refine wpAny_bind (wpAny_runValue (codeAny_builtin entry_proto_collect' ?_))
  show wpAny (model prog w) _ (do again (.builtin "list.__iadd__" ⟨[← newList [], .ref t], []⟩)) _ _ s
  refine wpAny_bind (wpAny_newList (wpAny_pure ⟨Code.quiet_builtin _ (by decide +kernel), ?_⟩))
  refine codeAny_builtin entry_list_iadd' ?_
  show wpAny (model prog w) _ (Builtin.List.listExtendWith (.ref s.heap.objs.size) (.ref t) (.ref s.heap.objs.size)) _ _ { s with heap := s.heap.push (seqObj "list" #[] 0) }
  unfold Builtin.List.listExtendWith
  have got' : (s.heap.push (seqObj "list" #[] 0)).get? t = some ot := Heap.get?_push_of_some _ got
  have e0 := Heap.get?_push_size s.heap (o := seqObj "list" #[] 0) rfl
  refine wpAny_bind (wpAny_typeOf (T := "tuple") ⟨ot, got', hcls⟩ ?_)
  have both : (Value.type "tuple" == Value.type "tuple") = true := by rfl
  rw [if_pos (by rw [both, Bool.or_true])]
  refine wpAny_bind (listItems_at got' hdat ?_)
  refine wpAny_bind (listItems_at (xs := #[]) (n := 0) e0 rfl ?_)
  rw [if_neg (by simp)]
  have fits : (#[] ++ vs.toArray).size ≤ sizeLine + 1 := by
    simp only [Array.size_append, List.size_toArray, List.length_nil]
    omega
  refine wpAny_bind (listUpdate_at (xs := #[]) (n := 0) e0 rfl ?_ (Nat.zero_le _) fits)
  refine wpAny_pure ?_
  show wpAny (model prog w) A (do
    let o ← load s.heap.objs.size
    match o.data with
    | .seq xs _ => pure xs.toList
    | _ => unsupported "internal:collect") Q E { s with heap := gathered s.heap vs }
  refine wpAny_bind (wpAny_load (get?_update_seq e0 _) ?_)
  show wpAny _ _ (pure ((#[] : Array Value) ++ vs.toArray).toList) Q E _
  have e1 : ((#[] : Array Value) ++ vs.toArray).toList = vs := by simp
  rw [e1]
  exact wpAny_pure h
open SrtO in
theorem sorted_tup {t : Addr} {vs : List Value} {ltv : Value → Value → Bool} {Q : Value → Shared → Prop} (O : Swo ltv) (ht : IsTup s.heap t vs.toArray) (hz : vs.length ≤ sizeLine)
    (hS : 2 ≤ vs.length → ∀ (h₁ : Heap) (a : Addr), h₁.get? a = some (seqObj "list" vs.toArray 0) → (∀ b o, s.heap.get? b = some o → b ≠ a ∧ h₁.get? b = some o) → SortableO prog w A.in1.in1 { s with heap := h₁ } a vs ltv)
    (h : ∀ out : List Value, Srtd ltv out → Stb ltv out vs → Q (.ref (s.heap.objs.size + 1)) { s with heap := sortedAll s.heap vs out.toArray }) :
    wpAny (model prog w) A (call (.builtin "sorted") [.ref t]) Q E s := by
  refine Calls.call_function_entry kind_sorted plain_sorted entry_sorted (args_sorted1 _) ?_
  unfold Builtin.«sorted»
  refine wpAny_bind (m := checkCount "sorted" 1 1 _) (wpAny_pure ?_)
  refine wpAny_bind (gather_tup ht hz ?_)
  refine wpAny_bind (wpAny_newList ?_ hz)
  have z1 : (gathered s.heap vs).objs.size = s.heap.objs.size + 1 := by rw [Heap.size_update, size_push']
  have at1 : ((gathered s.heap vs).push (seqObj "list" vs.toArray 0)).get? (s.heap.objs.size + 1) = some (seqObj "list" vs.toArray 0) := by
    rw [← z1]
    exact Heap.get?_push_size _ rfl
  have old : ∀ b o, s.heap.get? b = some o → b ≠ s.heap.objs.size + 1 ∧ ((gathered s.heap vs).push (seqObj "list" vs.toArray 0)).get? b = some o := by
    intro b o q
    have lt := Heap.lt_size q
    refine ⟨Nat.ne_of_lt (Nat.lt_add_right 1 lt), Heap.get?_push_of_some _ ?_⟩
    show ((s.heap.push (seqObj "list" #[] 0)).update s.heap.objs.size _).get? b = some o
    rw [Heap.get?_update_ne _ _ _ _ (Nat.ne_of_lt lt)]
    exact Heap.get?_push_of_some _ q
  show wpAny _ _ _ _ _ { s with heap := (gathered s.heap vs).push (seqObj "list" vs.toArray 0) }
  rw [z1]
  refine wpAny_bind (wpAny_holding (wpAny_call_entry slot_list_sort ⟨_, at1, rfl⟩ entry_list_sort ?_ (args_list_sort _)))
  refine list_sort_ord O at1 hz (fun two => hS two _ _ at1 old) fun out so sb => ⟨_, rfl, wpAny_pure ⟨_, rfl, h out so sb⟩⟩
end
/-- sorted(t), t a tuple of ints -/
def rSortedTI (K : PySem.W.Frag) : List V → Hp → VK → Prop := fun vs H Q => ∃ (a : Addr) (ns : List Int), vs = [V.ref a] ∧ SqT K H a (ns.map V.int) ∧
  ∀ (ns' : List Int) (p : Addr), ns'.Perm ns → ns'.Pairwise (· ≤ ·) → H p = none → Q (.ref p) (upd H p (.lst (ns'.map V.int)))
section
variable {X : Cx}
theorem cr_sortedTI : CallR X (.builtin "sorted") (rSortedTI X.K) := by
  intro pins s σ H vs us Q I r h
  obtain ⟨a, ns, rfl, S, q⟩ := h
  obtain ⟨its, rv, it, hz⟩ := I.tuple S
  rw [Vals.ref1 r]
  have hi := rv.ints
  refine sorted_tup SrtO.swo_int it (by rw [← rv.length]; exact hz) (fun two _ _ _ _ => SrtO.ints_sortable hi two) fun out so sb => ?_
  obtain ⟨k1, k2, k3⟩ := SrtO.ints_out hi so sb
  obtain ⟨ep, he⟩ := PyProof.Rows.sortedAll_at s.heap its out.toArray
  have hl : ((out.map SrtO.iv).map V.int).length ≤ sizeLine := by
    rw [List.length_map, k2.length_eq]
    rw [List.length_map] at hz
    exact hz
  refine ⟨.ref (s.heap.objs.size + 1), upd H (s.heap.objs.size + 1) (.lst ((out.map SrtO.iv).map V.int)), ?_, rfl, q _ _ k2 k3 (I.hok.fresh (Nat.le_succ _))⟩
  exact I.laid (t' := s.toks) (fun _ _ => PyProof.Rows.sortedAll_old) (Nat.le_succ _) ⟨hl, out, ep, vals_of_ints k1, he⟩
def aSort (K : PySem.W.Frag) : List V → Hp → VK → Prop := fun xs H Q => ∃ (a : Addr) (ns : List Int), xs = [V.ref a] ∧ (SqL K H a (ns.map V.int) ∨ SqT K H a (ns.map V.int)) ∧
  ∀ (ns' : List Int) (p : Addr), ns'.Perm ns → ns'.Pairwise (· ≤ ·) → H p = none → Q (.ref p) (upd H p (.lst (ns'.map V.int)))
theorem cSort : CallR X (.builtin "sorted") (aSort X.K) := by
  intro pins s σ H vs us Q I r h
  obtain ⟨a, ns, e, S | S, q⟩ := h
  · exact cr_sortedI pins s σ H vs us Q I r ⟨a, ns, e, S, q⟩
  · exact cr_sortedTI pins s σ H vs us Q I r ⟨a, ns, e, S, q⟩
end
end NL
set_option maxRecDepth 100000
set_option maxHeartbeats 2000000
/-! Values as data: what they are, what stays. -/
namespace NL
open PySem PySem.Spec PyProof.Rows L2
section
variable {K : PySem.W.Frag} {H H' : Hp} {x : V} {d : PyData} {a : Addr} {xs : List V} {ds : List PyData} {Q : VK}
theorem same_l (e : Same H H') (h : SqL K H a xs) : SqL K H' a xs := e.seq h
mutual
theorem Dp.same : ∀ {x : V} {d : PyData}, Dp K H x d → Same H H' → Dp K H' x d
  | _, _, .non, _ => .non
  | _, _, .bl b, _ => .bl b
  | _, _, .int i, _ => .int i
  | _, _, .str y, _ => .str y
  | _, _, .lst S A, e => .lst (e.seq S) (DpAll.same A e)
  | _, _, .tup S A, e => .tup (same_t e S) (DpAll.same A e)
theorem DpAll.same : ∀ {xs : List V} {ds : List PyData}, DpAll K H xs ds → Same H H' → DpAll K H' xs ds
  | _, _, .nil, _ => .nil
  | _, _, .cons h A, e => .cons (Dp.same h e) (DpAll.same A e)
end
def tyD : PyData → String
  | .none => "NoneType"
  | .bool _ => "bool"
  | .int _ => "int"
  | .str _ => "str"
  | .list _ => "list"
  | .tuple _ => "tuple"
  | .dict _ => "dict"
theorem ty_l (h : SqL K H a xs) : TyX K H (.ref a) (.type "list") := by
  rcases h with (h | ⟨o, h⟩) | ⟨o, its, n, hk, hc, _⟩
  · exact .base (.lst h)
  · exact .base (.frz h)
  · exact .kList hk hc
theorem ty_t (h : SqT K H a xs) : TyX K H (.ref a) (.type "tuple") := by
  rcases h with (h | ⟨o, h⟩) | ⟨o, its, n, hk, hc, _⟩
  · exact .base (.tup h)
  · exact .fTuple h
  · exact .kTuple hk hc
/-- a value as data; a dict is known by its kind alone -/
inductive Dv (K : PySem.W.Frag) (H : Hp) : V → PyData → Prop
  | dp {x : V} {d : PyData} (h : Dp K H x d) : Dv K H x d
  | dct {x : V} (h : TyX K H x (.type "dict")) : Dv K H x (.dict [])
theorem Dv.same (h : Dv K H x d) (e : Same H H') : Dv K H' x d := by
  cases h with
  | dp h => exact .dp (Dp.same h e)
  | dct h => exact .dct (ty_same e h)
theorem dp_ty (h : Dp K H x d) : TyX K H x (.type (tyD d)) := by
  cases h with
  | non => exact .base .non
  | bl b => exact .base (.bl b)
  | int i => exact .base (.int i)
  | str y => exact .base (.str y)
  | lst S _ => exact ty_l S
  | tup S _ => exact ty_t S
theorem Dv.ty (h : Dv K H x d) : TyX K H x (.type (tyD d)) := by
  cases h with
  | dp h => exact dp_ty h
  | dct h => exact h
def intD : PyData → Bool
  | .int _ => true
  | _ => false
def boolD : PyData → Bool
  | .bool _ => true
  | _ => false
def tupD : PyData → Bool
  | .tuple _ => true
  | _ => false
def seqD : PyData → Bool
  | .tuple _ => true
  | .list _ => true
  | _ => false
theorem kd_int : ∀ d : PyData, kitB (tyD d) "int" = some (intD d || boolD d)
  | .none => (show kitB "NoneType" "int" = some false by decide +kernel)
  | .bool _ => (show kitB "bool" "int" = some true by decide +kernel)
  | .int _ => (show kitB "int" "int" = some true by decide +kernel)
  | .str _ => (show kitB "str" "int" = some false by decide +kernel)
  | .list _ => (show kitB "list" "int" = some false by decide +kernel)
  | .tuple _ => (show kitB "tuple" "int" = some false by decide +kernel)
  | .dict _ => (show kitB "dict" "int" = some false by decide +kernel)
theorem kd_bool : ∀ d : PyData, kitB (tyD d) "bool" = some (boolD d)
  | .none => (show kitB "NoneType" "bool" = some false by decide +kernel)
  | .bool _ => (show kitB "bool" "bool" = some true by decide +kernel)
  | .int _ => (show kitB "int" "bool" = some false by decide +kernel)
  | .str _ => (show kitB "str" "bool" = some false by decide +kernel)
  | .list _ => (show kitB "list" "bool" = some false by decide +kernel)
  | .tuple _ => (show kitB "tuple" "bool" = some false by decide +kernel)
  | .dict _ => (show kitB "dict" "bool" = some false by decide +kernel)
theorem kd_tuple : ∀ d : PyData, kitB (tyD d) "tuple" = some (tupD d)
  | .none => (show kitB "NoneType" "tuple" = some false by decide +kernel)
  | .bool _ => (show kitB "bool" "tuple" = some false by decide +kernel)
  | .int _ => (show kitB "int" "tuple" = some false by decide +kernel)
  | .str _ => (show kitB "str" "tuple" = some false by decide +kernel)
  | .list _ => (show kitB "list" "tuple" = some false by decide +kernel)
  | .tuple _ => (show kitB "tuple" "tuple" = some true by decide +kernel)
  | .dict _ => (show kitB "dict" "tuple" = some false by decide +kernel)
theorem kd_list : ∀ d : PyData, kitB (tyD d) "list" = some (seqD d && !tupD d)
  | .none => (show kitB "NoneType" "list" = some false by decide +kernel)
  | .bool _ => (show kitB "bool" "list" = some false by decide +kernel)
  | .int _ => (show kitB "int" "list" = some false by decide +kernel)
  | .str _ => (show kitB "str" "list" = some false by decide +kernel)
  | .list _ => (show kitB "list" "list" = some true by decide +kernel)
  | .tuple _ => (show kitB "tuple" "list" = some false by decide +kernel)
  | .dict _ => (show kitB "dict" "list" = some false by decide +kernel)
/-- isinstance(x, T) -/
theorem w_isD {T : String} {b : Bool} (h : Dv K H x d) (e : kitB (tyD d) T = some b) (q : Q (.bl b) H) : aIsi K [x, .ty T] H Q := w_isi h.ty e q
/-- isinstance(x, (list, tuple)) -/
theorem w_isSeq {p : Addr} (h : Dv K H x d) (e : H p = some (.tup [.ty "list", .ty "tuple"])) (q : Q (.bl (seqD d)) H) : aIsi K [x, .ref p] H Q := by
  refine .inr ⟨x, p, [.ty "list", .ty "tuple"], .type (tyD d), [.type "list", .type "tuple"], seqD d, rfl, e, .cons (.ty "list") (.cons (.ty "tuple") .nil), h.ty, ?_, q⟩
  refine kitAny_cons (kit_ty (kd_list d)) (fun _ => kitAny_cons (kit_ty (kd_tuple d)) (fun hf => ?_) (fun ht => ?_)) (fun ht => ?_)
  · rw [kitAny_nil]
    cases d <;> simp_all [seqD, tupD]
  · cases d <;> simp_all [seqD, tupD]
  · cases d <;> simp_all [seqD, tupD]
theorem dp_inv_int {i : Int} (h : Dv K H x (.int i)) : x = .int i := by
  cases h with
  | dp h => cases h; rfl
theorem dp_inv_tup (h : Dv K H x (.tuple ds)) : ∃ a xs, x = .ref a ∧ SqT K H a xs ∧ DpAll K H xs ds := by
  cases h with
  | dp h =>
    cases h with
    | tup S A => exact ⟨_, _, rfl, S, A⟩
theorem dp_inv_lst (h : Dv K H x (.list ds)) : ∃ a xs, x = .ref a ∧ SqL K H a xs ∧ DpAll K H xs ds := by
  cases h with
  | dp h =>
    cases h with
    | lst S A => exact ⟨_, _, rfl, S, A⟩
theorem DpAll.len : ∀ {xs : List V} {ds : List PyData}, DpAll K H xs ds → xs.length = ds.length
  | _, _, .nil => rfl
  | _, _, .cons _ A => congrArg (· + 1) (DpAll.len A)
theorem DpAll.mem : ∀ {xs : List V} {ds : List PyData}, DpAll K H xs ds → ∀ x ∈ xs, ∃ d ∈ ds, Dp K H x d
  | _, _, .cons h A, x, hx => by
    rcases List.mem_cons.mp hx with rfl | hx
    · exact ⟨_, List.mem_cons_self, h⟩
    · obtain ⟨d, hd, q⟩ := DpAll.mem A x hx
      exact ⟨d, List.mem_cons_of_mem _ hd, q⟩
theorem dp_two (A : DpAll K H xs ds) (h : ds.length = 2) : ∃ u v m r, xs = [u, v] ∧ ds = [m, r] ∧ Dp K H u m ∧ Dp K H v r := by
  cases A with
  | nil => cases h
  | cons h1 A =>
    cases A with
    | nil => cases h
    | cons h2 A =>
      cases A with
      | nil => exact ⟨_, _, _, _, rfl, rfl, h1, h2⟩
      | cons _ _ => simp at h
/-- isinstance-free tests of an index -/
def numD : PyData → Bool
  | .int i => decide (0 ≤ i)
  | _ => false
def ixD (n : Int) : PyData → Bool
  | .int i => decide (0 ≤ i) && decide (i < n)
  | _ => false
def ixV (n : Int) : V → Bool
  | .int i => decide (0 ≤ i) && decide (i < n)
  | _ => false
theorem ix_dv {n : Int} (h : Dp K H x d) : ixD n d = ixV n x := by cases h <;> rfl
theorem all_ix {n : Int} : ∀ {xs : List V} {ds : List PyData}, DpAll K H xs ds → xs.all (ixV n) = ds.all (ixD n)
  | _, _, .nil => rfl
  | _, _, .cons h A => by rw [List.all_cons, List.all_cons, all_ix A, ix_dv h]
theorem all_map_id {α : Type} (l : List α) (f : α → Bool) : (l.map f).all id = l.all f := by
  induction l with
  | nil => rfl
  | cons a l ih => rw [List.map_cons, List.all_cons, List.all_cons, ih]; rfl
/-- values of ints -/
theorem dp_ints_inv : ∀ {ns : List Int} {xs : List V}, DpAll K H xs (dInts ns) → xs = ns.map V.int
  | [], _, .nil => rfl
  | n :: ns, _, .cons h A => by
    cases h
    rw [dp_ints_inv A]
    rfl
/-- what one reads of data off its values, one by one -/
theorem paired_data {f : PyData → V} {R : V → V → Prop} (hR : ∀ x y d, Dp K H x d → R x y → y = f d) : ∀ {xs ys : List V} {ds : List PyData}, DpAll K H xs ds → Paired R xs ys → ys = ds.map f
  | _, _, _, .nil, .nil => rfl
  | _, _, _, .cons h A, .cons r p => by rw [hR _ _ _ h r, paired_data hR A p]; rfl
end
theorem w_iteE {c : Bool} {A B : Prop} (e : c = true) (h : A) : if c = true then A else B := by
  rw [if_pos e]
  exact h
theorem w_iteX {c : Bool} {A B : Prop} (e : c = false) (h : B) : if c = true then A else B := by
  rw [if_neg (by rw [e]; decide)]
  exact h
theorem w_iteNE {c : Bool} {A B : Prop} (e : c = true) (h : B) : if (!c) = true then A else B := by
  rw [if_neg (by rw [e]; decide)]
  exact h
theorem w_iteNX {c : Bool} {A B : Prop} (e : c = false) (h : A) : if (!c) = true then A else B := by
  rw [if_pos (by rw [e]; rfl)]
  exact h
theorem int_of (d : PyData) : intD d = ((intD d || boolD d) && !boolD d) := by cases d <;> rfl
/-! ### comprehensions over a range -/
section
variable {K : PySem.W.Frag} {σ : L2.St} {H : Hp} {Q : VK} {te : TE} {tt : TT} {vs : List Nat} {j : Nat} {lo : Int} {n : Nat} {tr : TA}
theorem w_lcR1 (h : tr σ H fun xs H1 => ∃ k : Int, xs = [.int k] ∧ -(2 ^ 62) ≤ k ∧ k < 2 ^ 62 ∧ LcGo (Itr 0 k.toNat) j tt te vs σ H1 Q) : tLc (iRng1 tr) (gName j) tt te vs σ H Q := h
def rngV (lo : Int) (n : Nat) : List V := (List.range n).map fun (i : Nat) => V.int (lo + (i : Int))
theorem rngV_succ (lo : Int) (n : Nat) : rngV lo (n + 1) = rngV lo n ++ [.int (lo + n)] := by
  unfold rngV
  rw [List.range_succ, List.map_append]
  rfl
theorem rngV_len (lo : Int) (n : Nat) : (rngV lo n).length = n := by
  unfold rngV
  rw [List.length_map, List.length_range]
theorem lc_rng_rel (R : V → V → Hp → Prop) (p : V → Bool) (hz : n < sizeLine) (hw : ∀ x, wipe ((wipe σ vs).set j (some x)) vs = wipe σ vs)
    (mono : ∀ D, H D = none → ∀ x y H1 H2, R x y H1 → (∀ b o, b ≠ D → H1 b = some o → H2 b = some o) → R x y H2)
    (ht : ∀ i : Nat, i < n → LcTurn tt te R p H (.int (lo + i)) ((wipe σ vs).set j (some (.int (lo + i))))) (he : ∀ i : Nat, i < n → p (.int (lo + i)) = true → LcElt te R H (.int (lo + i)) ((wipe σ vs).set j (some (.int (lo + i)))))
    (hq : ∀ D H', LcAt R H D ((rngV lo n).filter p) H' → Q (.ref D) H') : LcGo (Itr lo n) j tt te vs σ H Q := fun D hD =>
  lc_range (Qd := fun H' => Q (.ref D) H') (fun i H' => LcAt R H D ((rngV lo i).filter p) H') ⟨hD, Same.newT hD, [], upd_same, .nil⟩
    (fun i H' hi L => ⟨hw _, L.turn (mono D hD) (Nat.lt_of_le_of_lt (Nat.le_trans (List.length_filter_le _ _) (Nat.le_of_eq (rngV_len lo i))) (Nat.lt_trans hi hz)) (ht i hi) (he i hi)
      (fun hp H2 L2 => by rw [rngV_succ, List.filter_append, List.filter_cons, if_pos hp]; exact L2) (fun hp H2 L2 => by rw [rngV_succ, List.filter_append, List.filter_cons, if_neg (by rw [hp]; decide)]; simpa using L2)⟩)
    (fun H' L => hq D H' L)
end
theorem lt_size {n : Nat} (h : n ≤ 1000000) : n < sizeLine := Nat.lt_of_le_of_lt h (by decide +kernel)
theorem at_nat {ns : List Int} {z : Int} {i : Nat} (e : z = (i : Int)) (h : i < ns.length) : atI (ns.map V.int) z = some (.int (ns.getD i 0)) := by
  subst e
  unfold atI ixN
  rw [List.length_map, if_pos (by omega), if_pos (by omega)]
  show (ns.map V.int)[((i : Int)).toNat]? = _
  rw [Int.toNat_natCast, List.getElem?_map, List.getElem?_eq_getElem h, List.getD_eq_getElem?_getD, List.getElem?_eq_getElem h]
  rfl
theorem rngV_map {n : Nat} (g : V → V) (f : Nat → V) (h : ∀ i : Nat, g (.int (0 + (i : Int))) = f i) : (rngV 0 n).map g = (List.range n).map f := by
  unfold rngV
  rw [List.map_map]
  exact List.map_congr_left fun i _ => h i
/-! ### one or the other walk -/
def iOr (u v : TI) : TI := fun σ H R => u σ H R ∨ v σ H R
section
variable {X : Cx} {tg l : Expr} {u v : TI} {σ : L2.St} {H : Hp} {Q : VK} {g : TG} {tt : TT} {te : TE} {vs : List Nat} {t : TS} {D : Ends}
theorem pi_or (a : PI X tg l u) (b : PI X tg l v) : PI X tg l (iOr u v) := ⟨fun pins s σ H R I h => h.elim (a.run pins s σ H R I) (b.run pins s σ H R I)⟩
theorem w_lc1 (h : tLc u g tt te vs σ H Q) : tLc (iOr u v) g tt te vs σ H Q := .inl h
theorem w_lc2 (h : tLc v g tt te vs σ H Q) : tLc (iOr u v) g tt te vs σ H Q := .inr h
theorem w_for1 (h : tFor u g t D σ H) : tFor (iOr u v) g t D σ H := .inl h
theorem w_for2 (h : tFor v g t D σ H) : tFor (iOr u v) g t D σ H := .inr h
end
/-! ### lists made by a plain map -/
section
variable {K : PySem.W.Frag} {σ : L2.St} {H : Hp} {Q : VK} {te : TE} {vs : List Nat} {i j : Nat} {a : Addr} {xs : List V} {tl : TE}
theorem lc_mapL (f : V → V) (S : SqL K H a xs) (hz : xs.length < sizeLine) (hw : ∀ x, wipe ((wipe σ vs).set j (some x)) vs = wipe σ vs)
    (he : ∀ x ∈ xs, LcElt te (fun x y _ => y = f x) H x ((wipe σ vs).set j (some x))) (hq : ∀ D H', H D = none → Same H H' → H' D = some (.lst (xs.map f)) → Q (.ref D) H') : LcGo (Itl K a) j tYes te vs σ H Q :=
  lc_lst_rel (fun x y _ => y = f x) (fun _ => true) S hz hw (fun _ _ _ _ _ _ r _ => r) (fun _ _ => turn_yes) (fun x hx _ => he x hx) fun D H' L => by
    rw [filter_true] at L
    obtain ⟨nw, sm, zs, e, pr⟩ := L
    rw [paired_eq pr] at e
    exact hq D H' nw sm e
theorem lc_mapT (f : V → V) (S : SqT K H a xs) (hz : xs.length < sizeLine) (hw : ∀ x, wipe ((wipe σ vs).set j (some x)) vs = wipe σ vs)
    (he : ∀ x ∈ xs, LcElt te (fun x y _ => y = f x) H x ((wipe σ vs).set j (some x))) (hq : ∀ D H', H D = none → Same H H' → H' D = some (.lst (xs.map f)) → Q (.ref D) H') : LcGo (Itt K a) j tYes te vs σ H Q :=
  lc_tup_rel (fun x y _ => y = f x) (fun _ => true) S hz hw (fun _ _ _ _ _ _ r _ => r) (fun _ _ => turn_yes) (fun x hx _ => he x hx) fun D H' L => by
    rw [filter_true] at L
    obtain ⟨nw, sm, zs, e, pr⟩ := L
    rw [paired_eq pr] at e
    exact hq D H' nw sm e
theorem w_lcSeq (f : V → V) (hv : σ[i]? = some (some (.ref a))) (S : SqL K H a xs ∨ SqT K H a xs) (hz : xs.length < sizeLine) (hw : ∀ x, wipe ((wipe σ vs).set j (some x)) vs = wipe σ vs)
    (he : ∀ x ∈ xs, LcElt te (fun x y _ => y = f x) H x ((wipe σ vs).set j (some x))) (hq : ∀ D H', H D = none → Same H H' → H' D = some (.lst (xs.map f)) → Q (.ref D) H') :
    tLc (iOr (iList K (tVar i)) (iTup K (tVar i))) (gName j) tYes te vs σ H Q := by
  rcases S with S | S
  · exact w_lc1 (w_lcL (w_var hv (w_ref ⟨⟨_, S⟩, lc_mapL f S hz hw he hq⟩)))
  · exact w_lc2 (w_lcT (w_var hv (w_ref ⟨⟨_, S⟩, lc_mapT f S hz hw he hq⟩)))
theorem dp_seq {x : V} {d : PyData} (h : Dv K H x d) (e : seqD d = true) : ∃ a xs ds, x = .ref a ∧ (SqL K H a xs ∨ SqT K H a xs) ∧ DpAll K H xs ds ∧ (d = .list ds ∨ d = .tuple ds) := by
  cases d with
  | list ds =>
    obtain ⟨a, xs, e1, S, A⟩ := dp_inv_lst h
    exact ⟨a, xs, ds, e1, .inl S, A, .inl rfl⟩
  | tuple ds =>
    obtain ⟨a, xs, e1, S, A⟩ := dp_inv_tup h
    exact ⟨a, xs, ds, e1, .inr S, A, .inr rfl⟩
  | _ => cases e
theorem sq_same {H' : Hp} (S : SqL K H a xs ∨ SqT K H a xs) (e : Same H H') : SqL K H' a xs ∨ SqT K H' a xs := S.elim (fun S => .inl (e.seq S)) fun S => .inr (same_t e S)
end
/-! ### what is drawn while a list is made -/
theorem lc_rng_inv {σ : L2.St} {H : Hp} {Q : VK} {te : TE} {vs : List Nat} {j : Nat} {lo : Int} {n : Nat} (Pv : Addr → Nat → Hp → Prop) (h0 : ∀ D, H D = none → Pv D 0 (upd H D (.lst [])))
    (hw : ∀ x, wipe ((wipe σ vs).set j (some x)) vs = wipe σ vs)
    (hs : ∀ D (i : Nat) H', H D = none → i < n → Pv D i H' → te ((wipe σ vs).set j (some (.int (lo + i)))) H' fun y H4 => ∃ acc, H4 D = some (.lst acc) ∧ acc.length < sizeLine ∧ Pv D (i + 1) (upd H4 D (.lst (acc ++ [y]))))
    (hq : ∀ D H', H D = none → Pv D n H' → Q (.ref D) H') : LcGo (Itr lo n) j tYes te vs σ H Q := fun D hD =>
  lc_range (Qd := fun H' => Q (.ref D) H') (fun i H' => Pv D i H') (h0 D hD) (fun i H' hi L => ⟨hw _, hs D i H' hD hi L⟩) (fun H' L => hq D H' hD L)
theorem DealAt.updN {H : Hp} {a l p : Addr} {o : HO} (d : DealAt H a l) (h1 : p ≠ a) (h2 : p ≠ l) : DealAt (upd H p o) a l := by
  obtain ⟨ne, ns, b, e1, e2, r⟩ := d
  exact ⟨ne, ns, b, by rw [upd_ne (Ne.symm h1)]; exact e1, by rw [upd_ne (Ne.symm h2)]; exact e2, r⟩
theorem Fr.updN {H H1 : Hp} {a l p : Addr} {o : HO} (x : Fr a l H H1) (h : H p = none) : Fr a l H (upd H1 p o) := fun b u e h1 h2 => by
  rw [upd_ne (ne_of_none e h)]
  exact x b u e h1 h2
theorem DealAt.off {H : Hp} {a l p : Addr} (d : DealAt H a l) (h : H p = none) : p ≠ a ∧ p ≠ l := by
  obtain ⟨ne, ns, b, e1, e2, r⟩ := d
  exact ⟨(ne_of_none e1 h).symm, (ne_of_none e2 h).symm⟩
theorem w_isN {x : V} {H : Hp} {Q : VK} (h : Q (.bl (decide (x = .non))) H) : aIs x .non H Q := .inr ⟨rfl, h⟩
end NL
set_option maxRecDepth 100000
set_option maxHeartbeats 2000000
/-! Lists made by two walks: a list outside, a range inside. -/
namespace NL
open PySem PySem.Spec PyProof.Rows L2
/-- the list under way at D: one value for each key -/
structure LcG {β : Type} (R : β → V → Hp → Prop) (H : Hp) (D : Addr) (ks : List β) (H' : Hp) : Prop where
  nw : H D = none
  sm : Same H H'
  at_ : ∃ ys, H' D = some (.lst ys) ∧ Paired (fun k y => R k y H') ks ys
def MonoD {β : Type} (R : β → V → Hp → Prop) (D : Addr) : Prop := ∀ k y H1 H2, (∃ acc, H1 D = some (.lst acc)) → R k y H1 → (∀ b o, b ≠ D → H1 b = some o → H2 b = some o) → R k y H2
section
variable {β : Type} {R : β → V → Hp → Prop} {H H' H4 : Hp} {D : Addr} {ks : List β} {k : β} {y : V}
theorem LcG.keep (L : LcG R H D ks H') (mono : MonoD R D) (e : Same H' H4) : LcG R H D ks H4 := by
  obtain ⟨nw, sm, ys, e1, pr⟩ := L
  exact ⟨nw, sm.trans e, ys, e _ _ e1, Paired.mapP pr fun a b r => mono a b _ _ ⟨ys, e1⟩ r fun c o _ q => e c o q⟩
theorem LcG.push (L : LcG R H D ks H4) (mono : MonoD R D) (r : R k y H4) (hz : ks.length < sizeLine) :
    ∃ acc, H4 D = some (.lst acc) ∧ acc.length < sizeLine ∧ LcG R H D (ks ++ [k]) (upd H4 D (.lst (acc ++ [y]))) := by
  obtain ⟨nw, sm, ys, e1, pr⟩ := L
  have hl : ys.length < sizeLine := by
    have := Paired.length pr
    omega
  have far : ∀ b o, b ≠ D → H4 b = some o → upd H4 D (.lst (ys ++ [y])) b = some o := fun b o hb q => by
    rw [upd_ne hb]
    exact q
  exact ⟨ys, e1, hl, nw, Same.putT sm nw, _, upd_same, paired_snoc (Paired.mapP pr fun a b r => mono a b _ _ ⟨ys, e1⟩ r far) (mono _ _ _ _ ⟨ys, e1⟩ r far)⟩
end
theorem paired_get {α γ : Type} {F : α → γ → Prop} : ∀ {l1 : List α} {l2 : List γ} {i : Nat} {x : α}, Paired F l1 l2 → l1[i]? = some x → ∃ y, l2[i]? = some y ∧ F x y
  | _, _, 0, x, .cons h t, e => by
    cases (Option.some.inj e)
    exact ⟨_, rfl, h⟩
  | _, _, i + 1, x, .cons h t, e => paired_get (i := i) t e
theorem paired_mem {α γ : Type} {F : α → γ → Prop} : ∀ {l1 : List α} {l2 : List γ}, Paired F l1 l2 → Paired (fun a b => F a b ∧ a ∈ l1) l1 l2
  | _, _, .nil => .nil
  | _, _, .cons h t => .cons ⟨h, List.mem_cons_self⟩ (Paired.mapP (paired_mem t) fun a b q => ⟨q.1, List.mem_cons_of_mem _ q.2⟩)
theorem w_yes {σ : L2.St} {H : Hp} {QT : Bool → Hp → Prop} (h : QT true H) : tYes σ H QT := h
/-- what the building by two walks asks -/
def LcGo2 (J : It) (j : Nat) (wi1 : TI) (j1 : Nat) (tt1 : TT) (te : TE) (vs vs1 : List Nat) (σ : L2.St) (H : Hp) (Q : VK) : Prop :=
  ∀ D, H D = none → ∃ W : Nat → Nat → Hp → Prop, (∃ m, W 0 m (upd H D (.lst []))) ∧ ∀ i m H, W i m H →
  (J.stop i H ∧ Q (.ref D) H) ∨ (J.go i H ∧ ∃ Nx : Hp → Prop, (∀ H', Nx H' → ∃ m', m' < m ∧ W (i + 1) m' H') ∧ ∀ x H', J.yld i H x H' → gName j x (wipe σ vs) H' fun σ2 H2 => wipe σ2 vs = wipe σ vs ∧ tYes σ2 H2 fun b H3 =>
    if b = true then wi1 σ2 H3 fun J1 H4 => ∃ W1 : Nat → Nat → Hp → Prop, (∃ m, W1 0 m H4) ∧ ∀ j k H, W1 j k H →
      (J1.stop j H ∧ Nx H) ∨ (J1.go j H ∧ ∃ Nx1 : Hp → Prop, (∀ H', Nx1 H' → ∃ k', k' < k ∧ W1 (j + 1) k' H') ∧ ∀ x H', J1.yld j H x H' → gName j1 x (wipe σ2 vs1) H' fun σ3 H5 => wipe σ3 vs1 = wipe σ2 vs1 ∧ tt1 σ3 H5 fun b H6 =>
        if b = true then te σ3 H6 fun y H7 => ∃ acc, H7 D = some (.lst acc) ∧ acc.length < sizeLine ∧ Nx1 (upd H7 D (.lst (acc ++ [y]))) else Nx1 H6)
    else Nx H3)
section
variable {K : PySem.W.Frag} {σ : L2.St} {H : Hp} {Q : VK} {te : TE} {tt1 : TT} {wi1 : TI} {vs vs1 : List Nat} {j j1 : Nat} {a : Addr} {xs : List V} {tl : TE} {n : Nat}
theorem w_lc2L (h : tl σ H fun x H1 => ∃ a, x = .ref a ∧ (∃ xs, SqL K H1 a xs) ∧ LcGo2 (Itl K a) j wi1 j1 tt1 te vs vs1 σ H1 Q) : tLc2 (iList K tl) (gName j) tYes wi1 (gName j1) tt1 te vs vs1 σ H Q := h
theorem w_lc2R {tr : TA} (h : tr σ H fun ws H1 => ∃ k : Int, ws = [.int k] ∧ -(2 ^ 62) ≤ k ∧ k < 2 ^ 62 ∧ LcGo2 (Itr 0 k.toNat) j wi1 j1 tt1 te vs vs1 σ H1 Q) : tLc2 (iRng1 tr) (gName j) tYes wi1 (gName j1) tt1 te vs vs1 σ H Q := h
theorem lc2_rel {α β : Type} (R : β → V → Hp → Prop) (zs : List α) (Eo : α → V → Prop) (p : α → Nat → Bool) (key : α → Nat → β) (S : SqL K H a xs) (P0 : Paired Eo zs xs)
    (hz : ((zs.flatMap fun z => ((List.range n).filter (p z)).map (key z))).length < sizeLine)
    (hw : ∀ x, wipe ((wipe σ vs).set j (some x)) vs = wipe σ vs) (hw1 : ∀ x y, wipe ((wipe ((wipe σ vs).set j (some x)) vs1).set j1 (some y)) vs1 = wipe ((wipe σ vs).set j (some x)) vs1)
    (mono : ∀ D, H D = none → MonoD R D)
    (hin : ∀ z x, Eo z x → ∀ H3, Same H H3 → ∀ R' : It → Hp → Prop, (∀ H4, Same H3 H4 → R' (Itr 0 n) H4) → wi1 ((wipe σ vs).set j (some x)) H3 R')
    (ht : ∀ z x (m : Nat), Eo z x → m < n → ∀ H3, Same H H3 → ∀ Q' : Bool → Hp → Prop, (∀ H4, Same H3 H4 → Q' (p z m) H4) → tt1 ((wipe ((wipe σ vs).set j (some x)) vs1).set j1 (some (.int (0 + m)))) H3 Q')
    (he : ∀ z x (m : Nat), Eo z x → m < n → p z m = true → ∀ H3, Same H H3 → ∀ Q' : VK, (∀ y H4, Same H3 H4 → R (key z m) y H4 → Q' y H4) → te ((wipe ((wipe σ vs).set j (some x)) vs1).set j1 (some (.int (0 + m)))) H3 Q')
    (hq : ∀ D H', LcG R H D (zs.flatMap fun z => ((List.range n).filter (p z)).map (key z)) H' → Q (.ref D) H') :
    LcGo2 (Itl K a) j wi1 j1 tt1 te vs vs1 σ H Q := by
  intro D hD
  have mo := mono D hD
  have hlen : zs.length = xs.length := Paired.length P0
  let G : α → List β := fun z => ((List.range n).filter (p z)).map (key z)
  refine ⟨fun i m H' => m = xs.length - i ∧ i ≤ xs.length ∧ LcG R H D ((zs.take i).flatMap G) H', ⟨xs.length, by simp, Nat.zero_le _, hD, Same.newT hD, [], upd_same, .nil⟩, ?_⟩
  rintro i m H' ⟨rfl, hi, L⟩
  have S' : SqL K H' a xs := L.sm.seq S
  by_cases hlt : i < xs.length
  · have hltz : i < zs.length := by omega
    refine .inr ⟨⟨xs, xs[i], S', by simp [hlt]⟩, fun H2 => LcG R H D ((zs.take (i + 1)).flatMap G) H2, fun H2 L2 => ⟨xs.length - (i + 1), by omega, rfl, hlt, L2⟩, fun x H2 y => ?_⟩
    obtain ⟨rfl, y⟩ := y
    have hx := y xs S'
    have hxz : Eo zs[i] x := by
      obtain ⟨x', h1, h2⟩ := paired_get P0 (List.getElem?_eq_getElem hltz)
      rw [hx] at h1
      cases h1
      exact h2
    have tk : (zs.take (i + 1)).flatMap G = (zs.take i).flatMap G ++ G zs[i] := by
      rw [take_snoc (List.getElem?_eq_getElem hltz), List.flatMap_append]
      simp
    refine ⟨hw x, ?_⟩
    refine w_yes ?_
    rw [if_pos rfl]
    refine hin _ _ hxz H2 L.sm _ fun H4 e4 => ?_
    have L4 := L.keep mo e4
    have pre : ∀ q : Nat, q ≤ n → ((zs.take i).flatMap G ++ ((List.range q).filter (p zs[i])).map (key zs[i])).length ≤ (zs.flatMap G).length := by
      intro q hq'
      have h1 : ((List.range q).filter (p zs[i])).length ≤ ((List.range n).filter (p zs[i])).length := by
        have : (List.range n) = List.range q ++ (List.range (n - q)).map (q + ·) := by
          rw [← List.range_add]
          congr 1
          omega
        rw [this, List.filter_append, List.length_append]
        omega
      have h2 : zs = zs.take i ++ (zs[i] :: zs.drop (i + 1)) := by
        rw [← List.drop_eq_getElem_cons hltz, List.take_append_drop]
      have h3 : (zs.flatMap G).length = ((zs.take i).flatMap G).length + ((G zs[i]).length + ((zs.drop (i + 1)).flatMap G).length) := by
        rw [← List.length_append, ← List.length_append, ← List.flatMap_cons, ← List.flatMap_append, ← h2]
      rw [h3, List.length_append, List.length_map]
      show _ ≤ _ + (((((List.range n).filter (p zs[i])).map (key zs[i])).length) + _)
      rw [List.length_map]
      omega
    refine ⟨fun q k H5 => k = n - q ∧ q ≤ n ∧ LcG R H D ((zs.take i).flatMap G ++ ((List.range q).filter (p zs[i])).map (key zs[i])) H5, ⟨n, by simp, Nat.zero_le _, by simpa using L4⟩, ?_⟩
    rintro q k H5 ⟨rfl, hqn, L5⟩
    by_cases hq2 : q < n
    · refine .inr ⟨hq2, fun H6 => LcG R H D ((zs.take i).flatMap G ++ ((List.range (q + 1)).filter (p zs[i])).map (key zs[i])) H6, fun H6 L6 => ⟨n - (q + 1), by omega, rfl, hq2, L6⟩, fun v H6 y6 => ?_⟩
      obtain ⟨rfl, rfl⟩ := y6
      have sn : ((List.range (q + 1)).filter (p zs[i])).map (key zs[i]) = ((List.range q).filter (p zs[i])).map (key zs[i]) ++ (if p zs[i] q = true then [key zs[i] q] else []) := by
        rw [List.range_succ, List.filter_append, List.map_append]
        cases hp : p zs[i] q <;> simp [hp]
      refine ⟨hw1 _ _, ?_⟩
      refine ht _ _ q hxz hq2 _ L5.sm _ fun H7 e7 => ?_
      have L7 := L5.keep mo e7
      cases hp : p zs[i] q
      · rw [if_neg Bool.false_ne_true]
        rw [hp, if_neg Bool.false_ne_true, List.append_nil] at sn
        show LcG R H D (_ ++ ((List.range (q + 1)).filter (p zs[i])).map (key zs[i])) H7
        rw [sn]
        exact L7
      · rw [if_pos rfl]
        rw [hp, if_pos rfl] at sn
        refine he _ _ q hxz hq2 hp _ L7.sm _ fun y H8 e8 r8 => ?_
        have L8 := L7.keep mo e8
        obtain ⟨acc, c1, c2, c3⟩ := L8.push mo r8 (Nat.lt_of_le_of_lt (pre q (Nat.le_of_lt hq2)) hz)
        refine ⟨acc, c1, c2, ?_⟩
        show LcG R H D (_ ++ ((List.range (q + 1)).filter (p zs[i])).map (key zs[i])) _
        rw [sn, ← List.append_assoc]
        exact c3
    · have e : q = n := by omega
      subst e
      refine .inl ⟨Nat.le_refl _, ?_⟩
      rw [tk]
      exact L5
  · have e : i = xs.length := by omega
    subst e
    refine .inl ⟨⟨xs, S', Nat.le_refl _⟩, hq D H' ?_⟩
    rw [← hlen, List.take_length] at L
    exact L
/-- a range outside, inside a list that each turn makes anew -/
theorem lc2_relR {α β : Type} (R : β → V → Hp → Prop) (zs : List α) (Eo : α → V → Hp → Prop) (key : Nat → α → β)
    (hz : ((List.range n).flatMap fun m => zs.map (key m)).length < sizeLine)
    (hw : ∀ x, wipe ((wipe σ vs).set j (some x)) vs = wipe σ vs) (hw1 : ∀ x y, wipe ((wipe ((wipe σ vs).set j (some x)) vs1).set j1 (some y)) vs1 = wipe ((wipe σ vs).set j (some x)) vs1)
    (mono : ∀ D, H D = none → MonoD R D) (monoE : ∀ D, H D = none → MonoD Eo D)
    (hin : ∀ m : Nat, m < n → ∀ H3, Same H H3 → ∀ R' : It → Hp → Prop, (∀ a xs H4, Same H3 H4 → H3 a = none → SqL K H4 a xs → Paired (fun z x => Eo z x H4) zs xs → R' (Itl K a) H4) → wi1 ((wipe σ vs).set j (some (.int (0 + m)))) H3 R')
    (he : ∀ (m : Nat) z x, m < n → ∀ H3, Same H H3 → Eo z x H3 → ∀ Q' : VK, (∀ y H4, Same H3 H4 → R (key m z) y H4 → Q' y H4) → te ((wipe ((wipe σ vs).set j (some (.int (0 + m)))) vs1).set j1 (some x)) H3 Q')
    (hq : ∀ D H', LcG R H D ((List.range n).flatMap fun m => zs.map (key m)) H' → Q (.ref D) H') :
    LcGo2 (Itr 0 n) j wi1 j1 tYes te vs vs1 σ H Q := by
  intro D hD
  have mo := mono D hD
  let G : Nat → List β := fun m => zs.map (key m)
  refine ⟨fun i m H' => m = n - i ∧ i ≤ n ∧ LcG R H D ((List.range i).flatMap G) H', ⟨n, by simp, Nat.zero_le _, hD, Same.newT hD, [], upd_same, .nil⟩, ?_⟩
  rintro i m H' ⟨rfl, hi, L⟩
  by_cases hlt : i < n
  · refine .inr ⟨hlt, fun H2 => LcG R H D ((List.range (i + 1)).flatMap G) H2, fun H2 L2 => ⟨n - (i + 1), by omega, rfl, hlt, L2⟩, fun x H2 y => ?_⟩
    obtain ⟨rfl, rfl⟩ := y
    have tk : (List.range (i + 1)).flatMap G = (List.range i).flatMap G ++ G i := by
      rw [List.range_succ, List.flatMap_append]
      simp
    refine ⟨hw _, ?_⟩
    refine w_yes ?_
    rw [if_pos rfl]
    refine hin i hlt _ L.sm _ fun a xs H4 e4 na S P0 => ?_
    have L4 := L.keep mo e4
    obtain ⟨accD, eD, _⟩ := L.at_
    have neD : a ≠ D := (ne_of_none eD na).symm
    have hlen : zs.length = xs.length := Paired.length P0
    have pre : ∀ q : Nat, ((List.range i).flatMap G ++ (zs.take q).map (key i)).length ≤ ((List.range n).flatMap G).length := by
      intro q
      have h2 : List.range n = List.range i ++ (i :: ((List.range (n - (i + 1))).map (i + 1 + ·))) := by
        have : n = (i + 1) + (n - (i + 1)) := by omega
        rw [this, List.range_add, List.range_succ, List.append_assoc]
        congr 2
        simp
      rw [h2, List.flatMap_append, List.flatMap_cons, List.length_append, List.length_append, List.length_append, List.length_map, List.length_take]
      show _ + min q zs.length ≤ _ + ((zs.map (key i)).length + _)
      rw [List.length_map]
      omega
    refine ⟨fun q k H5 => k = xs.length - q ∧ q ≤ xs.length ∧ LcG R H D ((List.range i).flatMap G ++ (zs.take q).map (key i)) H5 ∧ SqL K H5 a xs ∧ Paired (fun z x => Eo z x H5) zs xs, ⟨xs.length, by simp, Nat.zero_le _, by simpa using L4, S, P0⟩, ?_⟩
    rintro q k H5 ⟨rfl, hqn, L5, S5, P5⟩
    by_cases hq2 : q < xs.length
    · have hqz : q < zs.length := by omega
      refine .inr ⟨⟨xs, xs[q], S5, by simp [hq2]⟩, fun H6 => LcG R H D ((List.range i).flatMap G ++ (zs.take (q + 1)).map (key i)) H6 ∧ SqL K H6 a xs ∧ Paired (fun z x => Eo z x H6) zs xs, fun H6 L6 => ⟨xs.length - (q + 1), by omega, rfl, hq2, L6⟩, fun v H6 y6 => ?_⟩
      obtain ⟨rfl, y6⟩ := y6
      have hv := y6 xs S5
      have hvz : Eo zs[q] v H6 := by
        obtain ⟨x', h1, h2⟩ := paired_get P5 (List.getElem?_eq_getElem hqz)
        rw [hv] at h1
        cases h1
        exact h2
      have sn : (zs.take (q + 1)).map (key i) = (zs.take q).map (key i) ++ [key i zs[q]] := by
        rw [take_snoc (List.getElem?_eq_getElem hqz), List.map_append]
        rfl
      refine ⟨hw1 _ _, ?_⟩
      refine w_yes ?_
      rw [if_pos rfl]
      refine he i _ _ hlt _ L5.sm hvz _ fun y H8 e8 r8 => ?_
      have L8 := L5.keep mo e8
      obtain ⟨acc, c1, c2, c3⟩ := L8.push mo r8 (Nat.lt_of_le_of_lt (pre q) hz)
      refine ⟨acc, c1, c2, ?_, ?_, ?_⟩
      · rw [sn, ← List.append_assoc]
        exact c3
      · rcases e8.seq S5 with (h | ⟨o, h⟩) | h
        · exact .inl (.inl (by rw [upd_ne neD]; exact h))
        · exact .inl (.inr ⟨o, by rw [upd_ne neD]; exact h⟩)
        · exact .inr h
      · have me := monoE D hD
        obtain ⟨acc5, d5, _⟩ := L5.at_
        refine Paired.mapP P5 fun z x hx => me z x _ _ ⟨acc, c1⟩ (me z x _ _ ⟨_, d5⟩ hx fun b o _ q => e8 b o q) fun b o hb q => ?_
        rw [upd_ne hb]
        exact q
    · have e : q = xs.length := by omega
      subst e
      refine .inl ⟨⟨xs, S5, Nat.le_refl _⟩, ?_⟩
      rw [tk]
      rw [← hlen, List.take_length] at L5
      exact L5
  · have e : i = n := by omega
    subst e
    exact .inl ⟨Nat.le_refl _, hq D H' L⟩
end
end NL
set_option maxRecDepth 100000
set_option maxHeartbeats 2000000
/-! repr of data: its size, part by part. -/
namespace NL
open PySem PySem.Spec PyProof.Rows L2
/-- data that repr can show: its weight, its depth -/
structure OkD (w p : Nat) (d : PyData) : Prop where
  sh : d.showable = true
  nd : d.hasDict = false
  dp : d.depth ≤ p
  wt : d.weight ≤ w
  ls : d.leavesShort 13 = true
theorem OkD.mono {w p w' p' : Nat} {d : PyData} (o : OkD w p d) (h1 : w ≤ w') (h2 : p ≤ p') : OkD w' p' d := ⟨o.sh, o.nd, Nat.le_trans o.dp h2, Nat.le_trans o.wt h1, o.ls⟩
structure OkAll (w p : Nat) (ds : List PyData) : Prop where
  sh : PyData.showableAll ds = true
  nd : PyData.hasDictAll ds = false
  dp : PyData.depthAll ds ≤ p
  wt : PyData.weightAll ds ≤ ds.length * (w + 1)
  ls : PyData.leavesShortAll 13 ds = true
theorem OkAll.of {w p : Nat} : ∀ {ds : List PyData}, (∀ d ∈ ds, OkD w p d) → OkAll w p ds
  | [], _ => ⟨rfl, rfl, Nat.zero_le _, Nat.zero_le _, rfl⟩
  | d :: ds, h => by
    have o := h d List.mem_cons_self
    have a := OkAll.of (ds := ds) fun x hx => h x (List.mem_cons_of_mem _ hx)
    refine ⟨?_, ?_, ?_, ?_, ?_⟩
    · show (PyData.showable d && PyData.showableAll ds) = true
      rw [o.sh, a.sh]
      rfl
    · show (PyData.hasDict d || PyData.hasDictAll ds) = false
      rw [o.nd, a.nd]
      rfl
    · show max (PyData.depth d) (PyData.depthAll ds) ≤ p
      exact Nat.max_le.mpr ⟨o.dp, a.dp⟩
    · show PyData.weight d + 1 + PyData.weightAll ds ≤ (ds.length + 1) * (w + 1)
      have h1 := o.wt
      have h2 := a.wt
      rw [Nat.succ_mul]
      omega
    · show (PyData.leavesShort 13 d && PyData.leavesShortAll 13 ds) = true
      rw [o.ls, a.ls]
      rfl
theorem OkD.tup {w p : Nat} {ds : List PyData} (h : ∀ d ∈ ds, OkD w p d) : OkD (ds.length * (w + 1)) (p + 1) (.tuple ds) := by
  have a := OkAll.of h
  exact ⟨a.sh, a.nd, Nat.succ_le_succ a.dp, a.wt, a.ls⟩
theorem OkD.lst {w p : Nat} {ds : List PyData} (h : ∀ d ∈ ds, OkD w p d) : OkD (ds.length * (w + 1)) (p + 1) (.list ds) := by
  have a := OkAll.of h
  exact ⟨a.sh, a.nd, Nat.succ_le_succ a.dp, a.wt, a.ls⟩
theorem OkD.int {i : Int} (h0 : 0 ≤ i) (h : i < 10 ^ 10) : OkD 34 0 (.int i) := by
  have hl : i.natAbs.log2 < 34 := PySem.Flt.log2_lt_of (by decide) (by omega)
  refine ⟨decide_eq_true (by omega), rfl, Nat.le_refl _, ?_, ?_⟩
  · show (if i == 0 then 0 else i.natAbs.log2 + 1) ≤ 34
    split <;> omega
  · have := PyProof.Rows.toString_length_le h0 (k := 10) (by decide) h
    show decide ((PyData.shown (.int i)).length ≤ 13) = true
    exact decide_eq_true (Nat.le_trans this (by decide))
theorem w_rprO {K : PySem.W.Frag} {H : Hp} {Q : VK} {x : V} {d : PyData} {w : Nat} (h : Dp K H x d) (o : OkD w 59 d) (hw : 15 * w + 13 ≤ 16777216) (q : Q (.str d.shown) H) : rRepr K [x] H Q := by
  refine ⟨x, d, rfl, h, o.sh, o.nd, Nat.le_trans o.dp (by decide), ?_, q⟩
  have h1 := PyData.shown_le 13 (by decide) d o.ls
  have h2 := o.wt
  have hz : sizeLine = 16777216 := by decide +kernel
  have h3 : (13 + 2) * d.weight ≤ 15 * w := Nat.mul_le_mul_left 15 h2
  omega
theorem lc_lst_inv {K : PySem.W.Frag} {σ : L2.St} {H : Hp} {Q : VK} {te : TE} {vs : List Nat} {j : Nat} {a : Addr} {xs : List V} (Pv : Addr → Nat → Hp → Prop) (h0 : ∀ D, H D = none → Pv D 0 (upd H D (.lst [])))
    (hl : ∀ D i H', H D = none → Pv D i H' → SqL K H' a xs) (hw : ∀ x, wipe ((wipe σ vs).set j (some x)) vs = wipe σ vs)
    (hs : ∀ D (i : Nat) x H', H D = none → xs[i]? = some x → Pv D i H' → te ((wipe σ vs).set j (some x)) H' fun y H4 => ∃ acc, H4 D = some (.lst acc) ∧ acc.length < sizeLine ∧ Pv D (i + 1) (upd H4 D (.lst (acc ++ [y]))))
    (hq : ∀ D H', H D = none → Pv D xs.length H' → Q (.ref D) H') : LcGo (Itl K a) j tYes te vs σ H Q := fun D hD =>
  lc_list (K := K) (a := a) (xs := xs) (Qd := fun H' => Q (.ref D) H') (fun i H' => Pv D i H') (h0 D hD) (fun i H' _ L => hl D i H' hD L) (fun i x H' hx L => ⟨hw x, hs D i x H' hD hx L⟩) (fun H' L => hq D H' hD L)
end NL
set_option maxRecDepth 100000
set_option maxHeartbeats 2000000
/-! Slices of tuples, tuples put together. -/
namespace NL
open PySem PySem.Spec PyProof.Rows L2
section
variable {K : PySem.W.Frag} {H : Hp} {Q : VK} {a b : Addr} {xs ys : List V} {lo hi : Option Int}
theorem cut_len (xs : List V) (lo hi : Option Int) : (cutV xs lo hi).length ≤ xs.length := by
  unfold cutV
  rw [List.length_take, List.length_drop]
  omega
theorem cut_full (h1 : HT.sIx xs.length 0 lo = 0) (h2 : HT.sIx xs.length xs.length hi = xs.length) : cutV xs lo hi = xs := by
  unfold cutV
  rw [h1, h2, List.drop_zero, Nat.sub_zero, List.take_length]
theorem cut_map (ns : List Int) (lo hi : Option Int) : ∃ ms : List Int, cutV (ns.map V.int) lo hi = ms.map V.int ∧ ∀ x ∈ ms, x ∈ ns := by
  refine ⟨(ns.drop (HT.sIx (ns.map V.int).length 0 lo)).take (HT.sIx (ns.map V.int).length (ns.map V.int).length hi - HT.sIx (ns.map V.int).length 0 lo), ?_, fun x hx => List.mem_of_mem_drop (List.mem_of_mem_take hx)⟩
  unfold cutV
  rw [List.map_take, List.map_drop]
theorem w_slA (S : SqT K H a xs) (h : ∀ p H', Same H H' → SqT K H' p (cutV xs lo hi) → Q (.ref p) H') : rSlA K (.ref a) lo hi H Q := by
  refine ⟨a, xs, rfl, S, fun e => ?_, fun _ p np => ?_⟩
  · exact h a H (Same.refl H) (by rw [cut_full e.1 e.2]; exact S)
  · exact h p _ (Same.newT np) (.inl (.inl upd_same))
theorem w_slT (S : SqT K H a xs) (h : ∀ p H', Same H H' → SqT K H' p (cutV xs lo hi) → Q (.ref p) H') : (rSlL K (.ref a) lo hi H Q ∨ rSlA K (.ref a) lo hi H Q) := .inr (w_slA S h)
theorem w_catA (S : SqT K H a xs) (S' : SqT K H b ys) (z : xs.length + ys.length ≤ sizeLine) (h : ∀ p H', Same H H' → SqT K H' p (xs ++ ys) → Q (.ref p) H') : rCatA K (.ref a) (.ref b) H Q := by
  refine ⟨a, b, xs, ys, rfl, rfl, S, S', z, fun e => ?_, fun _ e => ?_, fun _ _ p np => ?_⟩
  · subst e
    exact h b H (Same.refl H) S'
  · subst e
    exact h a H (Same.refl H) (by rw [List.append_nil]; exact S)
  · exact h p _ (Same.newT np) (.inl (.inl upd_same))
theorem dp_app {es : List PyData} : ∀ {xs : List V} {ds : List PyData}, DpAll K H xs ds → DpAll K H ys es → DpAll K H (xs ++ ys) (ds ++ es)
  | _, _, .nil, B => B
  | _, _, .cons h A, B => .cons h (dp_app A B)
end
end NL
set_option maxRecDepth 100000
set_option maxHeartbeats 2000000
/-! enumerate over a tuple. -/
namespace NL
open PySem PySem.Spec PyProof.Rows L2
open Sem (wp)
open AutoSeq1 (wpAny_loadPart')
theorem meets_enumT (l : Addr) (items : Array Value) (ob : Obj) (hT : ∀ hp : Heap, hp.get? l = some ob → hp.IsTuple l items) :
    Meets (Builtin.«enumerate.__new__» ⟨[.type "enumerate", .ref l], []⟩) (fun _ R s => s.heap.get? l = some ob ∧
      R (.ok (.ret (.ref (s.heap.push { cls := .type "tuple_iterator", data := .fields #[.ref l, .int 0 0] }).objs.size)))
        { s with heap := (s.heap.push { cls := .type "tuple_iterator", data := .fields #[.ref l, .int 0 0] }).push { cls := .type "enumerate", data := .fields #[.none, .bool false, .ref s.heap.objs.size, rawInt 0, .none, .none] } }) :=
  .of_wp fun prog w A R s h => by
    obtain ⟨hp, g, d, tk, os⟩ := s; obtain ⟨hl, h⟩ := h
    have hsub := sub_enumerate
    have hL : Heap.IsTuple (Shared.heap ⟨hp, g, d, tk, os⟩) l items := hT _ hl
    wp_walk using wpAny_loadPart' hl
    refine wpAny_stack_any fun st => wpAny_pure ?_
    split
    · rename_i c _ _ _ _ _
      cases (c == Value.type "enumerate")
      · wp_walk using wpAny_loadPart' hl, wpAny_pyIter_tuple hL
        exact ⟨_, rfl, h⟩
      · wp_walk using wpAny_loadPart' hl, wpAny_pyIter_tuple hL
        exact ⟨_, rfl, h⟩
    · wp_walk using wpAny_loadPart' hl, wpAny_pyIter_tuple hL
      exact ⟨_, rfl, h⟩
section
variable {prog : Program} {w : World} {A : Around} {E : Value → Shared → Prop} {s : Shared}
theorem call_enumT {l : Addr} {items : Array Value} {Q : Value → Shared → Prop} (hL : s.heap.IsTuple l items)
    (h : ∀ h', IsEnum h' (s.heap.objs.size + 1) s.heap.objs.size 0 .none → h'.IsTupleIter s.heap.objs.size l 0 → h'.objs.size = s.heap.objs.size + 2 →
      (∀ b o, s.heap.get? b = some o → h'.get? b = some o) → Q (.ref (s.heap.objs.size + 1)) { s with heap := h' }) :
    wpAny (model prog w) A (call (.type "enumerate") [.ref l]) Q E s := by
  obtain ⟨ob, hl, hc, n, hd⟩ := id hL
  refine callType_new F.called_enumerate (by decide) (F.typeCall_enumerate_1 _) (F.newCall_enumerate_1 _) (fun obj => F.args_object_init_2 obj _) F.entry_enumerate_new
    (meets_enumT l items ob fun hp e => ⟨ob, e, hc, n, hd⟩) ⟨hl, ?_⟩
  have hz : (s.heap.push { cls := .type "tuple_iterator", data := .fields #[.ref l, .int 0 0] }).objs.size = s.heap.objs.size + 1 := Heap.size_push ..
  show _ ∧ _
  rw [hz]
  have he : IsEnum ((s.heap.push { cls := .type "tuple_iterator", data := .fields #[.ref l, .int 0 0] }).push
      { cls := .type "enumerate", data := .fields #[.none, .bool false, .ref s.heap.objs.size, rawInt 0, .none, .none] }) (s.heap.objs.size + 1) s.heap.objs.size 0 .none := by
    have := Heap.get?_push_size (s.heap.push { cls := .type "tuple_iterator", data := .fields #[.ref l, .int 0 0] })
      (o := { cls := .type "enumerate", data := .fields #[.none, .bool false, .ref s.heap.objs.size, rawInt 0, .none, .none] }) rfl
    rw [hz] at this; exact this
  refine ⟨⟨_, he, rfl⟩, h _ he ⟨_, Heap.get?_push_of_some _ (Heap.get?_push_size _ rfl), rfl, rfl⟩ (by rw [Heap.size_push, hz]) fun b o x => Heap.get?_push_of_some _ (Heap.get?_push_of_some _ x)⟩
end
/-- the tuple at a, each item in a new pair -/
def ItE (K : PySem.W.Frag) (a : Addr) : It :=
  ⟨fun i H => ∃ (xs : List V) (x : V), SqT K H a xs ∧ xs[i]? = some x, fun i H v H' => ∃ T x, v = .ref T ∧ H T = none ∧ H' = upd H T (.tup [.int (i : Nat), x]) ∧ ∀ xs, SqT K H a xs → xs[i]? = some x, fun i H => ∃ xs : List V, SqT K H a xs ∧ xs.length ≤ i⟩
theorem turn_enumT {P : Program} {w : World} {K : PySem.W.Frag} {elts : List Expr} {kk : Nat} {tpos : Pos} (a e it : Addr) :
    Turn P w K (.Tuple elts kk tpos) (ItE K a) [e, it] e (fun i h => (∃ old, IsEnum h e it ((i : Nat) : Int) old) ∧ h.IsTupleIter it a i ∧ e ≠ it) where
  mem := by simp
  obj := fun i h st b hb => by
    obtain ⟨⟨old, he⟩, ⟨o, ho, hc, hd⟩, _⟩ := st
    have e' : b = e ∨ b = it := by simpa using hb
    rcases e' with z | z
    · rw [z]; exact ⟨_, he, fun v q => nomatch q⟩
    · rw [z]; exact ⟨o, ho, fun v q => by rw [hd] at q; cases q⟩
  keep := fun i h h' st k => let ⟨⟨old, he⟩, hi, hne⟩ := st; ⟨⟨old, k e (by simp) _ he⟩, hi.at fun o q => k it (by simp) o q, hne⟩
  item := by
    intro X hP hw hK hc i pins s σ H E I hf st hg
    subst hP hw hK
    obtain ⟨⟨old, he⟩, hit, hne⟩ := st
    obtain ⟨xs, x, hq, hx⟩ := hg
    obtain ⟨its, rv, p, hz⟩ := I.tuple hq
    obtain ⟨u, hu, ru⟩ := rv.get hx
    have pT : s.heap.IsTuple a its.toArray := p
    have hai : a ≠ it := by
      rintro rfl
      obtain ⟨o, ho, hc1, _⟩ := hit
      obtain ⟨o2, ho2, hc2, _⟩ := pT
      rw [ho] at ho2
      cases ho2
      rw [hc1] at hc2
      simp at hc2
    have hae : e ≠ a := by
      rintro rfl
      obtain ⟨o2, ho2, hc2, _⟩ := pT
      have he' : s.heap.get? e = some _ := he
      rw [he'] at ho2
      cases ho2
      simp at hc2
    have hel : e < s.heap.objs.size := Heap.lt_size he
    have hil : it < s.heap.objs.size := by obtain ⟨_, q, _⟩ := hit; exact Heap.lt_size q
    have hlt : i < its.toArray.size := by
      have := (List.getElem?_eq_some_iff.mp hu).1
      simpa using this
    refine wpAny_pyNext_enum_itemD (Draws.tuple (show X.A.in1.handled = none from I.ok.hd hc) it a hai its.toArray) he ⟨hit, pT⟩ hlt hne (by simp [hne, hae]) fun y h' tk hy ho st' hT hsz hk => ?_
    have ey : y = u := by
      have hu' : its.toArray[i]? = some u := by simpa using hu
      rw [hu'] at hy
      exact (Option.some.inj hy).symm
    subst ey
    refine ⟨_, rfl, wpAny_letOwnedTupleGo_enum (s := { s with heap := h', toks := tk + 1 }) ho fun h'' he' sb => ?_⟩
    have hT2 : h''.get? s.heap.objs.size = some { cls := .type "tuple", data := .seq #[.int i tk, y] } := (sb.2 _ (Nat.ne_of_gt hel)).trans hT
    have new : ObjOk X.prog X.w (upd H s.heap.objs.size (.tup [.int (i : Nat), x])) h'' s.heap.objs.size (.tup [.int (i : Nat), x]) :=
      ⟨by show 2 ≤ sizeLine; decide, [.int i tk, y], .cons ⟨_, rfl⟩ (.cons ru .nil), ⟨_, hT2, rfl, _, rfl⟩⟩
    have I1 : Inv X pins σ (upd H s.heap.objs.size (.tup [.int (i : Nat), x])) { s with heap := h'', toks := tk + 1 } :=
      I.turnedNew (ch := [e, it]) (fun b ob hb q => (sb.2 b (fun z => hb (by simp [z]))).trans (hk b ob (fun z => hb (by simp [z])) (fun z => hb (by simp [z])) q)) hf (Nat.le_refl _) new
    refine ⟨.ref s.heap.objs.size, _, I1, rfl, ⟨_, x, rfl, I.hok.fresh (Nat.le_refl _), rfl, fun ys hy => by rw [I.tuple_inj hy hq]; exact hx⟩, ⟨⟨y, ?_⟩, st'.1.at fun o q => (sb.2 it (Ne.symm hne)).trans q, hne⟩, fun b hb => ?_⟩
    · have e1 : ((i + 1 : Nat) : Int) = (i : Int) + 1 := by omega
      rw [e1]; exact he'
    · have hb' : b < s.heap.objs.size := by
        have e' : b = e ∨ b = it := by simpa using hb
        rcases e' with z | z
        · rw [z]; exact hel
        · rw [z]; exact hil
      rw [upd_ne (Nat.ne_of_lt hb')]
      exact (hf b hb).1
  done := by
    intro X hP hw hK hc i pins s σ H E I hf st hg
    subst hP hw hK
    obtain ⟨⟨old, he⟩, hit, hne⟩ := st
    obtain ⟨xs, hq, hx⟩ := hg
    obtain ⟨its, rv, p, hz⟩ := I.tuple hq
    have pT : s.heap.IsTuple a its.toArray := p
    obtain ⟨f0, f1, f2, f3, f4, f5⟩ := hf it (by simp)
    have hl := rv.length
    have hT : s.TypeIs (.ref e) "enumerate" := ⟨_, he, rfl⟩
    unfold pyNext
    refine wpAny_bind (wpAny_attempt (wpAny_callSpecial?_slot (name := Str.ofString "__next__") hT F.slot_enumerate_next
      (wpAny_call_entry F.slot_enumerate_next hT F.entry_enumerate_next ?_ (F.args_enumerate_next_1 _))))
    show wpAny _ _ (field (.ref e) 2 >>= _) _ _ _
    refine wpAny_bind (wpAny_field he rfl (x := .ref it) rfl ?_)
    refine wpAny_bind (wpAny_nextOf_tuple_end (show X.A.in1.handled = none from I.ok.hd hc) hit pT (by simp; omega) fun h' x he' hx' => ?_)
    obtain ⟨o, ho, hc'⟩ := hx'
    refine wpAny_bind (wpAny_isInstance (T := "StopIteration") (b := true) ⟨o, ho, hc'⟩ isSubtype_stop ?_)
    exact wpAny_pure ⟨rfl, I.turned (t' := s.toks) (fun b o hb q => he' b o hb q) f0 f1 f3 f4 f5⟩
  self := fun A i s Q E st h => let ⟨⟨_, he⟩, _⟩ := st; wpAny_pyIter_enum he h
def iEnumT (K : PySem.W.Frag) (ta : TA) : TI := fun σ H R => ta σ H fun vs H1 => ∃ a xs, vs = [.ref a] ∧ SqT K H1 a xs ∧ R (ItE K a) H1
theorem pi_enumT {X : Cx} {e : Expr} {ta : TA} {p pos tpos : Pos} {elts : List Expr} {kk : Nat} (hg : Gl X "enumerate") (hm : X.mg "enumerate" = none) (ha : PA X [e] ta) (hs : starEach [e] X.env = [(false, eval e X.env)] := by rfl) :
    PI X (.Tuple elts kk tpos) (.Call (.Name "enumerate" p) [e] [] pos) (iEnumT X.K ta) := by
  refine ⟨fun pins s σ H R I h => ?_⟩
  refine Call_ (ld_blt I hg hm boot_enumerate (PyProof.Rows.callWith_type1 (thn (ha.run pos pins s σ H _ I h) fun us s1 ⟨vs, H1, I1, r1, q1⟩ => ?_) hs rfl))
  obtain ⟨a, xs, ex, hq, q⟩ := q1
  subst ex
  cases r1 with
  | cons r rr =>
    cases rr
    cases r
    obtain ⟨its, rv, p', hz⟩ := I1.tuple hq
    refine call_enumT (show s1.heap.IsTuple a its.toArray from p') fun h' he hit hsz hk => wpAny_pyIter_enum he ?_
    have I2 : Inv X pins σ H1 { s1 with heap := h' } := I1.kept (t' := s1.toks) hk
    refine ⟨s1.heap.objs.size + 1, [s1.heap.objs.size + 1, s1.heap.objs.size], _, _, H1, rfl, I2, turn_enumT a (s1.heap.objs.size + 1) s1.heap.objs.size, ⟨⟨.none, he⟩, hit, Nat.succ_ne_self _⟩, fun b hb => ?_, q⟩
    have e' : b = s1.heap.objs.size + 1 ∨ b = s1.heap.objs.size := by simpa using hb
    have hle : s1.heap.objs.size ≤ b := by
      rcases e' with z | z
      · rw [z]; exact Nat.le_add_right _ _
      · rw [z]; exact Nat.le_refl _
    exact I1.fpOk hle (I1.hok.fresh hle)
end NL
set_option maxRecDepth 100000
set_option maxHeartbeats 2000000
/-! Own classes: made, compared. -/
namespace NL
open PySem PySem.Spec PyProof.Rows L2
/-- an own class as the defs see it -/
structure ClsK (K : PySem.W.Frag) (mg : Str → Option Value) (x : Str) (C : Addr) : Prop where
  gC : mg x = some (.ref C)
  ic : C8.InsC K C
  mks : PySem.W.makesIn K C = true
  kp : PySem.W.keepIn K (.ref C) = true
  ne : PySem.W.findIn K (.ref C) "__ne__" = some (some (.builtin "object.__ne__"))
  so : PySem.W.subIn K (.ref C) (.type "object") = some true
  nf : PySem.W.notFirst K C (.ref C) = true
  nt : PySem.W.notFirst K C (.type "tuple") = true
  it : PySem.W.kitOne K (.type "tuple") (.ref C) = some false
/-- a method's def -/
def MDef (K : PySem.W.Frag) (C : Addr) (m qual : Str) (st : Stmt) (ps : List Str) : Prop :=
  ∃ f fd, Fun K m qual st f fd ∧ PySem.W.findIn K (.ref C) m = some (some (.ref f)) ∧ PySem.W.isFn K (.ref f) = true ∧ Binds K fd ps []
/-- a method keeps its promise -/
def KeptM (P : Program) (w : World) (K : PySem.W.Frag) (mg : Str → Option Value) (base : Heap) (CX : CXT) (k : Nat) (C : Addr) (m qual : Str) (st : Stmt) (ps : List Str) (sp : Sp) : Prop :=
  ∃ f fd, Fun K m qual st f fd ∧ PySem.W.findIn K (.ref C) m = some (some (.ref f)) ∧ PySem.W.isFn K (.ref f) = true ∧ Binds K fd ps [] ∧ FnOk P w K mg base CX k f fd ps sp
section
variable {P : Program} {w : World} {K : PySem.W.Frag} {mg : Str → Option Value} {base : Heap} {C : Addr} {m qual : Str} {st : Stmt} {N ps : List Str} {k : Nat} {sp : Sp}
theorem keepM0 (D : MDef K C m qual st ps) (S : FnScope N ps (defScope st)) (len : ∀ vs H Q E, sp vs H Q E → vs.length = ps.length)
    (hb : ∀ (f : Addr) (cdv : Value) (A : Around) (outer : List Env) (s : Shared) (H : Hp) (vs : List V) (Q : VK) (E : XK), Room k (A.deeper (envOfC qual (defScope st) s.heap.objs.size f cdv)) → sp vs H Q E →
      ∃ t, PSs (cxOf CX0 P w K mg base N qual (defScope st) f cdv A outer s H E).nox (defBody st) t ∧ t { nx := fun _ H' => Q .non H', rt := Q } (start N vs) H) :
    KeptM P w K mg base CX0 (k + 1) C m qual st ps sp := by
  obtain ⟨f, fd, F, g, i, b⟩ := D
  exact ⟨f, fd, F, g, i, b, F.ok S len fun cdv A outer s H vs Q E hr h => hb f cdv A outer s H vs Q E hr h⟩
theorem keepMX (D : MDef K C m qual st ps) (S : FnScope N ps (defScope st)) (len : ∀ vs H Q E, sp vs H Q E → vs.length = ps.length)
    (hb : ∀ (f : Addr) (cdv : Value) (A : Around) (outer : List Env) (s : Shared) (H : Hp) (vs : List V) (Q : VK) (E : XK), Room k (A.deeper (envOfC qual (defScope st) s.heap.objs.size f cdv)) → sp vs H Q E →
      ∃ t, PSs (cxOf (L2.CX P w) P w K mg base N qual (defScope st) f cdv A outer s H E) (defBody st) t ∧ t { nx := fun _ H' => Q .non H', rt := Q } (start N vs) H) :
    KeptM P w K mg base (L2.CX P w) (k + 1) C m qual st ps sp := by
  obtain ⟨f, fd, F, g, i, b⟩ := D
  exact ⟨f, fd, F, g, i, b, F.okX S len fun cdv A outer s H vs Q E hr h => hb f cdv A outer s H vs Q E hr h⟩
/-- what is promised of X(..), where its __init__ keeps sp -/
def Makes (C : Addr) (sp sp' : Sp) : Prop := ∀ vs H Q E, sp' vs H Q E → ∀ x dx, H x = none → H dx = none → dx ≠ x →
  sp (.ref x :: vs) (upd (upd H dx (.own x)) x (.ins C dx [])) (fun v H2 => v = .non ∧ Q (.ref x) H2) E
end
theorem _root_.L2.PA.weak {X : Cx} {es : List Expr} {ta : TA} (ha : PA X es ta) : PA X es (fun σ H Q => ∃ Q0 : List V → Hp → Prop, ta σ H Q0 ∧ ∀ vs H1, Q0 vs H1 → Q vs H1) := by
  constructor
  intro pos pins s σ H Q I h
  obtain ⟨Q0, h, k⟩ := h
  exact thn (ha.run pos pins s σ H Q0 I h) fun us s1 ⟨vs, H1, I1, r, q⟩ => ⟨vs, H1, I1, r, k _ _ q⟩
theorem _root_.L2.PK.weak {X : Cx} {kws : List Keyword} {ta : TA} (ha : PK X kws ta) : PK X kws (fun σ H Q => ∃ Q0 : List V → Hp → Prop, ta σ H Q0 ∧ ∀ vs H1, Q0 vs H1 → Q vs H1) := by
  constructor
  intro pos pins s σ H Q I h
  obtain ⟨Q0, h, k⟩ := h
  exact thn (ha.run pos pins s σ H Q0 I h) fun us s1 ⟨vs, H1, I1, r, q⟩ => ⟨vs, H1, I1, r, k _ _ q⟩
section
variable {X : Cx} {k n : Nat} {st : Stmt} {ps ks : List Str} {sp sp' : Sp} {x qual : Str} {p pos : Pos} {e : Expr} {es : List Expr} {t tk : TA} {C : Addr} {CX : CXT} {E : XK} {idx : List Nat} {kws : List Keyword}
/-- X(e, ..) -/
theorem pk_make (c : ClsK X.K X.mg x C) (O : KeptM X.prog X.w X.K X.mg X.base CX k C "__init__" qual st ps sp) (mk : Makes C sp sp') (hx : Passes CX X E) (hr : Room (k + 1) X.A) (ha : PA X (e :: es) t) (hg : Gl X x := by rfl) (hdb : (x == ("__debug__" : Str)) = false := by decide)
    (he : starEach (e :: es) X.env = (false, eval e X.env) :: starEach es X.env := by rfl) (hpl : (backTo pos (starEach es X.env)).any (·.1) = false := by rfl) :
    PE X (.Call (.Name x p) (e :: es) [] pos) (tCall sp' [] E t) := by
  obtain ⟨f, fd, F, g, i, b, ok⟩ := O
  have r := pe_make (pos := pos) (p := p) (dvs := []) (ds := []) ⟨c.mks, g, i, c.kp⟩ ok hr hg c.gC b .nil hx ha.weak hdb he hpl
  constructor
  intro pins s σ H Q I h
  refine r.run pins s σ H Q I ⟨_, h, fun vs H1 q x dx h1 h2 h3 => ?_⟩
  rw [List.append_nil] at q ⊢
  exact mk _ _ _ _ q x dx h1 h2 h3
def KwM (m qual : Str) (st : Stmt) (ps ks : List Str) (n : Nat) (idx : List Nat) : Prop := ∀ (kV doc pm : Value) (an : Option Addr) (cdv ct : Value), KwB (PySem.W.fnOf m qual (defArgs st) (defBody st) (defScope st) .none kV doc pm an cdv ct) ps ks n idx
/-- X(k = v, ..): idx puts the keywords' values into the parameters' order -/
theorem pk_makeW0 (c : ClsK X.K X.mg x C) (O : KeptM X.prog X.w X.K X.mg X.base CX k C "__init__" qual st ps sp) (mk : Makes C sp sp') (hx : Passes CX X E) (hb : KwM "__init__" qual st ps ks 1 (0 :: idx.map (· + 1))) (hr : Room (k + 1) X.A) (hkw : PK X kws tk) (hg : Gl X x := by rfl)
    (hall : (backToKw pos (keywordEach kws X.env)).all (·.1.isSome) = true := by rfl) (hks : (backToKw pos (keywordEach kws X.env)).filterMap (·.1) = ks := by rfl) (hdb : (x == ("__debug__" : Str)) = false := by decide)
    (hpl : ((backTo pos (starEach [] X.env)).any (·.1) || (backToKw pos (keywordEach kws X.env)).any (·.1.isNone)) = false := by rfl) :
    PE X (.Call (.Name x p) [] kws pos) (tCallW 0 ks.length idx sp' E tNil tk) := by
  obtain ⟨f, fd, F, g, i, b, ok⟩ := O
  have kb : KBn X.K fd ps 1 ks (fun us ws => pick (0 :: idx.map (· + 1)) (us ++ ws)) (fun vs zs => pick (0 :: idx.map (· + 1)) (vs ++ zs)) := by
    refine ⟨fun s us ws _ l1 l2 => ?_, fun r1 r2 => pick_vals (r1.append r2) _⟩
    obtain ⟨oc, od, kV, doc, pm, an, cdv, ct, osl, rfl, _⟩ := F.ex
    exact .of_eq (hb kV doc pm an cdv ct us ws l1 l2)
  have r := pe_makeK0 (pos := pos) (p := p) ⟨c.mks, g, i, c.kp⟩ ok hr hg c.gC kb hx hkw.weak hall hks hdb hpl
  constructor
  intro pins s σ H Q I h
  refine r.run pins s σ H Q I ⟨_, h, fun zs H1 q => ?_⟩
  obtain ⟨l1, l2, q⟩ := q
  refine ⟨l1, l2, fun x dx h1 h2 h3 => ?_⟩
  have e : pick (0 :: idx.map (· + 1)) ([V.ref x] ++ zs) = .ref x :: pick idx zs := by
    unfold pick
    rw [List.filterMap_cons_some (b := V.ref x) (by rfl), List.filterMap_map]
    congr 1
  have q : sp' (pick idx zs) H1 Q E := q
  show sp (pick (0 :: idx.map (· + 1)) ([V.ref x] ++ zs)) _ _ _
  rw [e]
  exact mk _ _ _ _ q x dx h1 h2 h3
end

/-- X(..) keeps its promise -/
def KeptC (P : Program) (w : World) (K : PySem.W.Frag) (mg : Str → Option Value) (base : Heap) (k : Nat) (x : Str) (C : Addr) (qual : Str) (st : Stmt) (ps : List Str) (sp' : Sp) : Prop :=
  ClsK K mg x C ∧ ∃ sp, KeptM P w K mg base (L2.CX P w) k C "__init__" qual st ps sp ∧ Makes C sp sp'
section
variable {X : Cx} {k n : Nat} {st : Stmt} {ps ks : List Str} {sp' : Sp} {x qual : Str} {p pos : Pos} {e : Expr} {es : List Expr} {t tk : TA} {C : Addr} {E : XK} {idx : List Nat} {kws : List Keyword}
theorem pk_newX (O : KeptC X.prog X.w X.K X.mg X.base k x C qual st ps sp') (tk : Takes X (fun cls d _ H => E cls d H)) (hr : Room (k + 1) X.A) (ha : PA X (e :: es) t) (hg : Gl X x := by rfl) (hdb : (x == ("__debug__" : Str)) = false := by decide)
    (he : starEach (e :: es) X.env = (false, eval e X.env) :: starEach es X.env := by rfl) (hpl : (backTo pos (starEach es X.env)).any (·.1) = false := by rfl) :
    PE X (.Call (.Name x p) (e :: es) [] pos) (tCall sp' [] E t) := by
  obtain ⟨c, sp, O, mk⟩ := O
  exact pk_make c O mk (passes_call tk fun _ _ _ _ h => h) hr ha hg hdb he hpl
theorem pk_newL (O : KeptC X.prog X.w X.K X.mg X.base k x C qual st ps sp') (hr : Room (k + 1) X.A) (ha : PA X (e :: es) t) (hg : Gl X x := by rfl) (hdb : (x == ("__debug__" : Str)) = false := by decide)
    (he : starEach (e :: es) X.env = (false, eval e X.env) :: starEach es X.env := by rfl) (hpl : (backTo pos (starEach es X.env)).any (·.1) = false := by rfl) :
    PE X (.Call (.Name x p) (e :: es) [] pos) (tCall sp' [] E0 t) := by
  obtain ⟨c, sp, O, mk⟩ := O
  exact pk_make c O mk passL hr ha hg hdb he hpl
theorem pk_newWX (O : KeptC X.prog X.w X.K X.mg X.base k x C qual st ps sp') (tkk : Takes X (fun cls d _ H => E cls d H)) (hb : KwM "__init__" qual st ps ks 1 (0 :: idx.map (· + 1))) (hr : Room (k + 1) X.A) (hkw : PK X kws tk) (hg : Gl X x := by rfl)
    (hall : (backToKw pos (keywordEach kws X.env)).all (·.1.isSome) = true := by rfl) (hks : (backToKw pos (keywordEach kws X.env)).filterMap (·.1) = ks := by rfl) (hdb : (x == ("__debug__" : Str)) = false := by decide)
    (hpl : ((backTo pos (starEach [] X.env)).any (·.1) || (backToKw pos (keywordEach kws X.env)).any (·.1.isNone)) = false := by rfl) :
    PE X (.Call (.Name x p) [] kws pos) (tCallW 0 ks.length idx sp' E tNil tk) := by
  obtain ⟨c, sp, O, mk⟩ := O
  exact pk_makeW0 c O mk (passes_call tkk fun _ _ _ _ h => h) hb hr hkw hg hall hks hdb hpl
theorem pk_newWL (O : KeptC X.prog X.w X.K X.mg X.base k x C qual st ps sp') (hb : KwM "__init__" qual st ps ks 1 (0 :: idx.map (· + 1))) (hr : Room (k + 1) X.A) (hkw : PK X kws tk) (hg : Gl X x := by rfl)
    (hall : (backToKw pos (keywordEach kws X.env)).all (·.1.isSome) = true := by rfl) (hks : (backToKw pos (keywordEach kws X.env)).filterMap (·.1) = ks := by rfl) (hdb : (x == ("__debug__" : Str)) = false := by decide)
    (hpl : ((backTo pos (starEach [] X.env)).any (·.1) || (backToKw pos (keywordEach kws X.env)).any (·.1.isNone)) = false := by rfl) :
    PE X (.Call (.Name x p) [] kws pos) (tCallW 0 ks.length idx sp' E0 tNil tk) := by
  obtain ⟨c, sp, O, mk⟩ := O
  exact pk_makeW0 c O mk passL hb hr hkw hg hall hks hdb hpl
end
/-! ### == and != by an own __eq__ -/
section
open PySem.W
variable {prog : Program} {w : World} {A : Around} {E : Value → Shared → Prop} {s : Shared} {K : Frag} {x C L f : Addr} {h₀ : Heap} {m : Str → Option Value} {ox : Obj} {od : Option Obj} {b tb : Value}
theorem slot_objne : Slot "object" "__ne__" "object.__ne__" :=
  Slot.of (T := "object") (name := "__ne__") (owner := "object") (n := "__ne__") (by rw [typeLookup_type, builtinLookup_eq_fast]; kernel_rfl) (by decide +kernel) (by decide +kernel) (by decide +kernel)
    (.inl (by decide +kernel)) (by rw [isSubtype_type]; kernel_rfl)
theorem ifBound_ne {M : Model} {args : List Value} {Q : Option Value → Shared → Prop} (X : K.In s.heap) (I : InstAt s.heap x ox C od) (hs : findIn K (.ref C) "__ne__" = some (some (.builtin "object.__ne__")))
    (h : wpAny M A (call (.builtin "object.__ne__") (.ref x :: args)) (fun v => Q (some v)) E s) : wpAny M A (callSpecialIfBound? (.ref x) "__ne__" args) Q E s := by
  simp only [callSpecialIfBound?, bindSpecialIfBound?]
  refine wpAny_holding (wpAny_bind (wpAny_bind (wpAny_bind (I.type.here ((looks_findIn X hs).here ?_)))))
  refine wpAny_bind (wpAny_askSetting (wpAny_ite ?_))
  have fin : wpAny M A (call (.builtin "object.__ne__") ([.ref x] ++ args) >>= fun v => pure (some v)) Q E s := wpAny_bind (wpAny_mono h (fun v s' h' => wpAny_pure h') fun _ _ h' => h')
  rw [slot_objne.bind]
  split
  · exact wpAny_bind (wpAny_pure (wpAny_pure (by exact fin)))
  · exact wpAny_tryCatch (wpAny_bind (wpAny_pure (wpAny_pure (by exact fin))))
theorem check_ne {M : Model} {rest : List Value} {Q : Unit → Shared → Prop} (X : K.In s.heap) (I : InstAt s.heap x ox C od) (hso : subIn K (.ref C) (.type "object") = some true)
    (ha : argsOk "object.__ne__" ⟨.ref x :: rest, []⟩) (hq : Q () s) : wpAny M A (checkBuiltinCall "object.__ne__" ⟨.ref x :: rest, []⟩) Q E s := by
  simp only [checkBuiltinCall, F.cmpKind_ne, F.cmpSplit_ne]
  refine wpAny_bind ?_
  have hI : Looks M s.heap (isInstance (.ref x) (.type "object")) true := I.type.andThen (looks_subIn X hso)
  refine hI.here ?_
  cases hsig : Manifest.signature? "object.__ne__" with
  | none => exact wpAny_pure hq
  | some sig =>
    simp only [argsOk, hsig] at ha
    have h2 : Bind.checkArgs "object.__ne__" sig ⟨.ref x :: rest, []⟩ = pure () := ha
    show wpAny M A (Bind.checkArgs "object.__ne__" sig ⟨.ref x :: rest, []⟩) Q E _
    rw [h2]
    exact wpAny_pure hq
theorem objNe_body {Q : Fin → Shared → Prop} (hu : A.units < cLine) (X : K.In s.heap) (I : InstAt s.heap x ox C od) (hs : findIn K (.ref C) "__eq__" = some (some (.ref f))) (hf : isFn K (.ref f) = true)
    (h : wpAny (model prog w) A (call (.ref f) [.ref x, b]) (fun v s' => ∃ r, v = .bool r ∧ Q (.done (.ret (.bool (!r)))) s') E s) :
    wpAny (model prog w) A (Builtin.«object.__ne__» ⟨[.ref x, b], []⟩) Q E s := by
  unfold Builtin.«object.__ne__»
  repeat (first
    | with_reducible refine wpAny_cRoomFor hu ?_
    | (refine wpAny_bind (m := callSpecialIfBound? (.ref x) (Str.ofString "__eq__") [b])
        (ifBound_K X I hs hf (wpAny_mono h (fun r s' hr => by
          obtain ⟨b, rfl, hq⟩ := hr
          repeat (first | exact hq | exact wpAny_pure hq | exact wpAny_truthy_bool hq | (refine wpAny_bind (m := truthy (.bool _)) (wpAny_truthy_bool ?_)) | wp_step)) fun _ _ e => e)))
    | wp_step)
theorem ne_ownK {Q : Value → Shared → Prop} (hu : A.units + 1 < cLine) (X : K.In s.heap) (I : InstAt s.heap x ox C od) (hb : Looks (model prog w) s.heap (typeOf b) tb) (hn : notFirst K C tb = true)
    (hno : findIn K (.ref C) "__ne__" = some (some (.builtin "object.__ne__"))) (hso : subIn K (.ref C) (.type "object") = some true)
    (hs : findIn K (.ref C) "__eq__" = some (some (.ref f))) (hf : isFn K (.ref f) = true)
    (h : wpAny (model prog w) A.in1 (call (.ref f) [.ref x, b]) (fun v s' => ∃ r, v = .bool r ∧ Q (.bool (!r)) s') E s) : wpAny (model prog w) A (richCompare .NotEq (.ref x) b) Q E s := by
  have one : wpAny (model prog w) A (tryCompare (.ref x) "__ne__" b) (fun r s' => ∃ v, r = some v ∧ Q v s') E s := by
    unfold tryCompare
    refine wpAny_bind (ifBound_ne X I hno (wpAny_call (codeAny_call_builtin slot_objne.plain F.cmpEntry_ne (check_ne X I hso (F.cmpArgs_ne _ _) ?_))))
    refine objNe_body (A := A.in1) (by exact hu) X I hs hf (wpAny_mono h (fun v s' hv => ?_) fun _ _ e => e)
    obtain ⟨r, rfl, hq⟩ := hv
    first | exact ⟨r, rfl, wpAny_pure ⟨_, rfl, hq⟩⟩ | exact ⟨r, rfl, ⟨_, rfl, hq⟩⟩
  unfold richCompare
  simp only [oneThing_ref]
  refine wpAny_holding (wpAny_bind (wpAny_cRoomFor (by omega) ?_))
  rw [cmpInfo_NotEq]
  refine wpAny_bind (I.type.here (wpAny_bind (hb.here ?_)))
  split
  · rename_i q
    have e : subIn K tb (.ref C) = some false := by
      rcases Bool.or_eq_true_iff.mp hn with e | e
      · rw [beq_iff_eq.mp e] at q; simp at q
      · exact beq_iff_eq.mp e
    refine wpAny_bind ((looks_subIn X e).here ?_)
    simp only [Bool.false_eq_true, if_false]
    refine wpAny_bind (wpAny_mono one (fun r s' z => ?_) fun _ _ e => e)
    obtain ⟨v, rfl, hq⟩ := z
    exact wpAny_pure hq
  · refine wpAny_bind (wpAny_pure ?_)
    simp only [Bool.false_eq_true, if_false]
    refine wpAny_bind (wpAny_mono one (fun r s' z => ?_) fun _ _ e => e)
    obtain ⟨v, rfl, hq⟩ := z
    exact wpAny_pure hq
end
/-- the class of what is compared -/
inductive CmpTy (K : PySem.W.Frag) (H : Hp) : V → Value → Prop
  | ins {a C dx : Addr} {fs : List (Str × V)} (h : H a = some (.ins C dx fs)) : CmpTy K H (.ref a) (.ref C)
  | tup {a : Addr} {xs : List V} (h : SqT K H a xs) : CmpTy K H (.ref a) (.type "tuple")
theorem CmpTy.looks {X : Cx} {M : Model} {pins : List (Addr × Obj)} {σ : L2.St} {H : Hp} {s : Shared} {y : V} {u t : Value} (h : CmpTy X.K H y t) (I : Inv X pins σ H s) (r : RelV y u) : PySem.W.Looks M s.heap (typeOf u) t := by
  cases h with
  | ins h =>
    cases r
    obtain ⟨mA, J, _⟩ := ins_get I.hok h
    obtain ⟨od, J, _⟩ := J.look
    exact J.type
  | tup h =>
    cases r
    obtain ⟨its, rv, p, hz⟩ := I.tuple h
    obtain ⟨o, ho, hc, _⟩ := p
    exact fun A Q E s k q => wpAny_typeOf_ref (k _ _ ho) (by rw [hc]; exact q)
/-- x op y by the own def of the class at C; y an instance or a tuple -/
def rOwnEq (K : PySem.W.Frag) (C : Addr) (sp : Sp) (f : Bool → Bool) : R2 := fun x y H Q => ∃ a dx fs t, x = .ref a ∧ H a = some (.ins C dx fs) ∧ CmpTy K H y t ∧ PySem.W.notFirst K C t = true ∧
  sp [x, y] H (fun v H' => ∃ r, v = .bl r ∧ Q (.bl (f r)) H') E0
section
variable {X : Cx} {k : Nat} {C : Addr} {qual : Str} {st : Stmt} {ps : List Str} {sp : Sp}
theorem op_ownEq (O : KeptM X.prog X.w X.K X.mg X.base CX0 k C "__eq__" qual st ps sp) (hr : Room k X.A) : OpR X (compareOp .Eq) (rOwnEq X.K C sp id) := by
  obtain ⟨f, fd, F, g, i, b, ok⟩ := O
  intro pins s σ H x y v u Q I rx ry h
  obtain ⟨a, dx, fs, t, rfl, ha, ty, hn, q⟩ := h
  cases (show v = Value.ref a from rx)
  obtain ⟨mA, J, _⟩ := ins_get I.hok ha
  obtain ⟨od, J, _⟩ := J.look
  obtain ⟨m, hF⟩ := I.fr
  show wpAny _ _ (richCompare .Eq (.ref a) u) _ _ _
  refine PySem.W.cmp_K (op := .Eq) hr.units0 hF I.ok.mod.kin J (ty.looks I ry) hn g i ?_
  refine wpAny_mono (run_fn (us := [.ref a, u]) (vs := [.ref a, y]) ok hr b .nil pass0 I (.cons rx (.cons ry .nil)) q) (fun w s' z => ?_) fun _ _ x => x
  obtain ⟨z', H', I', rz, r, rfl, qz⟩ := z
  cases rz
  exact ⟨.bl r, H', I', rfl, qz⟩
theorem op_ownNe (O : KeptM X.prog X.w X.K X.mg X.base CX0 k C "__eq__" qual st ps sp) (hno : PySem.W.findIn X.K (.ref C) "__ne__" = some (some (.builtin "object.__ne__"))) (hso : PySem.W.subIn X.K (.ref C) (.type "object") = some true)
    (hr : Room (k + 1) X.A) : OpR X (compareOp .NotEq) (rOwnEq X.K C sp not) := by
  obtain ⟨f, fd, F, g, i, b, ok⟩ := O
  intro pins s σ H x y v u Q I rx ry h
  obtain ⟨a, dx, fs, t, rfl, ha, ty, hn, q⟩ := h
  cases (show v = Value.ref a from rx)
  obtain ⟨mA, J, _⟩ := ins_get I.hok ha
  obtain ⟨od, J, _⟩ := J.look
  show wpAny _ _ (richCompare .NotEq (.ref a) u) _ _ _
  refine ne_ownK (by have := hr.units0; have := hr.un; omega) I.kIn J (ty.looks I ry) hn hno hso g i ?_
  have r2 : Vals [V.ref a, y] [Value.ref a, u] := .cons rx (.cons ry .nil)
  have hl := ok.len _ _ _ _ q
  refine wpAny_call (codeAny_mono (ok.run X.A.in1 X.stack s H ⟨[.ref a, u], []⟩ [.ref a, u] [.ref a, y] _ E0 hr.in1 I.env0.in1 (b s [.ref a, u] I.kIn hl) r2 q) fun res s' hq => ?_)
  match res, hq with
  | .error e, hq => exact pass0 pins σ H s e s' I hq
  | .ok (.ret w), hq =>
    obtain ⟨z', H', I', rz, r, rfl, qz⟩ := I.after hq
    cases rz
    exact ⟨r, rfl, .bl (!r), H', I', rfl, qz⟩
end
end NL
set_option maxRecDepth 100000
set_option maxHeartbeats 2000000
/-! Loops over enumerate; data, more. -/
namespace NL
open PySem PySem.Spec PyProof.Rows L2
section
variable {K : PySem.W.Frag} {σ : L2.St} {H : Hp} {g : TG} {tb t : TS} {D : Ends} {a : Addr} {xs : List V} {tr : TA} {j : Nat}
theorem fgEL (Pv : Nat → L2.St → Hp → Prop) (h0 : Pv 0 σ H) (hl : ∀ i σ H, i ≤ xs.length → Pv i σ H → SqL K H a xs)
    (hs : ∀ i x T σ H, xs[i]? = some x → Pv i σ H → H T = none → g (.ref T) σ (upd H T (.tup [.int (i : Nat), x])) fun σ2 H2 => tb ⟨Pv (i + 1), D.rt, D.nx, Pv (i + 1)⟩ σ2 H2)
    (hd : ∀ σ H, Pv xs.length σ H → D.nx σ H) : ForGo (Ite K a) g tb D σ H := by
  refine ⟨fun i m σ H => m = xs.length - i ∧ i ≤ xs.length ∧ Pv i σ H, ⟨_, rfl, Nat.zero_le _, h0⟩, ?_⟩
  rintro i m σ H ⟨rfl, hi, p⟩
  have S := hl i σ H hi p
  by_cases h : i < xs.length
  · refine .inr ⟨⟨xs, xs[i], S, List.getElem?_eq_getElem h⟩, fun σ' H' => Pv (i + 1) σ' H', fun σ' H' q => ⟨xs.length - (i + 1), by omega, rfl, h, q⟩, ?_⟩
    rintro x H' ⟨T, y, rfl, nT, rfl, hy⟩
    exact hs i y T σ H (hy xs S) p nT
  · have e : i = xs.length := by omega
    subst e
    exact .inl ⟨⟨xs, S, Nat.le_refl _⟩, hd σ H p⟩
theorem fgET (Pv : Nat → L2.St → Hp → Prop) (h0 : Pv 0 σ H) (hl : ∀ i σ H, i ≤ xs.length → Pv i σ H → SqT K H a xs)
    (hs : ∀ i x T σ H, xs[i]? = some x → Pv i σ H → H T = none → g (.ref T) σ (upd H T (.tup [.int (i : Nat), x])) fun σ2 H2 => tb ⟨Pv (i + 1), D.rt, D.nx, Pv (i + 1)⟩ σ2 H2)
    (hd : ∀ σ H, Pv xs.length σ H → D.nx σ H) : ForGo (ItE K a) g tb D σ H := by
  refine ⟨fun i m σ H => m = xs.length - i ∧ i ≤ xs.length ∧ Pv i σ H, ⟨_, rfl, Nat.zero_le _, h0⟩, ?_⟩
  rintro i m σ H ⟨rfl, hi, p⟩
  have S := hl i σ H hi p
  by_cases h : i < xs.length
  · refine .inr ⟨⟨xs, xs[i], S, List.getElem?_eq_getElem h⟩, fun σ' H' => Pv (i + 1) σ' H', fun σ' H' q => ⟨xs.length - (i + 1), by omega, rfl, h, q⟩, ?_⟩
    rintro x H' ⟨T, y, rfl, nT, rfl, hy⟩
    exact hs i y T σ H (hy xs S) p nT
  · have e : i = xs.length := by omega
    subst e
    exact .inl ⟨⟨xs, S, Nat.le_refl _⟩, hd σ H p⟩
theorem w_forEL (h : tr σ H fun vs H1 => ∃ a xs, vs = [.ref a] ∧ SqL K H1 a xs ∧ ForGo (Ite K a) g t D σ H1) : tFor (iEnum K tr) g t D σ H := h
theorem w_forET (h : tr σ H fun vs H1 => ∃ a xs, vs = [.ref a] ∧ SqT K H1 a xs ∧ ForGo (ItE K a) g t D σ H1) : tFor (iEnumT K tr) g t D σ H := h
/-- for .. in enumerate(x), x a list or a tuple -/
theorem w_forE {H0 : Hp} (e : σ[j]? = some (some (.ref a))) (S : SqL K H0 a xs ∨ SqT K H0 a xs) (Pv : Nat → L2.St → Hp → Prop) (h0 : Pv 0 σ H) (hl : ∀ i σ H', i ≤ xs.length → Pv i σ H' → Same H0 H')
    (hs : ∀ i x T σ H, xs[i]? = some x → Pv i σ H → H T = none → g (.ref T) σ (upd H T (.tup [.int (i : Nat), x])) fun σ2 H2 => t ⟨Pv (i + 1), D.rt, D.nx, Pv (i + 1)⟩ σ2 H2)
    (hd : ∀ σ H, Pv xs.length σ H → D.nx σ H) : tFor (iOr (iEnum K (tCons (tVar j) tNil)) (iEnumT K (tCons (tVar j) tNil))) g t D σ H := by
  have e0 := hl 0 σ H (Nat.zero_le _) h0
  rcases S with S | S
  · exact w_for1 (w_forEL (w_cons (w_var e (w_nil ⟨a, xs, rfl, e0.seq S, fgEL Pv h0 (fun i σ H' hi p => (hl i σ H' hi p).seq S) hs hd⟩))))
  · exact w_for2 (w_forET (w_cons (w_var e (w_nil ⟨a, xs, rfl, same_t e0 S, fgET Pv h0 (fun i σ H' hi p => same_t (hl i σ H' hi p) S) hs hd⟩))))
theorem w_mkErr {C : Addr} {E : XK} {ta : TA} (h : ta σ H fun vs H1 => ∃ v, vs = [v] ∧ ∀ d, H1 d = none → E (.ref C) (some d) (upd H1 d (.xd [("at", v)]))) : tMkErr C ta σ H E := h
end
theorem atN {xs : List V} {i : Nat} {v : V} (h : xs[i]? = some v) : atI xs (i : Int) = some v := by
  have hl := (List.getElem?_eq_some_iff.mp h).1
  unfold atI ixN
  rw [if_pos (by omega), if_pos (by omega)]
  show xs[((i : Int)).toNat]? = _
  rw [Int.toNat_natCast]
  exact h
theorem any_ints (c : Int) : ∀ ns : List Int, ((dInts ns).any fun z => PyData.eqv z (.int c)) = decide (c ∈ ns)
  | [] => by simp [dInts]
  | n :: ns => by
    show ((n == c) || (dInts ns).any fun z => PyData.eqv z (.int c)) = _
    rw [any_ints c ns]
    by_cases h : n = c
    · subst h
      simp
    · by_cases h2 : c ∈ ns
      · simp [h2]
      · have h3 : ¬ c = n := fun z => h z.symm
        simp [h, h2, h3]
/-- i in xs, a list of ints -/
theorem w_inI {K : PySem.W.Frag} {H : Hp} {Q : VK} {a : Addr} {c : Int} {ns : List Int} (S : SqL K H a (ns.map V.int)) (q : Q (.bl (decide (c ∈ ns))) H) : aIn K (.int c) (.ref a) H Q :=
  ⟨.int c, dInts ns, .int c, .lst S (dp_ints ns), rfl, shp_list ns, by rw [any_ints]; exact q⟩
/-! ### data -/
def intsOf (ds : List PyData) : List Int := ds.filterMap fun d => match d with
  | .int i => some i
  | _ => none
theorem ints_all {n : Int} : ∀ {ds : List PyData}, ds.all (ixD n) = true → ds = dInts (intsOf ds)
  | [], _ => rfl
  | d :: ds, h => by
    rw [List.all_cons, Bool.and_eq_true] at h
    have ih := ints_all h.2
    cases d with
    | int i =>
      show _ = PyData.int i :: dInts (intsOf ds)
      rw [← ih]
    | _ => exact absurd h.1 (by simp [ixD])
def elemsD : PyData → List PyData
  | .list ds => ds
  | .tuple ds => ds
  | _ => []
theorem ix_ints {n : Int} {ns : List Int} : (dInts ns).all (ixD n) = ns.all fun i => decide (0 ≤ i) && decide (i < n) := by
  induction ns with
  | nil => rfl
  | cons a ns ih =>
    show (ixD n (.int a) && (dInts ns).all (ixD n)) = _
    rw [ih]
    rfl
theorem intsOf_d (ns : List Int) : intsOf (dInts ns) = ns := by
  induction ns with
  | nil => rfl
  | cons a ns ih =>
    show a :: intsOf (dInts ns) = _
    rw [ih]
theorem dInts_inj {a b : List Int} (h : dInts a = dInts b) : a = b := by
  have := congrArg intsOf h
  rw [intsOf_d, intsOf_d] at this
  exact this
theorem DpAll.get {K : PySem.W.Frag} {H : Hp} : ∀ {xs : List V} {ds : List PyData} {i : Nat} {x : V}, DpAll K H xs ds → xs[i]? = some x → ∃ d, ds[i]? = some d ∧ Dp K H x d
  | _, _, 0, x, .cons h A, e => by
    cases (Option.some.inj e)
    exact ⟨_, rfl, h⟩
  | _, _, i + 1, x, .cons h A, e => DpAll.get (i := i) A e
theorem seq_len {K : PySem.W.Frag} {H : Hp} {Q : VK} {a : Addr} {xs : List V} (S : SqL K H a xs ∨ SqT K H a xs) (q : Q (.int xs.length) H) : aLen K [.ref a] H Q := ⟨a, xs, rfl, S, q⟩
/-- x[i], x a list or a tuple -/
theorem seq_ix {K : PySem.W.Frag} {H : Hp} {Q : VK} {a : Addr} {xs : List V} {i : Int} {v : V} (S : SqL K H a xs ∨ SqT K H a xs) (e : atI xs i = some v) (q : Q v H) : rIx K (.ref a) (.int i) H Q := S.elim (fun S => w_ixL S e q) fun S => w_ixT S e q
end NL
set_option maxRecDepth 100000
set_option maxHeartbeats 2000000
/-! Pairs of ints in the heap and as data; a list made by a walk over enumerate(a tuple of tuples). -/
namespace NL
open PySem PySem.Spec PyProof.Rows L2
/-- a pair told -/
def PairAt (H : Hp) (z : Int × Int) (y : V) : Prop := ∃ t : Addr, y = .ref t ∧ H t = some (.tup [.int z.1, .int z.2])
theorem PairAt.same {H H' : Hp} {z : Int × Int} {y : V} (h : PairAt H z y) (e : Same H H') : PairAt H' z y := by
  obtain ⟨t, h1, h2⟩ := h
  exact ⟨t, h1, e _ _ h2⟩
theorem pair_mono {D : Addr} : MonoD (fun (z : Int × Int) y H' => PairAt H' z y) D := fun z y Ha Hb hl hr far => by
  obtain ⟨t, rfl, h1⟩ := hr
  obtain ⟨acc, hl⟩ := hl
  refine ⟨t, rfl, far t _ ?_ h1⟩
  rintro rfl
  rw [hl] at h1
  cases h1
/-- a pair as data -/
def pD (z : Int × Int) : PyData := .tuple [.int z.1, .int z.2]
theorem dp_pair {K : PySem.W.Frag} {H : Hp} {z : Int × Int} {y : V} (h : PairAt H z y) : Dp K H y (pD z) := by
  obtain ⟨t, rfl, h⟩ := h
  exact .tup (.inl (.inl h)) (.cons (.int _) (.cons (.int _) .nil))
theorem dp_pairs {K : PySem.W.Frag} {H : Hp} : ∀ {zs : List (Int × Int)} {ys : List V}, Paired (fun z y => PairAt H z y) zs ys → DpAll K H ys (zs.map pD)
  | _, _, .nil => .nil
  | _, _, .cons h t => .cons (dp_pair h) (dp_pairs t)
theorem lay_pairs : ∀ zs : List (Int × Int), PyData.canLayAll0 (zs.map pD) = true
  | [] => rfl
  | z :: zs => by
    show (PyData.canLay0 (pD z) && PyData.canLayAll0 (zs.map pD)) = true
    rw [lay_pairs zs]
    rfl
theorem dep_pairs : ∀ zs : List (Int × Int), PyData.depthAll (zs.map pD) ≤ 1
  | [] => Nat.zero_le _
  | z :: zs => Nat.max_le.mpr ⟨Nat.le_refl 1, dep_pairs zs⟩
theorem shp_pairsT (zs : List (Int × Int)) : SeqAt.shaped (.tuple (zs.map pD)) = true := by
  unfold SeqAt.shaped
  have h := dep_pairs zs
  rw [show PyData.canLay0 (.tuple (zs.map pD)) = PyData.canLayAll0 (zs.map pD) from rfl, lay_pairs, show PyData.depth (.tuple (zs.map pD)) = PyData.depthAll (zs.map pD) + 1 from rfl, decide_eq_true (show PyData.depthAll (zs.map pD) + 1 ≤ 64 by omega)]
  rfl
theorem shp_pairsL (zs : List (Int × Int)) : SeqAt.shaped (.list (zs.map pD)) = true := shp_pairsT zs
theorem eqv_pair (a b : Int × Int) : PyData.eqv (pD a) (pD b) = decide (a = b) := by
  obtain ⟨a1, a2⟩ := a
  obtain ⟨b1, b2⟩ := b
  show ((a1 == b1) && ((a2 == b2) && true)) = _
  rw [Bool.and_true]
  by_cases h1 : a1 = b1 <;> by_cases h2 : a2 = b2 <;> simp [h1, h2]
theorem eqv_pairs : ∀ zs ws : List (Int × Int), PyData.eqvAll (zs.map pD) (ws.map pD) = decide (zs = ws)
  | [], [] => rfl
  | [], w :: ws => rfl
  | z :: zs, [] => rfl
  | z :: zs, w :: ws => by
    show (PyData.eqv (pD z) (pD w) && PyData.eqvAll (zs.map pD) (ws.map pD)) = _
    rw [eqv_pairs zs ws, eqv_pair]
    by_cases h : z = w
    · subst h
      by_cases h2 : zs = ws
      · subst h2
        simp
      · simp [h2]
    · simp [h]
/-- what the building asks: enumerate(the tuple at a) outside, the tuple of each turn inside -/
def LcGoE (K : PySem.W.Frag) (a : Addr) (i0 j0 k0 : Nat) (tt1 : TT) (te : TE) (vs vs1 : List Nat) (σ : L2.St) (H : Hp) (Q : VK) : Prop :=
  ∀ D, H D = none → ∃ W : Nat → Nat → Hp → Prop, (∃ m, W 0 m (upd H D (.lst []))) ∧ ∀ i m H, W i m H →
  ((ItE K a).stop i H ∧ Q (.ref D) H) ∨ ((ItE K a).go i H ∧ ∃ Nx : Hp → Prop, (∀ H', Nx H' → ∃ m', m' < m ∧ W (i + 1) m' H') ∧ ∀ x H', (ItE K a).yld i H x H' → gTup K 2 (gCons (gName i0) (gCons (gName j0) gNil)) x (wipe σ vs) H' fun σ2 H2 => wipe σ2 vs = wipe σ vs ∧ tYes σ2 H2 fun b H3 =>
    if b = true then iTup K (tVar j0) σ2 H3 fun J1 H4 => ∃ W1 : Nat → Nat → Hp → Prop, (∃ m, W1 0 m H4) ∧ ∀ j k H, W1 j k H →
      (J1.stop j H ∧ Nx H) ∨ (J1.go j H ∧ ∃ Nx1 : Hp → Prop, (∀ H', Nx1 H' → ∃ k', k' < k ∧ W1 (j + 1) k' H') ∧ ∀ x H', J1.yld j H x H' → gName k0 x (wipe σ2 vs1) H' fun σ3 H5 => wipe σ3 vs1 = wipe σ2 vs1 ∧ tt1 σ3 H5 fun b H6 =>
        if b = true then te σ3 H6 fun y H7 => ∃ acc, H7 D = some (.lst acc) ∧ acc.length < sizeLine ∧ Nx1 (upd H7 D (.lst (acc ++ [y]))) else Nx1 H6)
    else Nx H3)
section
variable {K : PySem.W.Frag} {σ : L2.St} {H : Hp} {Q : VK} {te : TE} {tt1 : TT} {vs vs1 : List Nat} {i0 j0 k0 : Nat} {a : Addr} {xs : List V} {tr : TA}
theorem w_lc2E (h : tr σ H fun ws H1 => ∃ a xs, ws = [.ref a] ∧ SqT K H1 a xs ∧ LcGoE K a i0 j0 k0 tt1 te vs vs1 σ H1 Q) : tLc2 (iEnumT K tr) (gTup K 2 (gCons (gName i0) (gCons (gName j0) gNil))) tYes (iTup K (tVar j0)) (gName k0) tt1 te vs vs1 σ H Q := h
/-- the frame of a turn -/
abbrev sE (σ : L2.St) (vs : List Nat) (i0 j0 : Nat) (i : Nat) (x : V) : L2.St := ((wipe σ vs).set i0 (some (.int (i : Nat)))).set j0 (some x)
theorem lc2_ET {β : Type} (R : β → V → Hp → Prop) (rv : Nat → List V) (p : Nat → V → Bool) (key : Nat → V → β) (S : SqT K H a xs)
    (hz : ((List.range xs.length).flatMap fun i => ((rv i).filter (p i)).map (key i)).length < sizeLine)
    (hrow : ∀ i x, xs[i]? = some x → ∃ b, x = .ref b ∧ SqT K H b (rv i))
    (hw : ∀ i x, wipe (sE σ vs i0 j0 i x) vs = wipe σ vs) (hv : ∀ i x, (sE σ vs i0 j0 i x)[j0]? = some (some x))
    (hw1 : ∀ i x z, wipe ((wipe (sE σ vs i0 j0 i x) vs1).set k0 (some z)) vs1 = wipe (sE σ vs i0 j0 i x) vs1)
    (mono : ∀ D, H D = none → MonoD R D)
    (ht : ∀ i x z, xs[i]? = some x → z ∈ rv i → ∀ H3, Same H H3 → ∀ Q' : Bool → Hp → Prop, Q' (p i z) H3 → tt1 ((wipe (sE σ vs i0 j0 i x) vs1).set k0 (some z)) H3 Q')
    (he : ∀ i x z, xs[i]? = some x → z ∈ rv i → p i z = true → ∀ H3, Same H H3 → ∀ Q' : VK, (∀ v H4, Same H3 H4 → R (key i z) v H4 → Q' v H4) → te ((wipe (sE σ vs i0 j0 i x) vs1).set k0 (some z)) H3 Q')
    (hq : ∀ D H', LcG R H D ((List.range xs.length).flatMap fun i => ((rv i).filter (p i)).map (key i)) H' → Q (.ref D) H') :
    LcGoE K a i0 j0 k0 tt1 te vs vs1 σ H Q := by
  intro D hD
  have mo := mono D hD
  let G : Nat → List β := fun i => ((rv i).filter (p i)).map (key i)
  refine ⟨fun i m H' => m = xs.length - i ∧ i ≤ xs.length ∧ LcG R H D ((List.range i).flatMap G) H', ⟨xs.length, by simp, Nat.zero_le _, hD, Same.newT hD, [], upd_same, .nil⟩, ?_⟩
  rintro i m H' ⟨rfl, hi, L⟩
  have S' : SqT K H' a xs := same_t L.sm S
  by_cases hlt : i < xs.length
  · refine .inr ⟨⟨xs, xs[i], S', by simp [hlt]⟩, fun H2 => LcG R H D ((List.range (i + 1)).flatMap G) H2, fun H2 L2 => ⟨xs.length - (i + 1), by omega, rfl, hlt, L2⟩, fun y H2 yy => ?_⟩
    obtain ⟨T1, x, rfl, nT, rfl, hx⟩ := yy
    have hx := hx xs S'
    obtain ⟨b, rfl, Sb⟩ := hrow i x hx
    have L2 := L.keep mo (Same.newT (o := .tup [.int (i : Nat), .ref b]) nT)
    have tk : (List.range (i + 1)).flatMap G = (List.range i).flatMap G ++ G i := by
      rw [List.range_succ, List.flatMap_append]
      simp
    refine ⟨T1, _, rfl, .inl (.inl upd_same), rfl, _, _, rfl, _, _, rfl, rfl, hw i _, ?_⟩
    generalize upd H' T1 (.tup [.int (i : Nat), .ref b]) = H2 at L2
    refine w_yes ?_
    rw [if_pos rfl]
    refine ⟨.ref b, hv i _, b, rfl, ⟨_, same_t L2.sm Sb⟩, ?_⟩
    have pre : ∀ q : Nat, q ≤ (rv i).length → ((List.range i).flatMap G ++ (((rv i).take q).filter (p i)).map (key i)).length ≤ ((List.range xs.length).flatMap G).length := by
      intro q hq'
      have h2 : List.range xs.length = List.range i ++ (i :: ((List.range (xs.length - (i + 1))).map (i + 1 + ·))) := by
        have : xs.length = (i + 1) + (xs.length - (i + 1)) := by omega
        rw [this, List.range_add, List.range_succ, List.append_assoc]
        congr 2
        simp
      have h1 : (((rv i).take q).filter (p i)).length ≤ ((rv i).filter (p i)).length := by
        have : rv i = (rv i).take q ++ (rv i).drop q := (List.take_append_drop q _).symm
        conv => rhs; rw [this]
        rw [List.filter_append, List.length_append]
        omega
      rw [h2, List.flatMap_append, List.flatMap_cons, List.length_append, List.length_append, List.length_append, List.length_map]
      show _ ≤ _ + ((((rv i).filter (p i)).map (key i)).length + _)
      rw [List.length_map]
      omega
    refine ⟨fun q k H5 => k = (rv i).length - q ∧ q ≤ (rv i).length ∧ LcG R H D ((List.range i).flatMap G ++ (((rv i).take q).filter (p i)).map (key i)) H5, ⟨(rv i).length, by simp, Nat.zero_le _, by simpa using L2⟩, ?_⟩
    rintro q k H5 ⟨rfl, hqn, L5⟩
    have Sb5 : SqT K H5 b (rv i) := same_t L5.sm Sb
    by_cases hq2 : q < (rv i).length
    · refine .inr ⟨⟨rv i, (rv i)[q], Sb5, by simp [hq2]⟩, fun H6 => LcG R H D ((List.range i).flatMap G ++ (((rv i).take (q + 1)).filter (p i)).map (key i)) H6, fun H6 L6 => ⟨(rv i).length - (q + 1), by omega, rfl, hq2, L6⟩, fun v H6 y6 => ?_⟩
      obtain ⟨rfl, y6⟩ := y6
      have hv6 := y6 (rv i) Sb5
      have hm := List.mem_of_getElem? hv6
      have sn : (((rv i).take (q + 1)).filter (p i)).map (key i) = (((rv i).take q).filter (p i)).map (key i) ++ (if p i v = true then [key i v] else []) := by
        rw [take_snoc hv6, List.filter_append, List.map_append]
        cases hp : p i v <;> simp [hp]
      refine ⟨hw1 i _ _, ?_⟩
      refine ht i _ v hx hm _ L5.sm _ ?_
      cases hp : p i v
      · rw [if_neg Bool.false_ne_true]
        rw [hp, if_neg Bool.false_ne_true, List.append_nil] at sn
        show LcG R H D (_ ++ (((rv i).take (q + 1)).filter (p i)).map (key i)) _
        rw [sn]
        exact L5
      · rw [if_pos rfl]
        rw [hp, if_pos rfl] at sn
        refine he i _ v hx hm hp _ L5.sm _ fun y H8 e8 r8 => ?_
        have L8 := L5.keep mo e8
        obtain ⟨acc, c1, c2, c3⟩ := L8.push mo r8 (Nat.lt_of_le_of_lt (pre q (Nat.le_of_lt hq2)) hz)
        refine ⟨acc, c1, c2, ?_⟩
        show LcG R H D (_ ++ (((rv i).take (q + 1)).filter (p i)).map (key i)) _
        rw [sn, ← List.append_assoc]
        exact c3
    · have e : q = (rv i).length := by omega
      subst e
      refine .inl ⟨⟨rv i, Sb5, Nat.le_refl _⟩, ?_⟩
      rw [tk]
      rw [List.take_length] at L5
      exact L5
  · have e : i = xs.length := by omega
    subst e
    exact .inl ⟨⟨xs, S', Nat.le_refl _⟩, hq D H' L⟩
end
/-! ### fields -/
section
variable {K : PySem.W.Frag} {σ : L2.St} {H : Hp} {Q : VK} {ta tv : TE} {f : Str} {nx bk ct : L2.St → Hp → Prop} {rt : VK} {a C dx : Addr} {fs : List (Str × V)} {v y : V} {N : Hp → Prop}
theorem w_sFld (h : tv σ H fun y H1 => ta σ H1 fun x H2 => ∃ a C dx fs, x = .ref a ∧ H2 a = some (.ins C dx fs) ∧ Cls K C ∧ NoAttr K C f ∧ fs.length < 1000 ∧ nx σ (upd H2 a (.ins C dx (putF f y fs)))) : sFld K ta tv f ⟨nx, rt, bk, ct⟩ σ H := h
theorem w_fldR (h : ta σ H fun x H1 => ∃ a C dx fs v, x = .ref a ∧ H1 a = some (.ins C dx fs) ∧ Cls K C ∧ NoAttr K C f ∧ fs.lookup f = some v ∧ Q v H1) : tFld K ta f σ H Q := h
/-- the field is stored -/
theorem fld_put (e : H a = some (.ins C dx fs)) (c : Cls K C) (n : NoAttr K C f) (z : fs.length < 1000) (q : N (upd H a (.ins C dx (putF f y fs)))) : ∃ b C dx fs, V.ref a = .ref b ∧ H b = some (.ins C dx fs) ∧ Cls K C ∧ NoAttr K C f ∧ fs.length < 1000 ∧ N (upd H b (.ins C dx (putF f y fs))) := ⟨a, C, dx, fs, rfl, e, c, n, z, q⟩
/-- the field is read -/
theorem fld_get (e : H a = some (.ins C dx fs)) (c : Cls K C) (n : NoAttr K C f) (l : fs.lookup f = some v) (q : Q v H) : ∃ b C dx fs v, V.ref a = .ref b ∧ H b = some (.ins C dx fs) ∧ Cls K C ∧ NoAttr K C f ∧ fs.lookup f = some v ∧ Q v H := ⟨a, C, dx, fs, v, rfl, e, c, n, l, q⟩
end
section
variable {K : PySem.W.Frag} {H : Hp} {Q : VK} {a x C dx p : Addr} {fs : List (Str × V)} {xs : List V} {o : HO}
/-- tuple(x), x a list or a tuple -/
theorem seq_tuple (S : SqL K H a xs ∨ SqT K H a xs) (h : ∀ p H', Same H H' → SqT K H' p xs → Q (.ref p) H') : aTuple K [.ref a] H Q := by
  refine ⟨a, xs, rfl, ?_⟩
  rcases S with S | S
  · exact .inl ⟨S, fun l nl => h l _ (Same.newT nl) (.inl (.inl upd_same))⟩
  · exact .inr ⟨S, h a H (Same.refl H) S⟩
theorem ins_tup {ys : List V} (hx : H x = some (.ins C dx fs)) (h : H p = some (.tup ys)) : upd H x o p = some (.tup ys) := by
  rw [upd_ne ?_]
  · exact h
  · rintro rfl
    rw [hx] at h
    cases h
theorem ins_sqT (hx : H x = some (.ins C dx fs)) (h : SqT K H p xs) : SqT K (upd H x o) p xs := by
  rcases h with (h | ⟨u, h⟩) | h
  · exact .inl (.inl (ins_tup hx h))
  · refine .inl (.inr ⟨u, ?_⟩)
    rw [upd_ne ?_]
    · exact h
    · rintro rfl
      rw [hx] at h
      cases h
  · exact .inr h
end
theorem putF_len (f : Str) (v : V) : ∀ fs : List (Str × V), (putF f v fs).length ≤ fs.length + 1
  | [] => Nat.le_refl _
  | (g, x) :: r => by
    show (if g = f then (g, v) :: r else (g, x) :: putF f v r).length ≤ _
    have := putF_len f v r
    split
    · show r.length + 1 ≤ r.length + 1 + 1
      omega
    · show (putF f v r).length + 1 ≤ r.length + 1 + 1
      omega
theorem putF_lt {f : Str} {v : V} {fs : List (Str × V)} {n : Nat} (h : fs.length < n) : (putF f v fs).length < n + 1 := Nat.lt_of_le_of_lt (putF_len f v fs) (Nat.succ_lt_succ h)
theorem ins_sqL {K : PySem.W.Frag} {H : Hp} {x C dx p : Addr} {fs : List (Str × V)} {xs : List V} {o : HO} (hx : H x = some (.ins C dx fs)) (h : SqL K H p xs) : SqL K (upd H x o) p xs := by
  have go : ∀ {u : HO}, H p = some u → (∀ C dx fs, u ≠ .ins C dx fs) → upd H x o p = some u := fun {u} h hn => by
    rw [upd_ne ?_]
    · exact h
    · rintro rfl
      rw [hx] at h
      exact hn _ _ _ (Option.some.inj h).symm
  rcases h with (h | ⟨u, h⟩) | h
  · exact .inl (.inl (go h fun _ _ _ z => by cases z))
  · exact .inl (.inr ⟨u, go h fun _ _ _ z => by cases z⟩)
  · exact .inr h
theorem ins_sq {K : PySem.W.Frag} {H : Hp} {x C dx p : Addr} {fs : List (Str × V)} {xs : List V} {o : HO} (hx : H x = some (.ins C dx fs)) (h : SqL K H p xs ∨ SqT K H p xs) : SqL K (upd H x o) p xs ∨ SqT K (upd H x o) p xs :=
  h.elim (fun h => .inl (ins_sqL hx h)) fun h => .inr (ins_sqT hx h)
theorem paired_get2 {α γ : Type} {F : α → γ → Prop} : ∀ {l1 : List α} {l2 : List γ} {i : Nat} {y : γ}, Paired F l1 l2 → l2[i]? = some y → ∃ x, l1[i]? = some x ∧ F x y
  | _, _, 0, y, .cons h t, e => by
    cases (Option.some.inj e)
    exact ⟨_, rfl, h⟩
  | _, _, i + 1, y, .cons h t, e => paired_get2 (i := i) t e
end NL
set_option maxRecDepth 100000
set_option maxHeartbeats 2000000
set_option pp.maxSteps 600
namespace K04
open PySem L2 NL
def top (i : Nat) : Stmt := PySem.Challenge.pw_handalong_k04_networks_kept_and_refused.main.body.getD i (.Pass ⟨0, 0, 0, 0⟩)
abbrev s__wall : Stmt := top 0
abbrev s_is_integer : Stmt := top 6
abbrev s_is_number : Stmt := top 7
abbrev s_is_sequence : Stmt := top 8
abbrev s_is_index : Stmt := top 9
abbrev s_check_modes : Stmt := top 13
abbrev s_is_link : Stmt := top 14
abbrev s_made_rows : Stmt := top 15
abbrev s__law_draw : Stmt := top 18
abbrev s__law_any : Stmt := top 19
abbrev s__law_of : Stmt := top 20
abbrev s__law_links : Stmt := top 21
abbrev s__law_network : Stmt := top 22
abbrev s__law_mixed : Stmt := top 23
abbrev s__law_refused : Stmt := top 24
abbrev s__law_modes_refused : Stmt := top 25
abbrev s__law_links_refused : Stmt := top 26
abbrev s__law_fifth_right : Stmt := top 27
abbrev s_law : Stmt := top 28
abbrev s_Network___init__ : Stmt := inClass (top 16) 0
abbrev s_Network___eq__ : Stmt := inClass (top 16) 1
abbrev s_Network_neighbours : Stmt := inClass (top 16) 2
abbrev s_Network_view : Stmt := inClass (top 16) 3
abbrev s_Network_site_views : Stmt := inClass (top 16) 4
theorem sc__wall : FnScope ["k"] ["k"] (defScope s__wall) :=
  ⟨rfl, rfl, rfl, by decide +kernel, rfl, by decide +kernel, by decide +kernel⟩
theorem sc_is_integer : FnScope ["value"] ["value"] (defScope s_is_integer) :=
  ⟨rfl, rfl, rfl, by decide +kernel, rfl, by decide +kernel, by decide +kernel⟩
theorem sc_is_number : FnScope ["value"] ["value"] (defScope s_is_number) :=
  ⟨rfl, rfl, rfl, by decide +kernel, rfl, by decide +kernel, by decide +kernel⟩
theorem sc_is_sequence : FnScope ["value"] ["value"] (defScope s_is_sequence) :=
  ⟨rfl, rfl, rfl, by decide +kernel, rfl, by decide +kernel, by decide +kernel⟩
theorem sc_is_index : FnScope ["value", "many"] ["value", "many"] (defScope s_is_index) :=
  ⟨rfl, rfl, rfl, by decide +kernel, rfl, by decide +kernel, by decide +kernel⟩
theorem sc_check_modes : FnScope ["modes", "at", "mode"] ["modes"] (defScope s_check_modes) :=
  ⟨rfl, rfl, rfl, by decide +kernel, rfl, by decide +kernel, by decide +kernel⟩
theorem sc_is_link : FnScope ["value", "many", "site"] ["value", "many"] (defScope s_is_link) :=
  ⟨rfl, rfl, rfl, by decide +kernel, rfl, by decide +kernel, by decide +kernel⟩
theorem sc_made_rows : FnScope ["many", "links", "rows", "site", "at", "link", "one", "other", "row"] ["many", "links"] (defScope s_made_rows) :=
  ⟨rfl, rfl, rfl, by decide +kernel, rfl, by decide +kernel, by decide +kernel⟩
theorem sc__law_draw : FnScope ["_law_script", "_law_salt", "_law_cells", "_law_cell", "_law_blend"] ["_law_script", "_law_salt"] (defScope s__law_draw) :=
  ⟨rfl, rfl, rfl, by decide +kernel, rfl, by decide +kernel, by decide +kernel⟩
theorem sc__law_any : FnScope ["_law_deal", "_law_bound", "_law_rest"] ["_law_deal", "_law_bound"] (defScope s__law_any) :=
  ⟨rfl, rfl, rfl, by decide +kernel, rfl, by decide +kernel, by decide +kernel⟩
theorem sc__law_of : FnScope ["_law_deal", "_law_some"] ["_law_deal", "_law_some"] (defScope s__law_of) :=
  ⟨rfl, rfl, rfl, by decide +kernel, rfl, by decide +kernel, by decide +kernel⟩
theorem sc__law_links : FnScope ["_law_deal", "_law_many", "_law_form", "_law_links_here", "_law_most", "_law_steps", "_law_one", "_law_step", "_law_other", "_law_met", "_law_link", "_law_site"] ["_law_deal", "_law_many"] (defScope s__law_links) :=
  ⟨rfl, rfl, rfl, by decide +kernel, rfl, by decide +kernel, by decide +kernel⟩
theorem sc__law_network : FnScope ["_law_deal", "_law_kinds", "_law_many", "_law_start", "_law_turn", "_law_modes", "_law_at"] ["_law_deal", "_law_kinds", "_law_many"] (defScope s__law_network) :=
  ⟨rfl, rfl, rfl, by decide +kernel, rfl, by decide +kernel, by decide +kernel⟩
theorem sc__law_mixed : FnScope ["_law_deal", "_law_some", "_law_left", "_law_found"] ["_law_deal", "_law_some"] (defScope s__law_mixed) :=
  ⟨rfl, rfl, rfl, by decide +kernel, rfl, by decide +kernel, by decide +kernel⟩
theorem sc__law_refused : FnScope ["_law_work", "e"] ["_law_work"] (defScope s__law_refused) :=
  ⟨rfl, rfl, rfl, by decide +kernel, rfl, by decide +kernel, by decide +kernel⟩
theorem sc__law_modes_refused : FnScope ["_law_deal", "_law_modes", "_law_links_here", "_law_at", "_law_bad", "_law_wrong"] ["_law_deal", "_law_modes", "_law_links_here"] (defScope s__law_modes_refused) :=
  ⟨rfl, rfl, rfl, by decide +kernel, rfl, by decide +kernel, by decide +kernel⟩
theorem sc__law_links_refused : FnScope ["_law_deal", "_law_modes", "_law_links_here", "_law_many", "_law_at", "_law_site", "_law_some", "_law_one", "_law_other", "_law_wrong"] ["_law_deal", "_law_modes", "_law_links_here"] (defScope s__law_links_refused) :=
  ⟨rfl, rfl, rfl, by decide +kernel, rfl, by decide +kernel, by decide +kernel⟩
theorem sc__law_fifth_right : FnScope ["_law_deal", "_law_order", "_law_modes", "_law_turn", "_law_hub", "_law_links_here", "_law_other", "_law_four", "_law_spot", "_law_more"] ["_law_deal"] (defScope s__law_fifth_right) :=
  ⟨rfl, rfl, rfl, by decide +kernel, rfl, by decide +kernel, by decide +kernel⟩
theorem sc_law : FnScope ["_law_script", "_law_deal", "_law_turn", "_law_modes", "_law_links_here", "_law_handed", "_law_one", "_law_other", "_law_row", "_law_net", "_law_told"] ["_law_script"] (defScope s_law) :=
  ⟨rfl, rfl, rfl, by decide +kernel, rfl, by decide +kernel, by decide +kernel⟩
theorem sc_Network___init__ : FnScope ["self", "modes", "links", "site", "row", "other"] ["self", "modes", "links"] (defScope s_Network___init__) :=
  ⟨rfl, rfl, rfl, by decide +kernel, rfl, by decide +kernel, by decide +kernel⟩
theorem sc_Network___eq__ : FnScope ["self", "other"] ["self", "other"] (defScope s_Network___eq__) :=
  ⟨rfl, rfl, rfl, by decide +kernel, rfl, by decide +kernel, by decide +kernel⟩
theorem sc_Network_neighbours : FnScope ["self", "at"] ["self", "at"] (defScope s_Network_neighbours) :=
  ⟨rfl, rfl, rfl, by decide +kernel, rfl, by decide +kernel, by decide +kernel⟩
theorem sc_Network_view : FnScope ["self", "at"] ["self", "at"] (defScope s_Network_view) :=
  ⟨rfl, rfl, rfl, by decide +kernel, rfl, by decide +kernel, by decide +kernel⟩
theorem sc_Network_site_views : FnScope ["self"] ["self"] (defScope s_Network_site_views) :=
  ⟨rfl, rfl, rfl, by decide +kernel, rfl, by decide +kernel, by decide +kernel⟩
abbrev si_InvalidNetwork : Stmt := inClass (top 3) 0
abbrev si_InvalidQuestion : Stmt := inClass (top 4) 0
structure Ad where
  NetError : Addr
  InvalidNetwork : Addr
  InvalidQuestion : Addr
  Network : Addr
structure Txt (P : Program) (K : PySem.W.Frag) (mg : Str → Option Value) (AA : Ad) : Prop where
  n_abs : mg "abs" = none
  n_all : mg "all" = none
  n_bool : mg "bool" = none
  n_enumerate : mg "enumerate" = none
  n_int : mg "int" = none
  n_isinstance : mg "isinstance" = none
  n_len : mg "len" = none
  n_list : mg "list" = none
  n_max : mg "max" = none
  n_min : mg "min" = none
  n_range : mg "range" = none
  n_repr : mg "repr" = none
  n_sorted : mg "sorted" = none
  n_tuple : mg "tuple" = none
  k_MOST_MODES : ∃ t, mg "MOST_MODES" = some (.int 4 t)
  k_MOST_NEIGHBOURS : ∃ t, mg "MOST_NEIGHBOURS" = some (.int 4 t)
  c_NetError : mg "NetError" = some (.ref AA.NetError)
  c_InvalidNetwork : mg "InvalidNetwork" = some (.ref AA.InvalidNetwork)
  c_InvalidQuestion : mg "InvalidQuestion" = some (.ref AA.InvalidQuestion)
  c_Network : mg "Network" = some (.ref AA.Network)
  x_InvalidNetwork : ErrK P K mg "InvalidNetwork" AA.InvalidNetwork
  x_InvalidQuestion : ErrK P K mg "InvalidQuestion" AA.InvalidQuestion
  K_Network : ClsK K mg "Network" AA.Network
  m_Network___init__ : MDef K AA.Network "__init__" "Network.__init__" s_Network___init__ ["self", "modes", "links"]
  m_Network___eq__ : MDef K AA.Network "__eq__" "Network.__eq__" s_Network___eq__ ["self", "other"]
  m_Network_neighbours : MDef K AA.Network "neighbours" "Network.neighbours" s_Network_neighbours ["self", "at"]
  m_Network_view : MDef K AA.Network "view" "Network.view" s_Network_view ["self", "at"]
  m_Network_site_views : MDef K AA.Network "site_views" "Network.site_views" s_Network_site_views ["self"]
  a_Network_rows : NoAttr K AA.Network "rows"
  a_Network_modes : NoAttr K AA.Network "modes"
  a_Network_links : NoAttr K AA.Network "links"
  d__wall : Def K mg "_wall" s__wall ["k"]
  d_is_integer : Def K mg "is_integer" s_is_integer ["value"]
  d_is_number : Def K mg "is_number" s_is_number ["value"]
  d_is_sequence : Def K mg "is_sequence" s_is_sequence ["value"]
  d_is_index : Def K mg "is_index" s_is_index ["value", "many"]
  d_check_modes : Def K mg "check_modes" s_check_modes ["modes"]
  d_is_link : Def K mg "is_link" s_is_link ["value", "many"]
  d_made_rows : Def K mg "made_rows" s_made_rows ["many", "links"]
  d__law_draw : Def K mg "_law_draw" s__law_draw ["_law_script", "_law_salt"]
  d__law_any : Def K mg "_law_any" s__law_any ["_law_deal", "_law_bound"]
  d__law_of : Def K mg "_law_of" s__law_of ["_law_deal", "_law_some"]
  d__law_links : Def K mg "_law_links" s__law_links ["_law_deal", "_law_many"]
  d__law_network : Def K mg "_law_network" s__law_network ["_law_deal", "_law_kinds", "_law_many"]
  d__law_mixed : Def K mg "_law_mixed" s__law_mixed ["_law_deal", "_law_some"]
  d__law_refused : Def K mg "_law_refused" s__law_refused ["_law_work"]
  d__law_modes_refused : Def K mg "_law_modes_refused" s__law_modes_refused ["_law_deal", "_law_modes", "_law_links_here"]
  d__law_links_refused : Def K mg "_law_links_refused" s__law_links_refused ["_law_deal", "_law_modes", "_law_links_here"]
  d__law_fifth_right : Def K mg "_law_fifth_right" s__law_fifth_right ["_law_deal"]
local macro_rules | `(tactic| walk_at "s1") => `(tactic| with_reducible first
  | refine w_seq ?_ | refine w_asg ?_ | refine w_drop ?_ | refine w_ret ?_ | refine w_next ?_ | refine w_ifS ?_
  | refine w_c ?_ | refine w_op ?_ | refine w_un ?_ | refine w_test ?_ | refine w_B ?_ | refine w_bl ?_ | refine w_not ?_ | refine w_and ?_ | refine w_or ?_
  | refine w_andV ?_ | refine w_orV ?_ | refine w_notV ?_ | refine w_blP ?_ | refine w_if ?_ | refine w_nil ?_ | refine w_cons ?_ | refine w_call ?_ | refine w_callS ?_ | refine w_callW ?_
  | refine w_cb ?_ | refine w_tup ?_ | refine w_lst ?_ | refine w_par ?_ | refine w_two ?_ | refine w_addI ?_ | refine w_I0 ?_ | refine w_neg ?_ | refine w_eqI ?_ | refine w_neI ?_
  | refine w_absI ?_ | refine w_intI ?_ | refine w_sub ?_ | refine w_bm0 ?_ | refine w_bm ?_ | refine w_iteT ?_ | refine w_iteF ?_ | refine w_iteNF ?_ | refine w_iteNT ?_ | refine w_lcT ?_ | refine w_lcL ?_
  | refine w_ref ?_ | refine w_sl ?_ | refine w_npart ?_ | refine w_part ?_ | refine w_iv ?_ | refine w_rev ?_ | refine w_forL ?_ | refine w_forT ?_ | refine w_forR1 ?_ | refine w_one ?_ | refine w_g ?_
  | refine w_asgT ?_ | refine w_gcons ?_ | refine w_gnil ?_ | refine w_lcR1 ?_ | refine w_sFld ?_ | refine w_fldR ?_ | refine w_forEL ?_ | refine w_forET ?_ | refine w_lc2E ?_
  | refine w_var (by with_unfolding_all rfl) ?_)
local macro_rules | `(tactic| walk_at "s") => `(tactic| repeat (walk_at "s1"))

/-! ### plain: is_integer, is_number, is_sequence, is_index -/
section
variable {P : Program} {w : World} {K : PySem.W.Frag} {mg : Str → Option Value} {base : Heap} {AA : Ad}
def spD1 (K : PySem.W.Frag) (f : PyData → Bool) : Sp := fun vs H Q _ => ∃ (x : V) (d : PyData), vs = [x] ∧ Dv K H x d ∧ ∀ H', Same H H' → Q (.bl (f d)) H'
def spD2 (K : PySem.W.Frag) (f : Int → PyData → Bool) : Sp := fun vs H Q _ => ∃ (x : V) (d : PyData) (n : Int), vs = [x, .int n] ∧ Dv K H x d ∧ ∀ H', Same H H' → Q (.bl (f n d)) H'
theorem ok_is_integer (T : Txt P K mg AA) : Kept P w K mg base CX0 1 "is_integer" s_is_integer ["value"] (spD1 K intD) := by
  refine keep0 T.d_is_integer sc_is_integer (fun vs H Q E h => ?_) (fun f cdv A outer s H vs Q E hr h => ?_)
  · obtain ⟨x, d, rfl, _⟩ := h
    rfl
  · obtain ⟨x, d, rfl, h, q⟩ := h
    have q := q H (Same.refl H)
    refine ⟨_, (pss_one (ps_ret (pe_and (pe_callB cIsi (by rfl) T.n_isinstance (by decide +kernel) (pa_cons (pv 0) (pa_cons (pe_bltn (v := .ty "int") (u := .type "int") (by rfl) T.n_int (by decide +kernel) rfl) pa_nil))) (pe_one (pe_not (pe_callB cIsi (by rfl) T.n_isinstance (by decide +kernel) (pa_cons (pv 0) (pa_cons (pe_bltn (v := .ty "bool") (u := .type "bool") (by rfl) T.n_bool (by decide +kernel) rfl) pa_nil)))))))), ?_⟩
    walk_at "s"
    rw [int_of] at q
    refine w_isD h (kd_int d) ?_
    generalize (intD d || boolD d) = b1 at q ⊢
    cases b1
    · walk_at "s"
      exact q
    · walk_at "s"
      refine w_isD h (kd_bool d) ?_
      walk_at "s"
      exact q
theorem ok_is_number (T : Txt P K mg AA) : Kept P w K mg base CX0 2 "is_number" s_is_number ["value"] (spD1 K numD) := by
  have O_is_integer := ok_is_integer (w := w) (base := base) T
  refine keep0 T.d_is_number sc_is_number (fun vs H Q E h => ?_) (fun f cdv A outer s H vs Q E hr h => ?_)
  · obtain ⟨x, d, rfl, _⟩ := h
    rfl
  · obtain ⟨x, d, rfl, h, q⟩ := h
    refine ⟨_, (pss_one (ps_ret (pe_and (pk_call O_is_integer (hr.mono (by decide)) (pa_cons (pv 0) pa_nil)) (pe_one (pe_cmpR op_ge (pv 0) pe_int (nomark _)))))), ?_⟩
    walk_at "s"
    refine ⟨x, d, rfl, h, fun H' e => ?_⟩
    have q := q H' e
    walk_at "s"
    cases d with
    | int i =>
      obtain rfl := dp_inv_int h
      refine w_iteE rfl ?_
      walk_at "s"
      exact q
    | _ =>
      refine w_iteX rfl ?_
      exact q
theorem ok_is_index (T : Txt P K mg AA) : Kept P w K mg base CX0 3 "is_index" s_is_index ["value", "many"] (spD2 K ixD) := by
  have O_is_number := ok_is_number (w := w) (base := base) T
  refine keep0 T.d_is_index sc_is_index (fun vs H Q E h => ?_) (fun f cdv A outer s H vs Q E hr h => ?_)
  · obtain ⟨x, d, n, rfl, _⟩ := h
    rfl
  · obtain ⟨x, d, n, rfl, h, q⟩ := h
    refine ⟨_, (pss_one (ps_ret (pe_and (pk_call O_is_number (hr.mono (by decide)) (pa_cons (pv 0) pa_nil)) (pe_one (pe_cmpR op_lt (pv 0) (pv 1) (nomark _)))))), ?_⟩
    walk_at "s"
    refine ⟨x, d, rfl, h, fun H' e => ?_⟩
    have q := q H' e
    walk_at "s"
    cases d with
    | int i =>
      obtain rfl := dp_inv_int h
      show if decide (0 ≤ i) = true then _ else _
      refine w_iteD (fun h0 => ?_) (fun h0 => ?_)
      · walk_at "s"
        rw [show ixD n (.int i) = decide (i < n) by
          show (decide (0 ≤ i) && decide (i < n)) = _
          rw [decide_eq_true h0, Bool.true_and]] at q
        exact q
      · walk_at "s"
        rw [show ixD n (.int i) = false by
          show (decide (0 ≤ i) && decide (i < n)) = _
          rw [decide_eq_false h0, Bool.false_and]] at q
        exact q
    | _ =>
      refine w_iteX rfl ?_
      exact q
theorem ok_is_sequence (T : Txt P K mg AA) : Kept P w K mg base CX0 1 "is_sequence" s_is_sequence ["value"] (spD1 K seqD) := by
  refine keep0 T.d_is_sequence sc_is_sequence (fun vs H Q E h => ?_) (fun f cdv A outer s H vs Q E hr h => ?_)
  · obtain ⟨x, d, rfl, _⟩ := h
    rfl
  · obtain ⟨x, d, rfl, h, q⟩ := h
    refine ⟨_, (pss_one (ps_ret (pe_callB cIsi (by rfl) T.n_isinstance (by decide +kernel) (pa_cons (pv 0) (pa_cons (pe_tup (pa_cons (pe_bltn (v := .ty "list") (u := .type "list") (by rfl) T.n_list (by decide +kernel) rfl) (pa_cons (pe_bltn (v := .ty "tuple") (u := .type "tuple") (by rfl) T.n_tuple (by decide +kernel) rfl) pa_nil))) pa_nil))))), ?_⟩
    walk_at "s"
    refine ⟨show 2 ≤ sizeLine by decide +kernel, fun p np => ?_⟩
    walk_at "s"
    refine w_isSeq (h.same (Same.newT np)) upd_same ?_
    exact q _ (Same.newT np)
end

end K04
set_option maxRecDepth 100000
set_option maxHeartbeats 2000000
set_option pp.maxSteps 300
namespace K04
open PySem L2 NL
local macro_rules | `(tactic| walk_at "s1") => `(tactic| with_reducible first
  | refine w_seq ?_ | refine w_asg ?_ | refine w_drop ?_ | refine w_ret ?_ | refine w_next ?_ | refine w_ifS ?_
  | refine w_c ?_ | refine w_op ?_ | refine w_un ?_ | refine w_test ?_ | refine w_B ?_ | refine w_bl ?_ | refine w_not ?_ | refine w_and ?_ | refine w_or ?_
  | refine w_andV ?_ | refine w_orV ?_ | refine w_notV ?_ | refine w_blP ?_ | refine w_if ?_ | refine w_nil ?_ | refine w_cons ?_ | refine w_call ?_ | refine w_callS ?_ | refine w_callW ?_
  | refine w_cb ?_ | refine w_tup ?_ | refine w_lst ?_ | refine w_par ?_ | refine w_two ?_ | refine w_addI ?_ | refine w_I0 ?_ | refine w_neg ?_ | refine w_eqI ?_ | refine w_neI ?_
  | refine w_absI ?_ | refine w_intI ?_ | refine w_sub ?_ | refine w_bm0 ?_ | refine w_bm ?_ | refine w_iteT ?_ | refine w_iteF ?_ | refine w_iteNF ?_ | refine w_iteNT ?_ | refine w_lcT ?_ | refine w_lcL ?_
  | refine w_ref ?_ | refine w_sl ?_ | refine w_npart ?_ | refine w_part ?_ | refine w_iv ?_ | refine w_rev ?_ | refine w_forL ?_ | refine w_forT ?_ | refine w_forR1 ?_ | refine w_one ?_ | refine w_g ?_
  | refine w_asgT ?_ | refine w_gcons ?_ | refine w_gnil ?_ | refine w_lcR1 ?_ | refine w_sFld ?_ | refine w_fldR ?_ | refine w_forEL ?_ | refine w_forET ?_ | refine w_lc2E ?_
  | refine w_var (by with_unfolding_all rfl) ?_)
local macro_rules | `(tactic| walk_at "s") => `(tactic| repeat (walk_at "s1"))

/-! ### networks: check_modes, is_link -/
/-- the first place at which a value is no row of modes -/
def modesBad (d : PyData) : Option Nat := if seqD d = true ∧ elemsD d ≠ [] then (elemsD d).findIdx? fun x => !ixD 4 x else some 0
def pairD (n : Int) : List PyData → Bool
  | [a, b] => ixD n a && ixD n b && !PyData.eqv a b
  | _ => false
def linkD (n : Int) (d : PyData) : Bool := seqD d && pairD n (elemsD d)
theorem pairD_len {n : Int} {ds : List PyData} (h : ds.length ≠ 2) : pairD n ds = false := by
  match ds, h with
  | [], _ => rfl
  | [_], _ => rfl
  | [_, _], h => exact absurd rfl h
  | _ :: _ :: _ :: _, _ => rfl
theorem find_none {α : Type} {p : α → Bool} : ∀ {l : List α}, l.findIdx? p = none → ∀ x ∈ l, p x = false := fun h x hx => by
  rw [List.findIdx?_eq_none_iff] at h
  exact h x hx
section
variable {P : Program} {w : World} {K : PySem.W.Frag} {mg : Str → Option Value} {base : Heap} {AA : Ad}
def spCheckModes (K : PySem.W.Frag) (C : Addr) : Sp := fun vs H Q E => ∃ (x : V) (d : PyData), vs = [x] ∧ Dv K H x d ∧
  match modesBad d with
  | some i => ∀ dd H', Same H H' → H' dd = none → E (.ref C) (some dd) (upd H' dd (.xd [("at", .int i)]))
  | none => ∀ H', Same H H' → Q .non H'
theorem ok_check_modes (T : Txt P K mg AA) : Kept P w K mg base (L2.CX P w) 5 "check_modes" s_check_modes ["modes"] (spCheckModes K AA.InvalidNetwork) := by
  have O_is_sequence := ok_is_sequence (w := w) (base := base) T
  have O_is_index := ok_is_index (w := w) (base := base) T
  refine keepX T.d_check_modes sc_check_modes (fun vs H Q E h => ?_) (fun f cdv A outer s H vs Q E hr h => ?_)
  · obtain ⟨x, d, rfl, _⟩ := h
    rfl
  · obtain ⟨x, d, rfl, hx, q⟩ := h
    refine ⟨_, (pss_cons (ps_if (PW.pt (pw_or (pt_not (pt_val (pk_call O_is_sequence (hr.mono (by decide)) (pa_cons (pv 0) pa_nil)))) (pw_or1 (pt_cmpR (oEq (ru64 hr)) (pe_callB cLen (by rfl) T.n_len PySem.boot_len (pa_cons (pv 0) pa_nil)) pe_int (nomark _)))))
        (pss_one (ps_raise rfl (takes_of rfl rfl rfl rfl) (pmk_err T.x_InvalidNetwork (hr.mono (by decide)) (pa_cons pe_int pa_nil)))) pss_nil)
      (pss_one (ps_for (passes_of rfl) rfl (pi_or (pi_enum (by rfl) T.n_enumerate (pa_cons (pv 0) pa_nil)) (pi_enumT (by rfl) T.n_enumerate (pa_cons (pv 0) pa_nil))) (pg_tup rfl (pgs_cons (pg_name (i := 1) sc_check_modes.nd rfl (by first | exact Or.inl rfl | exact Or.inr rfl)) (pgs_cons (pg_name (i := 2) sc_check_modes.nd rfl (by first | exact Or.inl rfl | exact Or.inr rfl)) pgs_nil)))
        (pss_one (ps_if (pt_not (pt_val (pk_call O_is_index (hr.mono (by decide)) (pa_cons (pv 2) (pa_cons (pe_glob (v := .int 4) rfl T.k_MOST_MODES.choose_spec ⟨_, rfl⟩) pa_nil)))))
        (pss_one (ps_raise rfl (takes_of rfl rfl rfl rfl) (pmk_err T.x_InvalidNetwork (hr.mono (by decide)) (pa_cons (pv 1) pa_nil)))) pss_nil))))), ?_⟩
    walk_at "s"
    refine ⟨x, d, rfl, hx, fun H1 e1 => ?_⟩
    walk_at "s"
    cases hq : seqD d
    · rw [show modesBad d = some 0 by unfold modesBad; rw [hq, if_neg (by simp)]] at q
      walk_at "s"
      exact ⟨_, rfl, fun dd nd => q dd H1 e1 nd⟩
    obtain ⟨a, xs, ds, rfl, S, A1, hd⟩ := dp_seq (hx.same e1) hq
    have el : elemsD d = ds := by rcases hd with rfl | rfl <;> rfl
    walk_at "s"
    refine seq_len S ?_
    walk_at "s"
    refine w_iteD (fun h0 => ?_) (fun h0 => ?_)
    · have h0 : ds = [] := by
        rw [DpAll.len A1] at h0
        exact List.eq_nil_of_length_eq_zero (by omega)
      rw [show modesBad d = some 0 by unfold modesBad; rw [el, if_neg (fun z => z.2 h0)]] at q
      walk_at "s"
      exact ⟨_, rfl, fun dd nd => q dd H1 e1 nd⟩
    have hne : ds ≠ [] := fun z => h0 (by rw [DpAll.len A1, z]; rfl)
    rw [show modesBad d = ds.findIdx? (fun x => !ixD 4 x) by unfold modesBad; rw [el, if_pos ⟨hq, hne⟩]] at q
    walk_at "s"
    refine w_forE (a := a) (xs := xs) rfl S (fun i σ H' => Same H1 H' ∧ (ds.take i).all (ixD 4) = true ∧ ∃ v1 v2 : Option V, σ = [some (.ref a), v1, v2]) ⟨Same.refl _, rfl, _, _, rfl⟩ (fun i σ H' _ p => p.1) ?_ ?_
    · rintro i y T1 σ H2 hy ⟨e2, al, v1, v2, rfl⟩ nT
      obtain ⟨dy, hdy, Ay⟩ := DpAll.get A1 hy
      have e3 := Same.trans e2 (Same.newT (o := .tup [.int (i : Nat), y]) nT)
      refine w_gtup (.inl (.inl upd_same)) rfl ?_
      generalize upd H2 T1 (.tup [.int (i : Nat), y]) = H3 at e3
      walk_at "s"
      refine ⟨y, dy, 4, rfl, .dp (Dp.same Ay e3), fun H4 e4 => ?_⟩
      have e4 := Same.trans e3 e4
      have lt := (List.getElem?_eq_some_iff.mp hdy).1
      have ty : ds.take (i + 1) = ds.take i ++ [dy] := take_snoc hdy
      walk_at "s"
      cases hb : ixD 4 dy
      · have hf : ds.findIdx? (fun x => !ixD 4 x) = some i := by
          rw [List.findIdx?_eq_some_iff_getElem]
          have hg := (List.getElem?_eq_some_iff.mp hdy).2
          refine ⟨lt, by rw [hg, hb]; rfl, fun j hj => ?_⟩
          have := List.all_eq_true.mp al ds[j] (List.mem_take_iff_getElem.mpr ⟨j, by omega, rfl⟩)
          rw [this]
          decide
        rw [hf] at q
        walk_at "s"
        exact ⟨_, rfl, _, rfl, fun dd nd => q dd H4 (Same.trans e1 e4) nd⟩
      · walk_at "s"
        exact ⟨e4, by rw [ty, List.all_append, al, List.all_cons, hb]; rfl, _, _, rfl⟩
    · rintro σ H2 ⟨e2, al, v1, v2, rfl⟩
      have hf : ds.findIdx? (fun x => !ixD 4 x) = none := by
        rw [List.findIdx?_eq_none_iff]
        intro x hx
        rw [DpAll.len A1, List.take_length] at al
        rw [List.all_eq_true.mp al x hx]
        rfl
      rw [hf] at q
      exact q H2 (Same.trans e1 e2)
/-- what is_link answers -/
theorem ok_is_link (T : Txt P K mg AA) : Kept P w K mg base CX0 4 "is_link" s_is_link ["value", "many"] (spD2 K linkD) := by
  have O_is_sequence := ok_is_sequence (w := w) (base := base) T
  have O_is_index := ok_is_index (w := w) (base := base) T
  refine keep0 T.d_is_link sc_is_link (fun vs H Q E h => ?_) (fun f cdv A outer s H vs Q E hr h => ?_)
  · obtain ⟨x, d, n, rfl, _⟩ := h
    rfl
  · obtain ⟨x, d, n, rfl, hx, q⟩ := h
    refine ⟨_, (pss_cons (ps_if (PW.pt (pw_or (pt_not (pt_val (pk_call O_is_sequence (hr.mono (by decide)) (pa_cons (pv 0) pa_nil)))) (pw_or (pt_cmpR (oNe (ru64 hr)) (pe_callB cLen (by rfl) T.n_len PySem.boot_len (pa_cons (pv 0) pa_nil)) pe_int (nomark _)) (pw_or1 (pt_not (pt_val (pe_callB (cr_all rfl) (by rfl) T.n_all (by decide +kernel) (pa_cons (pe_lc (own := [("site", 2)]) (g := gName 2) (tt := tYes) (by rfl) sc_is_link.nd (pi_or (pi_list (pv 0)) (pi_tup (pv 0))) (blkOk_by (own := [("site", 2)]) (N := ["value", "many", "site"]) (sc := defScope s_is_link) (by decide +kernel)) (fun _ _ _ _ _ => (pg_name (i := 2) sc_is_link.nd rfl (by first | exact Or.inl rfl | exact Or.inr rfl))) (fun _ _ _ _ _ => pts_nil) (fun _ _ _ _ _ => (pk_call O_is_index (hr.mono (by decide)) (pa_cons (pv 2) (pa_cons (pv 1) pa_nil))))) pa_nil))))))))
        (pss_one (ps_ret pe_bl)) pss_nil)
      (pss_one (ps_ret (pe_cmpR (oNe (ru64 hr)) (pe_ix ix_seq (pv 0) pe_int (fun _ _ => rfl)) (pe_ix ix_seq (pv 0) pe_int (fun _ _ => rfl)) (nomark _))))), ?_⟩
    walk_at "s"
    refine ⟨x, d, rfl, hx, fun H1 e1 => ?_⟩
    walk_at "s"
    cases hq : seqD d
    · walk_at "s"
      have q := q H1 e1
      unfold linkD at q
      rw [hq, Bool.false_and] at q
      exact q
    obtain ⟨a, xs, ds, rfl, S, A1, hd⟩ := dp_seq (hx.same e1) hq
    have el : elemsD d = ds := by rcases hd with rfl | rfl <;> rfl
    have q : ∀ H', Same H H' → Q (.bl (pairD n ds)) H' := fun H' e => by
      have q := q H' e
      unfold linkD at q
      rw [hq, Bool.true_and, el] at q
      exact q
    walk_at "s"
    refine seq_len S ?_
    walk_at "s"
    refine w_iteN (fun h2 => ?_) (fun h2 => ?_)
    · walk_at "s"
      have q := q H1 e1
      rw [DpAll.len A1] at h2
      rw [pairD_len (by omega)] at q
      exact q
    have hl : ds.length = 2 := by
      rw [← DpAll.len A1]
      omega
    obtain ⟨u, v, du, dv, rfl, rfl, hu, hv⟩ := dp_two A1 hl
    walk_at "s"
    refine w_lcSeq (fun x => .bl (ixV n x)) rfl S (lt_size (show 2 ≤ 1000000 by decide)) (fun _ => rfl) (fun x hx2 => ?_) (fun D H2 nD e2 eD => ?_)
    · intro H2 s2 Q1 q1
      walk_at "s"
      obtain ⟨d2, _, hd2⟩ := DpAll.mem A1 x hx2
      exact ⟨x, d2, n, rfl, .dp (Dp.same hd2 s2), fun H3 e3 => q1 _ _ e3 (by rw [ix_dv hd2])⟩
    have e12 := Same.trans e1 e2
    walk_at "s"
    refine ⟨D, [u, v].map (ixV n), rfl, .inl (.inl (by rw [List.map_map]; exact eD)), ?_⟩
    rw [all_map_id, all_ix A1]
    walk_at "s"
    have q := q H2 e12
    cases hx2 : [du, dv].all (ixD n)
    · walk_at "s"
      rw [show pairD n [du, dv] = false by
        show (ixD n du && ixD n dv && _) = false
        rw [show (ixD n du && ixD n dv) = false by rw [List.all_cons, List.all_cons, List.all_nil, Bool.and_true] at hx2; exact hx2, Bool.false_and]] at q
      exact q
    rw [List.all_cons, List.all_cons, List.all_nil, Bool.and_true] at hx2
    rw [show pairD n [du, dv] = !PyData.eqv du dv by
      show (ixD n du && ixD n dv && _) = _
      rw [hx2, Bool.true_and]] at q
    rw [Bool.and_eq_true] at hx2
    obtain ⟨i, rfl⟩ : ∃ i, du = .int i := by
      cases du with
      | int i => exact ⟨i, rfl⟩
      | _ => cases hx2.1
    obtain ⟨j, rfl⟩ : ∃ j, dv = .int j := by
      cases dv with
      | int i => exact ⟨i, rfl⟩
      | _ => cases hx2.2
    cases hu
    cases hv
    have S2 := sq_same S e2
    walk_at "s"
    refine seq_ix S2 (v := .int i) rfl ?_
    walk_at "s"
    refine seq_ix S2 (v := .int j) rfl ?_
    walk_at "s"
    exact q
end

end K04
set_option maxRecDepth 100000
set_option maxHeartbeats 4000000
set_option pp.maxSteps 300
namespace K04
open PySem L2 NL
local macro_rules | `(tactic| walk_at "s1") => `(tactic| with_reducible first
  | refine w_seq ?_ | refine w_asg ?_ | refine w_drop ?_ | refine w_ret ?_ | refine w_next ?_ | refine w_ifS ?_
  | refine w_c ?_ | refine w_op ?_ | refine w_un ?_ | refine w_test ?_ | refine w_B ?_ | refine w_bl ?_ | refine w_not ?_ | refine w_and ?_ | refine w_or ?_
  | refine w_andV ?_ | refine w_orV ?_ | refine w_notV ?_ | refine w_blP ?_ | refine w_if ?_ | refine w_nil ?_ | refine w_cons ?_ | refine w_call ?_ | refine w_callS ?_ | refine w_callW ?_
  | refine w_cb ?_ | refine w_tup ?_ | refine w_lst ?_ | refine w_par ?_ | refine w_two ?_ | refine w_addI ?_ | refine w_I0 ?_ | refine w_neg ?_ | refine w_eqI ?_ | refine w_neI ?_
  | refine w_absI ?_ | refine w_intI ?_ | refine w_sub ?_ | refine w_bm0 ?_ | refine w_bm ?_ | refine w_iteT ?_ | refine w_iteF ?_ | refine w_iteNF ?_ | refine w_iteNT ?_ | refine w_lcT ?_ | refine w_lcL ?_
  | refine w_ref ?_ | refine w_sl ?_ | refine w_npart ?_ | refine w_part ?_ | refine w_iv ?_ | refine w_rev ?_ | refine w_forL ?_ | refine w_forT ?_ | refine w_forR1 ?_ | refine w_one ?_ | refine w_g ?_
  | refine w_asgT ?_ | refine w_gcons ?_ | refine w_gnil ?_ | refine w_lcR1 ?_ | refine w_sFld ?_ | refine w_fldR ?_ | refine w_forEL ?_ | refine w_forET ?_ | refine w_lc2E ?_
  | refine w_var (by with_unfolding_all rfl) ?_)
local macro_rules | `(tactic| walk_at "s") => `(tactic| repeat (walk_at "s1"))

/-! ### made_rows -/
def rowN (rows : List (List Int)) (a : Nat) : List Int := rows.getD a []
def putRow (rows : List (List Int)) (a : Nat) (v : Int) : List (List Int) := rows.set a (rowN rows a ++ [v])
/-- one link more, if it may be -/
def stepR (rows : List (List Int)) (z : Int × Int) : Option (List (List Int)) :=
  if z.2 ∈ rowN rows z.1.toNat then none
  else if (rowN rows z.1.toNat).length = 4 then none
  else if (rowN (putRow rows z.1.toNat z.2) z.2.toNat).length = 4 then none
  else some (putRow (putRow rows z.1.toNat z.2) z.2.toNat z.1)
def pairOf (d : PyData) : Int × Int := match intsOf (elemsD d) with
  | [a, b] => (a, b)
  | _ => (0, 0)
/-- the rows behind some links, or the place of the first one that may not be -/
def goR (n : Int) : Nat → List (List Int) → List PyData → Nat ⊕ List (List Int)
  | _, rows, [] => .inr rows
  | i, rows, d :: ds => if linkD n d = true then (match stepR rows (pairOf d) with
    | none => .inl i
    | some r => goR n (i + 1) r ds) else .inl i
theorem goR_bad {n : Int} {i : Nat} {rows : List (List Int)} {d : PyData} {ds : List PyData} (h : linkD n d = false) : goR n i rows (d :: ds) = .inl i := by
  show (if linkD n d = true then _ else _) = _
  rw [h, if_neg (by decide)]
theorem goR_none {n : Int} {i : Nat} {rows : List (List Int)} {d : PyData} {ds : List PyData} (h : linkD n d = true) (s : stepR rows (pairOf d) = none) : goR n i rows (d :: ds) = .inl i := by
  show (if linkD n d = true then (match stepR rows (pairOf d) with | none => _ | some r => _) else _) = _
  rw [h, if_pos rfl, s]
theorem goR_some {n : Int} {i : Nat} {rows r : List (List Int)} {d : PyData} {ds : List PyData} (h : linkD n d = true) (s : stepR rows (pairOf d) = some r) : goR n i rows (d :: ds) = goR n (i + 1) r ds := by
  show (if linkD n d = true then (match stepR rows (pairOf d) with | none => _ | some r => _) else _) = _
  rw [h, if_pos rfl, s]
theorem goR_append {n : Int} : ∀ {ds es : List PyData} {i : Nat} {rows r : List (List Int)}, goR n i rows ds = .inr r → goR n i rows (ds ++ es) = goR n (i + ds.length) r es
  | [], es, i, rows, r, h => by
    cases h
    rfl
  | d :: ds, es, i, rows, r, h => by
    cases hl : linkD n d
    · rw [goR_bad hl] at h
      cases h
    · cases hs : stepR rows (pairOf d) with
      | none =>
        rw [goR_none hl hs] at h
        cases h
      | some r2 =>
        rw [goR_some hl hs] at h
        rw [List.cons_append, goR_some hl hs, goR_append h, List.length_cons]
        congr 1
        omega
theorem goR_stop {n : Int} : ∀ {ds es : List PyData} {i j : Nat} {rows : List (List Int)}, goR n i rows ds = .inl j → goR n i rows (ds ++ es) = .inl j
  | [], es, i, j, rows, h => by cases h
  | d :: ds, es, i, j, rows, h => by
    cases hl : linkD n d
    · rw [goR_bad hl] at h
      rw [List.cons_append, goR_bad hl]
      exact h
    · cases hs : stepR rows (pairOf d) with
      | none =>
        rw [goR_none hl hs] at h
        rw [List.cons_append, goR_none hl hs]
        exact h
      | some r2 =>
        rw [goR_some hl hs] at h
        rw [List.cons_append, goR_some hl hs]
        exact goR_stop h
theorem link_pair {n : Int} {d : PyData} (h : linkD n d = true) : ∃ a b : Int, elemsD d = [.int a, .int b] ∧ pairOf d = (a, b) ∧ 0 ≤ a ∧ a < n ∧ 0 ≤ b ∧ b < n ∧ a ≠ b ∧ seqD d = true := by
  unfold linkD at h
  rw [Bool.and_eq_true] at h
  obtain ⟨h1, h2⟩ := h
  unfold pairOf
  generalize elemsD d = es at *
  match es, h2 with
  | [u, v], h2 =>
    unfold pairD at h2
    rw [Bool.and_eq_true, Bool.and_eq_true] at h2
    obtain ⟨⟨hu, hv⟩, hn⟩ := h2
    cases u with
    | int a =>
      cases v with
      | int b =>
        have hu : (decide (0 ≤ a) && decide (a < n)) = true := hu
        have hv : (decide (0 ≤ b) && decide (b < n)) = true := hv
        rw [Bool.and_eq_true, decide_eq_true_eq, decide_eq_true_eq] at hu hv
        refine ⟨a, b, rfl, rfl, hu.1, hu.2, hv.1, hv.2, ?_, h1⟩
        rintro rfl
        have hn : (!(a == a)) = true := hn
        simp at hn
      | _ => cases hv
    | _ => cases hu
  | [], h2 => cases h2
  | [_], h2 => cases h2
  | _ :: _ :: _ :: _, h2 => cases h2
section
variable {K : PySem.W.Frag} {H0 H H' : Hp} {R : Addr} {ts : List Addr} {rows : List (List Int)}
/-- the rows under way: their list at R -/
structure RowsAt (H0 H : Hp) (R : Addr) (ts : List Addr) (rows : List (List Int)) : Prop where
  sm : Same H0 H
  nR : H0 R = none
  eR : H R = some (.lst (ts.map V.ref))
  nd : ts.Nodup
  rt : ∀ t ∈ ts, H0 t = none ∧ t ≠ R
  len : rows.length = ts.length
  at_ : ∀ (i : Nat) t, ts[i]? = some t → H t = some (.lst ((rowN rows i).map V.int))
  sz : ∀ i, (rowN rows i).length ≤ 4
theorem RowsAt.same (h : RowsAt H0 H R ts rows) (e : Same H H') : RowsAt H0 H' R ts rows := ⟨h.sm.trans e, h.nR, e _ _ h.eR, h.nd, h.rt, h.len, fun i t ht => e _ _ (h.at_ i t ht), h.sz⟩
theorem row_put {a i : Nat} {v : Int} (h : a < rows.length) : rowN (putRow rows a v) i = if i = a then rowN rows a ++ [v] else rowN rows i := by
  unfold putRow rowN
  rw [List.getD_eq_getElem?_getD, List.getElem?_set]
  by_cases e : a = i
  · subst e
    rw [if_pos rfl, if_pos h, if_pos rfl]
    rfl
  · rw [if_neg e, if_neg (fun z => e z.symm), List.getD_eq_getElem?_getD]
theorem RowsAt.push {a : Nat} {t : Addr} {v : Int} (h : RowsAt H0 H R ts rows) (ha : ts[a]? = some t) (hz : (rowN rows a).length < 4) : RowsAt H0 (upd H t (.lst ((rowN rows a).map V.int ++ [.int v]))) R ts (putRow rows a v) := by
  have hm := List.mem_of_getElem? ha
  have hr := h.rt t hm
  have hlt : a < rows.length := by
    rw [h.len]
    exact (List.getElem?_eq_some_iff.mp ha).1
  refine ⟨Same.putT h.sm hr.1, h.nR, by rw [upd_ne (Ne.symm hr.2)]; exact h.eR, h.nd, h.rt, by unfold putRow; rw [List.length_set]; exact h.len, fun i t' ht => ?_, fun i => ?_⟩
  · rw [row_put hlt]
    by_cases e : i = a
    · subst e
      rw [ha] at ht
      cases ht
      rw [if_pos rfl, upd_same, List.map_append]
      rfl
    · have ne : t' ≠ t := fun z => by
        subst z
        have h1 := (List.getElem?_eq_some_iff.mp ht)
        have h2 := (List.getElem?_eq_some_iff.mp ha)
        obtain ⟨l1, g1⟩ := h1
        obtain ⟨l2, g2⟩ := h2
        have pw := List.pairwise_iff_getElem.mp h.nd
        rcases Nat.lt_or_gt_of_ne e with e | e
        · exact pw i a l1 l2 e (g1.trans g2.symm)
        · exact pw a i l2 l1 e (g2.trans g1.symm)
      rw [if_neg e, upd_ne ne]
      exact h.at_ i t' ht
  · rw [row_put hlt]
    split
    · rw [List.length_append]
      show _ + 1 ≤ 4
      omega
    · exact h.sz i
/-- a row told -/
def RowT (H : Hp) (r : List Int) (y : V) : Prop := ∃ (t : Addr) (r' : List Int), y = .ref t ∧ H t = some (.tup (r'.map V.int)) ∧ r'.Perm r ∧ r'.Pairwise (· ≤ ·)
end
section
variable {P : Program} {w : World} {K : PySem.W.Frag} {mg : Str → Option Value} {base : Heap} {AA : Ad}
def rowsD (n : Nat) (d : PyData) : Nat ⊕ List (List Int) := if seqD d = true then goR n 0 (List.replicate n []) (elemsD d) else .inl 0
def spRows (K : PySem.W.Frag) (C : Addr) : Sp := fun vs H Q E => ∃ (n : Nat) (x : V) (d : PyData), vs = [.int n, x] ∧ n ≤ 1000 ∧ Dv K H x d ∧
  match rowsD n d with
  | .inl i => ∀ dd H', Same H H' → H' dd = none → E (.ref C) (some dd) (upd H' dd (.xd [("at", .int ((n : Int) + (i : Nat)))]))
  | .inr rows => ∀ p ys H', Same H H' → H' p = some (.tup ys) → Paired (fun r y => RowT H' r y) rows ys → Q (.ref p) H'
theorem ok_made_rows (T : Txt P K mg AA) : Kept P w K mg base (L2.CX P w) 5 "made_rows" s_made_rows ["many", "links"] (spRows K AA.InvalidNetwork) := by
  have O_is_sequence := ok_is_sequence (w := w) (base := base) T
  have O_is_link := ok_is_link (w := w) (base := base) T
  refine keepX T.d_made_rows sc_made_rows (fun vs H Q E h => ?_) (fun f cdv A outer s H vs Q E hr h => ?_)
  · obtain ⟨n, x, d, rfl, _⟩ := h
    rfl
  · obtain ⟨n, x, d, rfl, hn, hx, q⟩ := h
    refine ⟨_, (pss_cons (ps_if (pt_not (pt_val (pk_call O_is_sequence (hr.mono (by decide)) (pa_cons (pv 1) pa_nil))))
        (pss_one (ps_raise rfl (takes_of rfl rfl rfl rfl) (pmk_err T.x_InvalidNetwork (hr.mono (by decide)) (pa_cons (pv 0) pa_nil)))) pss_nil)
      (pss_cons (ps_setLc (i := 2) (own := [("site", 3)]) (g := gName 3) (tt := tYes) (by rfl) sc_made_rows.nd rfl rfl (sw_true rfl rfl rfl (by decide +kernel)) (pi_range1 rfl T.n_range (pa_cons (pv 0) pa_nil)) (blkOk_by (own := [("site", 3)]) (N := ["many", "links", "rows", "site", "at", "link", "one", "other", "row"]) (sc := defScope s_made_rows) (by decide +kernel)) (fun _ _ _ _ _ => (pg_name (i := 3) sc_made_rows.nd rfl (by first | exact Or.inl rfl | exact Or.inr rfl))) (fun _ _ _ _ _ => pts_nil) (fun _ _ _ _ _ => (pe_lst pa_nil)))
      (pss_cons (ps_for (passes_of rfl) rfl (pi_or (pi_enum (by rfl) T.n_enumerate (pa_cons (pv 1) pa_nil)) (pi_enumT (by rfl) T.n_enumerate (pa_cons (pv 1) pa_nil))) (pg_tup rfl (pgs_cons (pg_name (i := 4) sc_made_rows.nd rfl (by first | exact Or.inl rfl | exact Or.inr rfl)) (pgs_cons (pg_name (i := 5) sc_made_rows.nd rfl (by first | exact Or.inl rfl | exact Or.inr rfl)) pgs_nil)))
        (pss_cons (ps_if (PW.pt (pw_or (pt_not (pt_val (pk_call O_is_link (hr.mono (by decide)) (pa_cons (pv 5) (pa_cons (pv 0) pa_nil))))) (pw_or1 (pt_cmpR (oIn (ru65 hr)) (pe_ix ix_seq (pv 5) pe_int (fun _ _ => rfl)) (pe_ix ix_seq (pv 2) (pe_ix ix_seq (pv 5) pe_int (fun _ _ => rfl)) (fun _ _ => rfl)) rfl))))
        (pss_one (ps_raise rfl (takes_of rfl rfl rfl rfl) (pmk_err T.x_InvalidNetwork (hr.mono (by decide)) (pa_cons (pe_op oAdd (pv 0) (pv 4)) pa_nil)))) pss_nil)
      (pss_one (ps_for (passes_of rfl) rfl (pi_tup (pe_tup (pa_cons (pe_tup (pa_cons (pe_ix ix_seq (pv 5) pe_int (fun _ _ => rfl)) (pa_cons (pe_ix ix_seq (pv 5) pe_int (fun _ _ => rfl)) pa_nil))) (pa_cons (pe_tup (pa_cons (pe_ix ix_seq (pv 5) pe_int (fun _ _ => rfl)) (pa_cons (pe_ix ix_seq (pv 5) pe_int (fun _ _ => rfl)) pa_nil))) pa_nil)))) (pg_tup rfl (pgs_cons (pg_name (i := 6) sc_made_rows.nd rfl (by first | exact Or.inl rfl | exact Or.inr rfl)) (pgs_cons (pg_name (i := 7) sc_made_rows.nd rfl (by first | exact Or.inl rfl | exact Or.inr rfl)) pgs_nil)))
        (pss_cons (ps_if (pt_cmpR (oEq (ru64 hr)) (pe_callB cLen (by rfl) T.n_len PySem.boot_len (pa_cons (pe_ix ix_seq (pv 2) (pv 6) (fun _ _ => rfl)) pa_nil)) (pe_glob (v := .int 4) rfl T.k_MOST_NEIGHBOURS.choose_spec ⟨_, rfl⟩) (nomark _))
        (pss_one (ps_raise rfl (takes_of rfl rfl rfl rfl) (pmk_err T.x_InvalidNetwork (hr.mono (by decide)) (pa_cons (pe_op oAdd (pv 0) (pv 4)) pa_nil)))) pss_nil)
      (pss_one (ps_expr (pe_bm PySem.F.plainAttrs_list PySem.F.slot_list_append PySem.F.type_list_append mt_append (pe_ix ix_seq (pv 2) (pv 6) (fun _ _ => rfl)) (pa_cons (pv 7) pa_nil)))))))))
      (pss_one (ps_ret (pe_callTy cTuple (by rfl) T.n_tuple (by decide +kernel) (pa_cons (pe_lc (own := [("row", 8)]) (g := gName 8) (tt := tYes) (by rfl) sc_made_rows.nd (pi_list (pv 2)) (blkOk_by (own := [("row", 8)]) (N := ["many", "links", "rows", "site", "at", "link", "one", "other", "row"]) (sc := defScope s_made_rows) (by decide +kernel)) (fun _ _ _ _ _ => (pg_name (i := 8) sc_made_rows.nd rfl (by first | exact Or.inl rfl | exact Or.inr rfl))) (fun _ _ _ _ _ => pts_nil) (fun _ _ _ _ _ => (pe_callTy (show CallR _ _ (aTuple K) from cTuple) (by rfl) T.n_tuple (by decide +kernel) (pa_cons (pe_callB (show CallR _ _ (aSort K) from cSort) (by rfl) T.n_sorted (by decide +kernel) (pa_cons (pv 8) pa_nil)) pa_nil)))) pa_nil))))))), ?_⟩
    walk_at "s"
    refine ⟨x, d, rfl, hx, fun H1 e1 => ?_⟩
    walk_at "s"
    unfold rowsD at q
    cases hq : seqD d
    · rw [hq, if_neg (by decide)] at q
      walk_at "s"
      exact ⟨.int n, rfl, _, rfl, fun dd nd => by have := q dd H1 e1 nd; rw [Int.natCast_zero, Int.add_zero] at this; exact this⟩
    rw [hq, if_pos rfl] at q
    obtain ⟨a, xs, ds, rfl, S, A1, hd⟩ := dp_seq (hx.same e1) hq
    have el : elemsD d = ds := by rcases hd with rfl | rfl <;> rfl
    rw [el] at q
    walk_at "s"
    refine ⟨by omega, by omega, ?_⟩
    rw [Int.toNat_natCast]
    refine lc_rng_inv (fun D i H' => H1 D = none ∧ Same H1 H' ∧ ∃ ts : List Addr, H' D = some (.lst (ts.map V.ref)) ∧ ts.length = i ∧ ts.Nodup ∧ ∀ t ∈ ts, H1 t = none ∧ t ≠ D ∧ H' t = some (.lst [])) (fun D nD => ⟨nD, Same.newT nD, [], upd_same, rfl, List.nodup_nil, fun t h => by cases h⟩) (fun _ => rfl) (fun D i H2 nD hi L => ?_) (fun R H2 nR L => ?_)
    · obtain ⟨_, sm, ts, eD, lt, nd, ht⟩ := L
      walk_at "s"
      refine ⟨show 0 ≤ sizeLine by decide +kernel, fun p np => ?_⟩
      have npD : D ≠ p := ne_of_none eD np
      have np1 : H1 p = none := none_same sm np
      refine ⟨ts.map V.ref, by rw [upd_ne npD]; exact eD, lt_size (by rw [List.length_map]; omega), nD, Same.putT (Same.putT sm np1) nD, ts ++ [p], by rw [upd_same, List.map_append]; rfl, by rw [List.length_append, lt]; rfl, ?_, ?_⟩
      · rw [List.nodup_append]
        refine ⟨nd, by simp, fun x hx y hy => ?_⟩
        rw [List.mem_singleton.mp hy]
        rintro rfl
        rw [(ht x hx).2.2] at np
        cases np
      · intro t h
        rcases List.mem_append.mp h with h | h
        · obtain ⟨h1, h2, h3⟩ := ht t h
          exact ⟨h1, h2, by rw [upd_ne h2, upd_ne (ne_of_none h3 np)]; exact h3⟩
        · rw [List.mem_singleton.mp h]
          exact ⟨np1, npD.symm, by rw [upd_ne npD.symm, upd_same]⟩
    obtain ⟨_, sm, ts, eD, lt, nd, ht⟩ := L
    have rep : ∀ i, rowN (List.replicate n []) i = [] := fun i => by
      unfold rowN
      rw [List.getD_eq_getElem?_getD, List.getElem?_replicate]
      split <;> rfl
    have R0 : RowsAt H1 H2 R ts (List.replicate n []) := ⟨sm, nR, eD, nd, fun t h => ⟨(ht t h).1, (ht t h).2.1⟩, by rw [List.length_replicate, lt], fun i t h => by rw [rep]; exact (ht t (List.mem_of_getElem? h)).2.2, fun i => by rw [rep]; exact Nat.zero_le _⟩
    clear sm eD ht
    walk_at "s"
    refine w_forE (a := a) (xs := xs) rfl S (fun i σ H' => ∃ (rows : List (List Int)) (v3 v4 v5 v6 v7 v8 : Option V), goR n 0 (List.replicate n []) (ds.take i) = .inr rows ∧ RowsAt H1 H' R ts rows ∧ σ = [some (.int n), some (.ref a), some (.ref R), v3, v4, v5, v6, v7, v8]) ⟨_, _, _, _, _, _, _, rfl, R0, rfl⟩ (fun i σ H' _ p => by obtain ⟨_, _, _, _, _, _, _, _, R, _⟩ := p; exact R.sm) ?_ ?_
    · rintro i y T1 σ H3 hy ⟨rows, v3, v4, v5, v6, v7, v8, go, R3, rfl⟩ nT
      obtain ⟨dy, hdy, Ay⟩ := DpAll.get A1 hy
      have R4 := R3.same (Same.newT (o := .tup [.int (i : Nat), y]) nT)
      refine w_gtup (.inl (.inl upd_same)) rfl ?_
      generalize upd H3 T1 (.tup [.int (i : Nat), y]) = H4 at R4
      have lti := (List.getElem?_eq_some_iff.mp hdy).1
      have ty : ds.take (i + 1) = ds.take i ++ [dy] := take_snoc hdy
      have ds3 : ds = (ds.take i ++ [dy]) ++ ds.drop (i + 1) := by rw [← ty, List.take_append_drop]
      have ltk : (ds.take i).length = i := by rw [List.length_take]; omega
      have step : ∀ {o}, goR n i rows [dy] = o → goR n 0 (List.replicate n []) (ds.take i ++ [dy]) = o := fun {o} e => by
        rw [goR_append go, ltk, Nat.zero_add]
        exact e
      have bad : goR n i rows [dy] = .inl i → ∀ H', Same H1 H' → ∀ dd, H' dd = none → E (.ref AA.InvalidNetwork) (some dd) (upd H' dd (.xd [("at", .int ((n : Int) + (i : Nat)))])) := fun hb H' e dd nd => by
        have := goR_stop (es := ds.drop (i + 1)) (step hb)
        rw [← ds3] at this
        rw [this] at q
        exact q dd H' (Same.trans e1 e) nd
      walk_at "s"
      refine ⟨y, dy, n, rfl, .dp (Dp.same Ay R4.sm), fun H5 e5 => ?_⟩
      have R5 := R4.same e5
      clear nT R4 R3 e5 R0
      walk_at "s"
      cases hl : linkD n dy
      · walk_at "s"
        refine w_mkErr ?_
        walk_at "s"
        exact ⟨_, rfl, fun dd nd => bad (goR_bad hl) H5 R5.sm dd nd⟩
      obtain ⟨b, c, eq1, pr, b0, b1, c0, c1, bc, sq⟩ := link_pair hl
      obtain ⟨p, zs, fs, rfl, Sp, Ap, hp⟩ := dp_seq (.dp (Dp.same Ay R5.sm)) sq
      have el2 : elemsD dy = fs := by rcases hp with rfl | rfl <;> rfl
      rw [el2] at eq1
      subst eq1
      obtain ⟨u, v, du, dv, rfl, hh, hu, hv⟩ := dp_two Ap rfl
      cases hh
      cases hu
      cases hv
      obtain ⟨bn, rfl⟩ : ∃ k : Nat, b = k := ⟨b.toNat, by omega⟩
      obtain ⟨cn, rfl⟩ : ∃ k : Nat, c = k := ⟨c.toNat, by omega⟩
      have hbn : bn < ts.length := by omega
      have hcn : cn < ts.length := by omega
      have tb := List.getElem?_eq_getElem hbn
      have tc := List.getElem?_eq_getElem hcn
      have ixb : atI (ts.map V.ref) (bn : Int) = some (.ref ts[bn]) := atN (by rw [List.getElem?_map, tb]; rfl)
      have ixc : atI (ts.map V.ref) (cn : Int) = some (.ref ts[cn]) := atN (by rw [List.getElem?_map, tc]; rfl)
      have sR : ∀ o, stepR rows (pairOf dy) = o → stepR rows ((bn : Int), (cn : Int)) = o := fun o e => by rw [← pr]; exact e
      walk_at "s"
      refine seq_ix Sp (v := .int cn) rfl ?_
      walk_at "s"
      refine seq_ix Sp (v := .int bn) rfl ?_
      walk_at "s"
      refine w_ixL (SqL.of R5.eR) ixb ?_
      refine w_inI (SqL.of (R5.at_ bn _ tb)) ?_
      walk_at "s"
      refine w_iteD (fun hin => ?_) (fun hin => ?_)
      · walk_at "s"
        refine w_mkErr ?_
        walk_at "s"
        refine ⟨_, rfl, fun dd nd => bad (goR_none hl ?_) H5 R5.sm dd nd⟩
        rw [pr]
        unfold stepR
        rw [if_pos (by rw [Int.toNat_natCast]; exact hin)]
      walk_at "s"
      refine seq_ix Sp (v := .int bn) rfl ?_
      walk_at "s"
      refine seq_ix Sp (v := .int cn) rfl ?_
      walk_at "s"
      refine ⟨show 2 ≤ sizeLine by decide +kernel, fun p1 n1 => ?_⟩
      have s6 : Same H5 _ := Same.newT (o := .tup [.int bn, .int cn]) n1
      have k1 : upd H5 p1 (.tup [.int bn, .int cn]) p1 = some (.tup [.int bn, .int cn]) := upd_same
      have R6 := R5.same s6
      generalize upd H5 p1 (.tup [.int bn, .int cn]) = H6 at s6 k1 R6
      have Sp6 := sq_same Sp s6
      walk_at "s"
      refine seq_ix Sp6 (v := .int cn) rfl ?_
      walk_at "s"
      refine seq_ix Sp6 (v := .int bn) rfl ?_
      walk_at "s"
      refine ⟨show 2 ≤ sizeLine by decide +kernel, fun p2 n2 => ?_⟩
      have s7 : Same H6 _ := Same.newT (o := .tup [.int cn, .int bn]) n2
      have k2 : upd H6 p2 (.tup [.int cn, .int bn]) p2 = some (.tup [.int cn, .int bn]) := upd_same
      have R7 := R6.same s7
      have k1 := s7 _ _ k1
      generalize upd H6 p2 (.tup [.int cn, .int bn]) = H7 at s7 k1 k2 R7
      walk_at "s"
      refine ⟨show 2 ≤ sizeLine by decide +kernel, fun p3 n3 => ?_⟩
      have s8 : Same H7 _ := Same.newT (o := .tup [.ref p1, .ref p2]) n3
      have k3 : upd H7 p3 (.tup [.ref p1, .ref p2]) p3 = some (.tup [.ref p1, .ref p2]) := upd_same
      have R8 := R7.same s8
      have k1 := s8 _ _ k1
      have k2 := s8 _ _ k2
      generalize upd H7 p3 (.tup [.ref p1, .ref p2]) = H8 at s8 k1 k2 k3 R8
      walk_at "s"
      refine ⟨⟨_, .inl (.inl k3)⟩, ?_⟩
      have szb := R8.sz bn
      have keep : ∀ {H' : Hp} {t : Addr} {ns : List Int} {o : HO} {p : Addr} {xs : List V}, H' t = some (.lst (ns.map V.int)) → H' p = some (.tup xs) → upd H' t o p = some (.tup xs) := fun {H' t ns o p xs} h1 h2 => by
        rw [upd_ne ?_]
        · exact h2
        · rintro rfl
          rw [h1] at h2
          cases h2
      have hbr : bn < rows.length := by rw [R8.len]; exact hbn
      refine fgT (xs := [.ref p1, .ref p2]) (fun j σ H' => H' p1 = some (.tup [.int bn, .int cn]) ∧ H' p2 = some (.tup [.int cn, .int bn]) ∧ H' p3 = some (.tup [.ref p1, .ref p2]) ∧ (∃ v6 v7 : Option V, σ = [some (.int n), some (.ref a), some (.ref R), v3, some (.int (i : Nat)), some (.ref p), v6, v7, v8]) ∧
        (j = 0 → RowsAt H1 H' R ts rows) ∧ (j = 1 → RowsAt H1 H' R ts (putRow rows bn cn) ∧ (rowN rows bn).length ≠ 4) ∧
        (j = 2 → RowsAt H1 H' R ts (putRow (putRow rows bn cn) cn bn) ∧ (rowN rows bn).length ≠ 4 ∧ (rowN (putRow rows bn cn) cn).length ≠ 4)) ⟨k1, k2, k3, ⟨_, _, rfl⟩, fun _ => R8, fun z => absurd z (by decide), fun z => absurd z (by decide)⟩ (fun j σ H' _ q => .inl (.inl q.2.2.1)) ?_ ?_
      · rintro j x σ H' hj ⟨k1, k2, k3, ⟨v6, v7, rfl⟩, q0, q1, q2⟩
        match j, hj with
        | 0, hj =>
          obtain rfl : V.ref p1 = x := Option.some.inj hj
          have R9 := q0 rfl
          refine w_gtup (.inl (.inl k1)) rfl ?_
          walk_at "s"
          refine w_ixL (SqL.of R9.eR) ixb ?_
          walk_at "s"
          refine w_lenL (SqL.of (R9.at_ bn _ tb)) ?_
          rw [List.length_map]
          walk_at "s"
          refine w_iteD (fun h4 => ?_) (fun h4 => ?_)
          · walk_at "s"
            refine w_mkErr ?_
            walk_at "s"
            refine ⟨_, rfl, fun dd nd => bad (goR_none hl ?_) H' R9.sm dd nd⟩
            rw [pr]
            unfold stepR
            rw [if_neg (by rw [Int.toNat_natCast]; exact hin), if_pos (by rw [Int.toNat_natCast]; omega)]
          · have h4 : (rowN rows bn).length ≠ 4 := by omega
            walk_at "s"
            refine w_ixL (SqL.of R9.eR) ixb ?_
            refine ⟨tyL (R9.at_ bn _ tb), ?_⟩
            walk_at "s"
            refine w_append (R9.at_ bn _ tb) (lt_size (by rw [List.length_map]; omega)) ?_
            refine ⟨keep (R9.at_ bn _ tb) k1, keep (R9.at_ bn _ tb) k2, keep (R9.at_ bn _ tb) k3, ⟨_, _, rfl⟩, fun z => absurd z (by decide), fun _ => ⟨R9.push tb (by omega), h4⟩, fun z => absurd z (by decide)⟩
        | 1, hj =>
          obtain rfl : V.ref p2 = x := Option.some.inj hj
          obtain ⟨R9, hb4⟩ := q1 rfl
          refine w_gtup (.inl (.inl k2)) rfl ?_
          walk_at "s"
          refine w_ixL (SqL.of R9.eR) ixc ?_
          walk_at "s"
          refine w_lenL (SqL.of (R9.at_ cn _ tc)) ?_
          rw [List.length_map]
          walk_at "s"
          refine w_iteD (fun h4 => ?_) (fun h4 => ?_)
          · have h4 : (rowN (putRow rows bn cn) cn).length = 4 := by omega
            walk_at "s"
            refine w_mkErr ?_
            walk_at "s"
            refine ⟨_, rfl, fun dd nd => bad (goR_none hl ?_) H' R9.sm dd nd⟩
            rw [pr]
            unfold stepR
            rw [if_neg (by rw [Int.toNat_natCast]; exact hin), if_neg (by rw [Int.toNat_natCast]; exact hb4), if_pos (by rw [Int.toNat_natCast, Int.toNat_natCast]; exact h4)]
          · have h4 : (rowN (putRow rows bn cn) cn).length ≠ 4 := by omega
            have szc := R9.sz cn
            walk_at "s"
            refine w_ixL (SqL.of R9.eR) ixc ?_
            refine ⟨tyL (R9.at_ cn _ tc), ?_⟩
            walk_at "s"
            refine w_append (R9.at_ cn _ tc) (lt_size (by rw [List.length_map]; omega)) ?_
            refine ⟨keep (R9.at_ cn _ tc) k1, keep (R9.at_ cn _ tc) k2, keep (R9.at_ cn _ tc) k3, ⟨_, _, rfl⟩, fun z => absurd z (by decide), fun z => absurd z (by decide), fun _ => ⟨R9.push tc (by omega), hb4, h4⟩⟩
        | j + 2, hj => cases hj
      · rintro σ H' ⟨k1, k2, k3, ⟨v6, v7, rfl⟩, q0, q1, q2⟩
        obtain ⟨R9, hb4, hc4⟩ := q2 rfl
        have hs : stepR rows (pairOf dy) = some (putRow (putRow rows bn cn) cn bn) := by
          rw [pr]
          unfold stepR
          rw [if_neg (by rw [Int.toNat_natCast]; exact hin), if_neg (by rw [Int.toNat_natCast]; exact hb4), if_neg (by rw [Int.toNat_natCast, Int.toNat_natCast]; exact hc4)]
          rw [Int.toNat_natCast, Int.toNat_natCast]
        exact ⟨_, _, _, _, _, _, _, by rw [ty]; exact step (goR_some hl hs), R9, rfl⟩
    · rintro σ H3 ⟨rows, v3, v4, v5, v6, v7, v8, go, R3, rfl⟩
      rw [DpAll.len A1, List.take_length] at go
      rw [go] at q
      walk_at "s"
      refine ⟨⟨_, SqL.of R3.eR⟩, ?_⟩
      refine lc_lst_inv (fun D i H' => H3 D = none ∧ Same H3 H' ∧ ∃ ys, H' D = some (.lst ys) ∧ Paired (fun r y => RowT H' r y) (rows.take i) ys) (fun D nD => ⟨nD, Same.newT nD, [], upd_same, .nil⟩) (fun D i H' nD L => SqL.of (L.2.1 _ _ R3.eR)) (fun _ => rfl) (fun D i x H' nD hx2 L => ?_) (fun D H4 nD L => ?_)
      · obtain ⟨_, sm, ys, eD, pr⟩ := L
        obtain ⟨t, ht, rfl⟩ : ∃ t, ts[i]? = some t ∧ x = .ref t := by
          rw [List.getElem?_map] at hx2
          cases e : ts[i]? with
          | none => rw [e] at hx2; cases hx2
          | some t => rw [e] at hx2; exact ⟨t, rfl, (Option.some.inj hx2).symm⟩
        have kt := sm _ _ (R3.at_ i t ht)
        have hir : i < rows.length := by
          rw [R3.len]
          exact (List.getElem?_eq_some_iff.mp ht).1
        have hrow : rows[i]? = some (rowN rows i) := by
          unfold rowN
          rw [List.getD_eq_getElem?_getD, List.getElem?_eq_getElem hir]
          rfl
        walk_at "s"
        refine ⟨t, rowN rows i, rfl, .inl (SqL.of kt), fun r' l pm pw nl => ?_⟩
        have s5 : Same H' _ := Same.newT (o := .lst (r'.map V.int)) nl
        have k5 : upd H' l (.lst (r'.map V.int)) l = some (.lst (r'.map V.int)) := upd_same
        generalize upd H' l (.lst (r'.map V.int)) = H5 at s5 k5
        walk_at "s"
        refine ⟨l, _, rfl, .inl ⟨SqL.of k5, fun t2 nt2 => ?_⟩⟩
        have s6 : Same H5 _ := Same.newT (o := .tup (r'.map V.int)) nt2
        have k6 : upd H5 t2 (.tup (r'.map V.int)) t2 = some (.tup (r'.map V.int)) := upd_same
        generalize upd H5 t2 (.tup (r'.map V.int)) = H6 at s6 k6
        have s7 := Same.trans s5 s6
        have far : ∀ {r y ys}, RowT H6 r y → RowT (upd H6 D (.lst ys)) r y := fun {r y ys} h => by
          obtain ⟨t, r', e1, e2, e3⟩ := h
          refine ⟨t, r', e1, ?_, e3⟩
          rw [upd_ne ?_]
          · exact e2
          · rintro rfl
            rw [s7 _ _ eD] at e2
            cases e2
        have lys : ys.length = i := by
          have := Paired.length pr
          rw [List.length_take] at this
          omega
        have lr := R3.len
        refine ⟨ys, s7 _ _ eD, lt_size (by omega), nD, Same.putT (sm.trans s7) nD, ys ++ [.ref t2], upd_same, ?_⟩
        rw [take_snoc hrow]
        refine paired_snoc (Paired.mapP pr fun r y h => far ?_) (far ⟨t2, r', rfl, k6, pm, pw⟩)
        obtain ⟨t, r', e1, e2, e3⟩ := h
        exact ⟨t, r', e1, s7 _ _ e2, e3⟩
      · obtain ⟨_, sm, ys, eD, pr⟩ := L
        rw [List.length_map, ← R3.len, List.take_length] at pr
        refine ⟨D, ys, rfl, .inl ⟨SqL.of eD, fun l nl => ?_⟩⟩
        refine q l ys _ (Same.trans e1 (Same.trans R3.sm (Same.trans sm (Same.newT nl)))) upd_same (Paired.mapP pr fun r y h => ?_)
        obtain ⟨t, r', e1, e2, e3⟩ := h
        exact ⟨t, r', e1, by rw [upd_ne (ne_of_none e2 nl)]; exact e2, e3⟩
end

end K04
set_option maxRecDepth 100000
set_option maxHeartbeats 4000000
set_option pp.maxSteps 300
namespace K04
open PySem L2 NL
local macro_rules | `(tactic| walk_at "s1") => `(tactic| with_reducible first
  | refine w_seq ?_ | refine w_asg ?_ | refine w_drop ?_ | refine w_ret ?_ | refine w_next ?_ | refine w_ifS ?_
  | refine w_c ?_ | refine w_op ?_ | refine w_un ?_ | refine w_test ?_ | refine w_B ?_ | refine w_bl ?_ | refine w_not ?_ | refine w_and ?_ | refine w_or ?_
  | refine w_andV ?_ | refine w_orV ?_ | refine w_notV ?_ | refine w_blP ?_ | refine w_if ?_ | refine w_nil ?_ | refine w_cons ?_ | refine w_call ?_ | refine w_callS ?_ | refine w_callW ?_
  | refine w_cb ?_ | refine w_tup ?_ | refine w_lst ?_ | refine w_par ?_ | refine w_two ?_ | refine w_addI ?_ | refine w_I0 ?_ | refine w_neg ?_ | refine w_eqI ?_ | refine w_neI ?_
  | refine w_absI ?_ | refine w_intI ?_ | refine w_sub ?_ | refine w_bm0 ?_ | refine w_bm ?_ | refine w_iteT ?_ | refine w_iteF ?_ | refine w_iteNF ?_ | refine w_iteNT ?_ | refine w_lcT ?_ | refine w_lcL ?_
  | refine w_ref ?_ | refine w_sl ?_ | refine w_npart ?_ | refine w_part ?_ | refine w_iv ?_ | refine w_rev ?_ | refine w_forL ?_ | refine w_forT ?_ | refine w_forR1 ?_ | refine w_one ?_ | refine w_g ?_
  | refine w_asgT ?_ | refine w_gcons ?_ | refine w_gnil ?_ | refine w_lcR1 ?_ | refine w_sFld ?_ | refine w_fldR ?_ | refine w_forEL ?_ | refine w_forET ?_ | refine w_lc2E ?_
  | refine w_var (by with_unfolding_all rfl) ?_)
local macro_rules | `(tactic| walk_at "s") => `(tactic| repeat (walk_at "s1"))

/-! ### Network: made, compared -/
/-- the links that sorted rows tell -/
def lrow (rows : List (List Int)) (i : Nat) : List (Int × Int) := ((rowN rows i).filter fun o => decide ((i : Int) < o)).map fun o => ((i : Int), o)
def linksOf (rows : List (List Int)) : List (Int × Int) := (List.range rows.length).flatMap (lrow rows)
def gtV (i : Nat) : V → Bool
  | .int o => decide ((i : Int) < o)
  | _ => false
def intV : V → Int
  | .int o => o
  | _ => 0
theorem lrow_V (rows : List (List Int)) (i : Nat) : (((rowN rows i).map V.int).filter (gtV i)).map (fun z => ((i : Int), intV z)) = lrow rows i := by
  unfold lrow
  rw [List.filter_map, List.map_map]
  rfl
theorem goR_len {n : Int} : ∀ {ds : List PyData} {i : Nat} {rows r : List (List Int)}, goR n i rows ds = .inr r → r.length = rows.length
  | [], i, rows, r, h => by
    cases h
    rfl
  | d :: ds, i, rows, r, h => by
    cases hl : linkD n d
    · rw [goR_bad hl] at h
      cases h
    · cases hs : stepR rows (pairOf d) with
      | none =>
        rw [goR_none hl hs] at h
        cases h
      | some r2 =>
        rw [goR_some hl hs] at h
        rw [goR_len h]
        unfold stepR at hs
        split at hs
        · cases hs
        split at hs
        · cases hs
        split at hs
        · cases hs
        cases hs
        unfold putRow
        rw [List.length_set, List.length_set]
theorem row_put_le {rows : List (List Int)} {a i : Nat} {v : Int} (h : ∀ i, (rowN rows i).length ≤ 4) (h4 : (rowN rows a).length ≠ 4) : (rowN (putRow rows a v) i).length ≤ 4 := by
  by_cases ha : a < rows.length
  · rw [row_put ha]
    have := h a
    split
    · rw [List.length_append]
      show _ + 1 ≤ 4
      omega
    · exact h i
  · have e : putRow rows a v = rows := by
      unfold putRow
      rw [List.set_eq_of_length_le (by omega)]
    rw [e]
    exact h i
theorem goR_sz {n : Int} : ∀ {ds : List PyData} {i : Nat} {rows r : List (List Int)}, goR n i rows ds = .inr r → (∀ i, (rowN rows i).length ≤ 4) → ∀ i, (rowN r i).length ≤ 4
  | [], i, rows, r, h, z => by
    cases h
    exact z
  | d :: ds, i, rows, r, h, z => by
    cases hl : linkD n d
    · rw [goR_bad hl] at h
      cases h
    · cases hs : stepR rows (pairOf d) with
      | none =>
        rw [goR_none hl hs] at h
        cases h
      | some r2 =>
        rw [goR_some hl hs] at h
        refine goR_sz h ?_
        unfold stepR at hs
        split at hs
        · cases hs
        split at hs
        · cases hs
        split at hs
        · cases hs
        rename_i h2 h3
        cases hs
        exact fun i => row_put_le (fun i => row_put_le z h2) h3
theorem rep_row (n i : Nat) : rowN (List.replicate n []) i = [] := by
  unfold rowN
  rw [List.getD_eq_getElem?_getD, List.getElem?_replicate]
  split <;> rfl
/-- what Network(modes, links) comes to: the place of the first fault, or its modes and rows -/
def netD (dm dl : PyData) : Nat ⊕ (List Int × List (List Int)) := match modesBad dm with
  | some i => .inl i
  | none => match rowsD (elemsD dm).length dl with
    | .inl i => .inl ((elemsD dm).length + i)
    | .inr rows => .inr (intsOf (elemsD dm), rows)
theorem modes_good {d : PyData} (h : modesBad d = none) : seqD d = true ∧ elemsD d = dInts (intsOf (elemsD d)) ∧ (elemsD d).all (ixD 4) = true := by
  unfold modesBad at h
  split at h
  · rename_i h2
    have a : (elemsD d).all (ixD 4) = true := by
      rw [List.all_eq_true]
      intro x hx
      have := find_none h x hx
      simpa using this
    exact ⟨h2.1, ints_all a, a⟩
  · cases h
section
variable {K : PySem.W.Frag} {H H' : Hp} {C x : Addr} {ms : List Int} {rows : List (List Int)}
/-- a network -/
structure NetAt (K : PySem.W.Frag) (C : Addr) (H : Hp) (x : Addr) (ms : List Int) (rows : List (List Int)) : Prop where
  ex : ∃ (dx : Addr) (fs : List (Str × V)) (tr tm tl : Addr) (yr yl : List V), H x = some (.ins C dx fs) ∧ fs.lookup ("rows" : Str) = some (.ref tr) ∧ fs.lookup ("modes" : Str) = some (.ref tm) ∧ fs.lookup ("links" : Str) = some (.ref tl) ∧
    H tr = some (.tup yr) ∧ Paired (fun r y => ∃ t, y = .ref t ∧ H t = some (.tup (r.map V.int))) rows yr ∧ SqT K H tm (ms.map V.int) ∧ SqT K H tl yl ∧ Paired (fun z y => PairAt H z y) (linksOf rows) yl
theorem NetAt.same (h : NetAt K C H x ms rows) (e : Same H H') : NetAt K C H' x ms rows := by
  obtain ⟨dx, fs, tr, tm, tl, yr, yl, h1, h2, h3, h4, h5, h6, h7, h8, h9⟩ := h.ex
  refine ⟨dx, fs, tr, tm, tl, yr, yl, e _ _ h1, h2, h3, h4, e _ _ h5, Paired.mapP h6 fun r y q => ?_, same_t e h7, same_t e h8, Paired.mapP h9 fun z y q => q.same e⟩
  obtain ⟨t, q1, q2⟩ := q
  exact ⟨t, q1, e _ _ q2⟩
/-- the rows sorted -/
def SortedRows (rows rows' : List (List Int)) : Prop := Paired (fun r r' => r'.Perm r ∧ r'.Pairwise (· ≤ ·)) rows rows'
theorem rowT_split : ∀ {rows : List (List Int)} {ys : List V}, Paired (fun r y => RowT H r y) rows ys → ∃ rows', SortedRows rows rows' ∧ Paired (fun r y => ∃ t, y = .ref t ∧ H t = some (.tup (r.map V.int))) rows' ys
  | _, _, .nil => ⟨[], .nil, .nil⟩
  | _, _, .cons h p => by
    obtain ⟨rows', a, b⟩ := rowT_split p
    obtain ⟨t, r', h1, h2, h3⟩ := h
    exact ⟨r' :: rows', .cons h3 a, .cons ⟨t, h1, h2⟩ b⟩
theorem sorted_row : ∀ {rows rows' : List (List Int)}, SortedRows rows rows' → ∀ i, (rowN rows' i).Perm (rowN rows i) ∧ (rowN rows' i).Pairwise (· ≤ ·)
  | _, _, .nil, i => by
    unfold rowN
    rw [List.getD_eq_getElem?_getD]
    exact ⟨by simp, by simp⟩
  | _, _, .cons h p, 0 => h
  | _, _, .cons h p, i + 1 => sorted_row p i
end
section
variable {P : Program} {w : World} {K : PySem.W.Frag} {mg : Str → Option Value} {base : Heap} {AA : Ad}
/-- what Network(modes, links) promises -/
def spNet (K : PySem.W.Frag) (C CE : Addr) : Sp := fun vs H Q E => ∃ (xm xl : V) (dm dl : PyData), vs = [xm, xl] ∧ Dv K H xm dm ∧ Dv K H xl dl ∧ (elemsD dm).length ≤ 1000 ∧
  match netD dm dl with
  | .inl i => ∀ dd H', Same H H' → H' dd = none → E (.ref CE) (some dd) (upd H' dd (.xd [("at", .int (i : Nat))]))
  | .inr (ms, rows) => ∀ x rows' H', Same H H' → H x = none → SortedRows rows rows' → NetAt K C H' x ms rows' → Q (.ref x) H'
def spNetI (K : PySem.W.Frag) (C CE : Addr) : Sp := fun vs H Q E => ∃ (x dx : Addr) (H0 : Hp) (xm xl : V) (dm dl : PyData), vs = [.ref x, xm, xl] ∧ Same H0 H ∧ H0 x = none ∧ H x = some (.ins C dx []) ∧ Dv K H0 xm dm ∧ Dv K H0 xl dl ∧ (elemsD dm).length ≤ 1000 ∧
  match netD dm dl with
  | .inl i => ∀ dd H', Same H0 H' → H' dd = none → E (.ref CE) (some dd) (upd H' dd (.xd [("at", .int (i : Nat))]))
  | .inr (ms, rows) => ∀ rows' H', Same H0 H' → SortedRows rows rows' → NetAt K C H' x ms rows' → Q .non H'
theorem net_makes {C CE : Addr} : Makes C (spNetI K C CE) (spNet K C CE) := fun vs H Q E h x dx nx nd ne => by
  obtain ⟨xm, xl, dm, dl, rfl, hm, hl, hz, q⟩ := h
  have s0 : Same H (upd (upd H dx (.own x)) x (.ins C dx [])) := fun b o e => by
    rw [upd_ne (ne_of_none e nx), upd_ne (ne_of_none e nd)]
    exact e
  refine ⟨x, dx, H, xm, xl, dm, dl, rfl, s0, nx, upd_same, hm, hl, hz, ?_⟩
  cases hn : netD dm dl with
  | inl i =>
    rw [hn] at q
    exact q
  | inr z =>
    obtain ⟨ms, rows⟩ := z
    rw [hn] at q
    exact fun rows' H' s1 h1 h2 => ⟨rfl, q x rows' H' s1 nx h1 h2⟩
theorem ok_Network_init (T : Txt P K mg AA) : KeptM P w K mg base (L2.CX P w) 6 AA.Network "__init__" "Network.__init__" s_Network___init__ ["self", "modes", "links"] (spNetI K AA.Network AA.InvalidNetwork) := by
  have O_check_modes := ok_check_modes (w := w) (base := base) T
  have O_made_rows := ok_made_rows (w := w) (base := base) T
  refine keepMX T.m_Network___init__ sc_Network___init__ (fun vs H Q E h => ?_) (fun f cdv A outer s H vs Q E hr h => ?_)
  · obtain ⟨x, dx, H0, xm, xl, dm, dl, rfl, _⟩ := h
    rfl
  · obtain ⟨x, dx, H0, xm, xl, dm, dl, rfl, e0, nx, hx, hm, hl, hz, q⟩ := h
    refine ⟨_, (pss_cons (ps_expr (pk_callX O_check_modes (takes_of rfl rfl rfl rfl) (hr.mono (by decide)) (pa_cons (pv 1) pa_nil)))
      (pss_cons (ps_fld (pv 0) (pk_callX O_made_rows (takes_of rfl rfl rfl rfl) (hr.mono (by decide)) (pa_cons (pe_callB cLen (by rfl) T.n_len PySem.boot_len (pa_cons (pv 1) pa_nil)) (pa_cons (pv 2) pa_nil))) rfl)
      (pss_cons (ps_fld (pv 0) (pe_callTy cTuple (by rfl) T.n_tuple (by decide +kernel) (pa_cons (pv 1) pa_nil)) rfl)
      (pss_one (ps_fld (pv 0) (pe_callTy cTuple (by rfl) T.n_tuple (by decide +kernel) (pa_cons (pe_lc2 (own := [("site", 3), ("row", 4), ("other", 5)]) (g := (gTup K 2 (gCons (gName 3) (gCons (gName 4) gNil)))) (tt := tYes) (vs1 := [5]) (g1 := (gName 5)) (by rfl) sc_Network___init__.nd (pi_enumT (by rfl) T.n_enumerate (pa_cons (pe_fld (pv 0) rfl) pa_nil)) (blkOk_by (own := [("site", 3), ("row", 4), ("other", 5)]) (N := ["self", "modes", "links", "site", "row", "other"]) (sc := defScope s_Network___init__) (by decide +kernel)) (by decide) (fun _ _ _ _ _ => (pg_tup rfl (pgs_cons (pg_name (i := 3) sc_Network___init__.nd rfl (by first | exact Or.inl rfl | exact Or.inr rfl)) (pgs_cons (pg_name (i := 4) sc_Network___init__.nd rfl (by first | exact Or.inl rfl | exact Or.inr rfl)) pgs_nil)))) (fun _ _ _ _ _ => pts_nil) (fun _ _ _ _ _ => (show PI _ _ _ (iTup K _) from pi_tup (pv 4))) (fun _ _ _ _ _ => (pg_name (i := 5) sc_Network___init__.nd rfl (by first | exact Or.inl rfl | exact Or.inr rfl))) (fun _ _ _ _ _ => (pts_one (pt_cmpR op_lt (pv 3) (pv 5) (nomark _)))) (fun _ _ _ _ _ => (pe_tup (pa_cons (pv 3) (pa_cons (pv 5) pa_nil))))) pa_nil)) rfl))))), ?_⟩
    walk_at "s"
    refine ⟨xm, dm, rfl, hm.same e0, ?_⟩
    unfold netD at q
    cases hb : modesBad dm with
    | some i =>
      rw [hb] at q
      exact fun dd H' e nd => q dd H' (Same.trans e0 e) nd
    | none =>
      rw [hb] at q
      intro H1 e1
      have e1' := Same.trans e0 e1
      obtain ⟨sq, ei, al⟩ := modes_good hb
      obtain ⟨a, xs, ds, rfl, S, A1, hd⟩ := dp_seq (hm.same e1') sq
      have el : elemsD dm = ds := by rcases hd with rfl | rfl <;> rfl
      rw [el] at q ei hz
      have ln := DpAll.len A1
      walk_at "s"
      refine seq_len S ?_
      walk_at "s"
      refine ⟨xs.length, xl, dl, rfl, by omega, hl.same e1', ?_⟩
      rw [ln]
      cases hr2 : rowsD ds.length dl with
      | inl i =>
        rw [hr2] at q
        intro dd H' e nd
        have := q dd H' (Same.trans e1' e) nd
        rw [Int.natCast_add] at this
        exact this
      | inr rows =>
        rw [hr2] at q
        intro tr yr H2 e2 k2 pr2
        have e2' := Same.trans e1' e2
        obtain ⟨rows', so, pr3⟩ := rowT_split pr2
        have hx2 := e2 _ _ (e1 _ _ hx)
        walk_at "s"
        refine fld_put hx2 T.K_Network.ic.cl T.a_Network_rows (by decide) ?_
        have e3' : Same H0 (upd H2 x (.ins AA.Network dx (putF "rows" (.ref tr) []))) := Same.putT e2' nx
        have k3 : upd H2 x (.ins AA.Network dx (putF "rows" (.ref tr) [])) tr = some (.tup yr) := ins_tup hx2 k2
        have x3 : upd H2 x (.ins AA.Network dx (putF "rows" (.ref tr) [])) x = some (.ins AA.Network dx (putF "rows" (.ref tr) [])) := upd_same
        have pr4 : Paired (fun r y => ∃ t, y = .ref t ∧ upd H2 x (.ins AA.Network dx (putF "rows" (.ref tr) [])) t = some (.tup (r.map V.int))) rows' yr := Paired.mapP pr3 fun r y h => by
          obtain ⟨t, h1, h2⟩ := h
          exact ⟨t, h1, ins_tup hx2 h2⟩
        have S3 : SqL K (upd H2 x (.ins AA.Network dx (putF "rows" (.ref tr) []))) a xs ∨ SqT K (upd H2 x (.ins AA.Network dx (putF "rows" (.ref tr) []))) a xs := ins_sq hx2 (sq_same S e2)
        generalize upd H2 x (.ins AA.Network dx (putF "rows" (.ref tr) [])) = H3 at e3' k3 x3 pr4 S3
        walk_at "s"
        · refine seq_tuple S3 (fun tm H4 e4 Sm => ?_)
          have x4 := e4 _ _ x3
          have k4 := e4 _ _ k3
          have pr5 : Paired (fun r y => ∃ t, y = .ref t ∧ H4 t = some (.tup (r.map V.int))) rows' yr := Paired.mapP pr4 fun r y h => by
            obtain ⟨t, h1, h2⟩ := h
            exact ⟨t, h1, e4 _ _ h2⟩
          walk_at "s"
          refine fld_put x4 T.K_Network.ic.cl T.a_Network_modes (putF_lt (n := 999) (by decide)) ?_
          have e5' : Same H0 (upd H4 x (.ins AA.Network dx (putF "modes" (.ref tm) (putF "rows" (.ref tr) [])))) := Same.putT (Same.trans e3' e4) nx
          have k5 : upd H4 x (.ins AA.Network dx (putF "modes" (.ref tm) (putF "rows" (.ref tr) []))) tr = some (.tup yr) := ins_tup x4 k4
          have m5 : SqT K (upd H4 x (.ins AA.Network dx (putF "modes" (.ref tm) (putF "rows" (.ref tr) [])))) tm xs := ins_sqT x4 Sm
          have x5 : upd H4 x (.ins AA.Network dx (putF "modes" (.ref tm) (putF "rows" (.ref tr) []))) x = some (.ins AA.Network dx (putF "modes" (.ref tm) (putF "rows" (.ref tr) []))) := upd_same
          have pr6 : Paired (fun r y => ∃ t, y = .ref t ∧ upd H4 x (.ins AA.Network dx (putF "modes" (.ref tm) (putF "rows" (.ref tr) []))) t = some (.tup (r.map V.int))) rows' yr := Paired.mapP pr5 fun r y h => by
            obtain ⟨t, h1, h2⟩ := h
            exact ⟨t, h1, ins_tup x4 h2⟩
          generalize upd H4 x (.ins AA.Network dx (putF "modes" (.ref tm) (putF "rows" (.ref tr) []))) = H5 at e5' k5 m5 x5 pr6
          walk_at "s"
          refine w_lc2E (K := K) ?_
          walk_at "s"
          refine ⟨x, _, dx, _, .ref tr, rfl, x5, T.K_Network.ic.cl, T.a_Network_rows, by rw [lookup_putF, if_neg (by decide +kernel), lookup_putF, if_pos rfl], ?_⟩
          walk_at "s"
          refine ⟨tr, yr, rfl, .inl (.inl k5), ?_⟩
          have lyr := Paired.length pr6
          have hin : ∀ i y, yr[i]? = some y → ∃ b, y = .ref b ∧ SqT K H5 b ((rowN rows' i).map V.int) := fun i y hy => by
            obtain ⟨r, hr1, t, h1, h2⟩ := paired_get2 pr6 hy
            refine ⟨t, h1, .inl (.inl ?_)⟩
            have : rowN rows' i = r := by
              unfold rowN
              rw [List.getD_eq_getElem?_getD, hr1]
              rfl
            rw [this]
            exact h2
          have szr : ∀ i, (rowN rows' i).length ≤ 4 := fun i => by
            rw [(sorted_row so i).1.length_eq]
            unfold rowsD at hr2
            split at hr2
            · exact goR_sz hr2 (fun i => by rw [rep_row]; exact Nat.zero_le _) i
            · cases hr2
          have lnr : rows'.length ≤ 1000 := by
            have h1 := Paired.length so
            unfold rowsD at hr2
            split at hr2
            · have h2 := goR_len hr2
              rw [List.length_replicate] at h2
              omega
            · cases hr2
          have keys : (List.range yr.length).flatMap (fun i => (((rowN rows' i).map V.int).filter (gtV i)).map (fun z => ((i : Int), intV z))) = linksOf rows' := by
            unfold linksOf
            rw [← lyr]
            congr 1
            funext i
            exact lrow_V rows' i
          refine lc2_ET (fun z y H' => PairAt H' z y) (fun i => (rowN rows' i).map V.int) gtV (fun i z => ((i : Int), intV z)) (.inl (.inl k5)) ?_ hin (fun _ _ => rfl) (fun _ _ => rfl) (fun _ _ _ => rfl) (fun D _ => pair_mono) (fun i y z hy hz2 H6 e6 Q' q' => ?_) (fun i y z hy hz2 hp H6 e6 Q' q' => ?_) (fun D H6 L => ?_)
          · rw [keys]
            refine lt_size (Nat.le_trans (?_ : (linksOf rows').length ≤ rows'.length * 4) (by omega))
            unfold linksOf
            generalize rows'.length = m
            induction m with
            | zero => exact Nat.le_refl _
            | succ m ih =>
              rw [List.range_succ, List.flatMap_append, List.length_append]
              have : (lrow rows' m).length ≤ 4 := by
                unfold lrow
                rw [List.length_map]
                exact Nat.le_trans (List.length_filter_le _ _) (szr m)
              simp only [List.flatMap_cons, List.flatMap_nil, List.append_nil]
              omega
          · obtain ⟨o, _, rfl⟩ := List.mem_map.mp hz2
            walk_at "s"
            exact q'
          · obtain ⟨o, _, rfl⟩ := List.mem_map.mp hz2
            walk_at "s"
            refine ⟨show 2 ≤ sizeLine by decide +kernel, fun p np => ?_⟩
            exact q' _ _ (Same.newT np) ⟨p, rfl, upd_same⟩
          · rw [keys] at L
            obtain ⟨_, sm, yl, eD, prl⟩ := L
            walk_at "s"
            refine seq_tuple (.inl (SqL.of eD)) (fun tl H7 e7 Sl => ?_)
            walk_at "s"
            have e67 := Same.trans sm e7
            have x7 := e67 _ _ x5
            refine ⟨x, _, dx, _, rfl, x7, T.K_Network.ic.cl, T.a_Network_links, putF_lt (n := 999) (putF_lt (n := 998) (by decide)), ?_⟩
            refine q rows' _ (Same.putT (Same.trans e5' e67) nx) so ⟨dx, _, tr, tm, tl, yr, yl, upd_same, ?_, ?_, ?_, ins_tup x7 (e67 _ _ k5), ?_, ?_, ins_sqT x7 Sl, ?_⟩
            · rw [lookup_putF, if_neg (by decide +kernel), lookup_putF, if_neg (by decide +kernel), lookup_putF, if_pos rfl]
            · rw [lookup_putF, if_neg (by decide +kernel), lookup_putF, if_pos rfl]
            · rw [lookup_putF, if_pos rfl]
            · exact Paired.mapP pr6 fun r y h => by
                obtain ⟨t, h1, h2⟩ := h
                exact ⟨t, h1, ins_tup x7 (e67 _ _ h2)⟩
            · have hxs : xs = (intsOf ds).map V.int := by
                rw [ei] at A1
                exact dp_ints_inv A1
              rw [← hxs]
              exact ins_sqT x7 (same_t e67 m5)
            · exact Paired.mapP prl fun z y h => by
                obtain ⟨t, h1, h2⟩ := h
                exact ⟨t, h1, ins_tup x7 (e7 _ _ h2)⟩
/-- Network(..) -/
theorem ok_Network (T : Txt P K mg AA) : KeptC P w K mg base 6 "Network" AA.Network "Network.__init__" s_Network___init__ ["self", "modes", "links"] (spNet K AA.Network AA.InvalidNetwork) := ⟨T.K_Network, _, ok_Network_init T, net_makes⟩
/-- a network beside another one, or beside a tuple -/
def spNetEq (K : PySem.W.Frag) (C : Addr) : Sp := fun vs H Q _ => ∃ (x : Addr) (y : V) (ms : List Int) (rows : List (List Int)), vs = [.ref x, y] ∧ NetAt K C H x ms rows ∧
  ((∃ y' ms' rows', y = .ref y' ∧ NetAt K C H y' ms' rows' ∧ Q (.bl (decide (ms = ms') && decide (linksOf rows = linksOf rows'))) H) ∨ (∃ y' xs, y = .ref y' ∧ SqT K H y' xs ∧ Q (.bl false) H))
theorem ok_Network_eq (T : Txt P K mg AA) : KeptM P w K mg base CX0 1 AA.Network "__eq__" "Network.__eq__" s_Network___eq__ ["self", "other"] (spNetEq K AA.Network) := by
  refine keepM0 T.m_Network___eq__ sc_Network___eq__ (fun vs H Q E h => ?_) (fun f cdv A outer s H vs Q E hr h => ?_)
  · obtain ⟨x, y, ms, rows, rfl, _⟩ := h
    rfl
  · obtain ⟨x, y, ms, rows, rfl, hx, q⟩ := h
    refine ⟨_, (pss_one (ps_ret (pe_and (pe_callB cIsi (by rfl) T.n_isinstance (by decide +kernel) (pa_cons (pv 1) (pa_cons (pe_glob (v := .ref AA.Network) rfl T.c_Network rfl) pa_nil))) (pe_and (pe_cmpR (oEq (ru64 hr)) (pe_fld (pv 0) rfl) (pe_fld (pv 1) rfl) (nomark _)) (pe_one (pe_cmpR (oEq (ru64 hr)) (pe_fld (pv 0) rfl) (pe_fld (pv 1) rfl) (nomark _))))))), ?_⟩
    walk_at "s"
    obtain ⟨dx, fs, tr, tm, tl, yr, yl, h1, h2, h3, h4, h5, h6, h7, h8, h9⟩ := hx.ex
    rcases q with ⟨y', ms', rows', rfl, hy, q⟩ | ⟨y', xs, rfl, St, q⟩
    · obtain ⟨dx', fs', tr', tm', tl', yr', yl', g1, g2, g3, g4, g5, g6, g7, g8, g9⟩ := hy.ex
      have ic := T.K_Network.ic
      refine .inl ⟨_, _, _, _, true, rfl, .own _, .base (.ins g1 ic.cl ic.ha ic.hn ic.htk ic.hm), ic.me, ?_⟩
      walk_at "s"
      refine ⟨x, _, dx, _, .ref tm, rfl, h1, ic.cl, T.a_Network_modes, h3, ?_⟩
      walk_at "s"
      refine ⟨y', _, dx', _, .ref tm', rfl, g1, ic.cl, T.a_Network_modes, g3, ?_⟩
      refine w_eqT h7 g7 ?_
      walk_at "s"
      refine w_iteD (fun e => ?_) (fun e => ?_)
      · rw [decide_eq_true e, Bool.true_and] at q
        walk_at "s"
        refine ⟨x, _, dx, _, .ref tl, rfl, h1, ic.cl, T.a_Network_links, h4, ?_⟩
        walk_at "s"
        refine ⟨y', _, dx', _, .ref tl', rfl, g1, ic.cl, T.a_Network_links, g4, ?_⟩
        refine .inr ⟨.tuple ((linksOf rows).map pD), .tuple ((linksOf rows').map pD), .tup h8 (dp_pairs h9), .tup g8 (dp_pairs g9), shp_pairsT _, shp_pairsT _, ?_⟩
        rw [show PyData.eqv (.tuple ((linksOf rows).map pD)) (.tuple ((linksOf rows').map pD)) = PyData.eqvAll ((linksOf rows).map pD) ((linksOf rows').map pD) from rfl, eqv_pairs]
        exact q
      · rw [decide_eq_false e, Bool.false_and] at q
        walk_at "s"
        exact q
    · refine .inl ⟨_, _, _, _, false, rfl, .own _, ty_t St, T.K_Network.it, ?_⟩
      walk_at "s"
      exact q
end

end K04
set_option maxRecDepth 100000
set_option maxHeartbeats 4000000
set_option pp.maxSteps 300
namespace K04
open PySem L2 NL
local macro_rules | `(tactic| walk_at "s1") => `(tactic| with_reducible first
  | refine w_seq ?_ | refine w_asg ?_ | refine w_drop ?_ | refine w_ret ?_ | refine w_next ?_ | refine w_ifS ?_
  | refine w_c ?_ | refine w_op ?_ | refine w_un ?_ | refine w_test ?_ | refine w_B ?_ | refine w_bl ?_ | refine w_not ?_ | refine w_and ?_ | refine w_or ?_
  | refine w_andV ?_ | refine w_orV ?_ | refine w_notV ?_ | refine w_blP ?_ | refine w_if ?_ | refine w_nil ?_ | refine w_cons ?_ | refine w_call ?_ | refine w_callS ?_ | refine w_callW ?_
  | refine w_cb ?_ | refine w_tup ?_ | refine w_lst ?_ | refine w_par ?_ | refine w_two ?_ | refine w_addI ?_ | refine w_I0 ?_ | refine w_neg ?_ | refine w_eqI ?_ | refine w_neI ?_
  | refine w_absI ?_ | refine w_intI ?_ | refine w_sub ?_ | refine w_bm0 ?_ | refine w_bm ?_ | refine w_iteT ?_ | refine w_iteF ?_ | refine w_iteNF ?_ | refine w_iteNT ?_ | refine w_lcT ?_ | refine w_lcL ?_
  | refine w_ref ?_ | refine w_sl ?_ | refine w_npart ?_ | refine w_part ?_ | refine w_iv ?_ | refine w_rev ?_ | refine w_forL ?_ | refine w_forT ?_ | refine w_forR1 ?_ | refine w_one ?_ | refine w_g ?_
  | refine w_asgT ?_ | refine w_gcons ?_ | refine w_gnil ?_ | refine w_lcR1 ?_ | refine w_sFld ?_ | refine w_fldR ?_ | refine w_forEL ?_ | refine w_forET ?_ | refine w_lc2E ?_
  | refine w_var (by with_unfolding_all rfl) ?_)
local macro_rules | `(tactic| walk_at "s") => `(tactic| repeat (walk_at "s1"))

/-! ### the deal -/
section
variable {P : Program} {w : World} {K : PySem.W.Frag} {mg : Str → Option Value} {base : Heap} {AA : Ad}
def absV : V → V
  | .int n => .int (n.natAbs : Nat)
  | x => x
def bigV : V → Bool
  | .int n => decide (10 ^ 18 ≤ n)
  | _ => false
theorem filter_big (ns : List Int) : (ns.map V.int).filter bigV = (ns.filter fun n => decide (10 ^ 18 ≤ n)).map V.int := by
  rw [List.filter_map]
  rfl
theorem ok__law_draw (T : Txt P K mg AA) : Kept P w K mg base CX0 1 "_law_draw" s__law_draw ["_law_script", "_law_salt"] (spDraw K) := by
  refine keep0 T.d__law_draw sc__law_draw (fun vs H Q E h => ?_) (fun f cdv A outer s H vs Q E hr h => ?_)
  · obtain ⟨p, ns, z, rfl, _⟩ := h
    rfl
  · obtain ⟨p, ns, z, rfl, S, z0, z1, q⟩ := h
    refine ⟨_, (pss_cons (ps_setLc (i := 2) (own := [("_law_cell", 3)]) (g := gName 3) (tt := tYes) (by rfl) sc__law_draw.nd rfl rfl (sw_true rfl rfl rfl (by decide +kernel)) (pi_list (pe_slice sl_any (pv 0) po_none (po_some pe_int))) (blkOk_by (own := [("_law_cell", 3)]) (N := ["_law_script", "_law_salt", "_law_cells", "_law_cell", "_law_blend"]) (sc := defScope s__law_draw) (by decide +kernel)) (fun _ _ _ _ _ => (pg_name (i := 3) sc__law_draw.nd rfl (by first | exact Or.inl rfl | exact Or.inr rfl))) (fun _ _ _ _ _ => pts_nil) (fun _ _ _ _ _ => (pe_callB cAbs (by rfl) T.n_abs (by decide +kernel) (pa_cons (pe_callTy cInt (by rfl) T.n_int (by decide +kernel) (pa_cons (pv 3) pa_nil)) pa_nil))))
      (pss_cons (ps_asg (pe_op oAdd pe_int (pe_op oMul pe_int (pv 1))) (pg_name (i := 4) sc__law_draw.nd rfl (by first | exact Or.inl rfl | exact Or.inr rfl)))
      (pss_cons (ps_for PassesOwn.never rfl (pi_list (pv 2)) (pg_name (i := 3) sc__law_draw.nd rfl (by first | exact Or.inl rfl | exact Or.inr rfl))
        (pss_one (ps_asg (pe_op oMod (pe_callTy cInt (by rfl) T.n_int (by decide +kernel) (pa_cons (pe_op oAdd (pe_op oAdd (pe_op oMul (pv 4) pe_int) (pe_op oMod (pv 3) pe_int)) pe_int) pa_nil)) pe_int) (pg_name (i := 4) sc__law_draw.nd rfl (by first | exact Or.inl rfl | exact Or.inr rfl)))))
      (pss_one (ps_ret (pe_lst (pa_cons (pe_revL (pe_lc (own := [("_law_cell", 3)]) (g := gName 3) (by rfl) sc__law_draw.nd (pi_list (pv 2)) (blkOk_by (own := [("_law_cell", 3)]) (N := ["_law_script", "_law_salt", "_law_cells", "_law_cell", "_law_blend"]) (sc := defScope s__law_draw) (by decide +kernel)) (fun _ _ _ _ _ => (pg_name (i := 3) sc__law_draw.nd rfl (by first | exact Or.inl rfl | exact Or.inr rfl))) (fun _ _ _ _ _ => (pts_one (pt_cmpR op_ge (pv 3) (pe_op oPow pe_int pe_int) (nomark _)))) (fun _ _ _ _ _ => (pv 3)))) (pa_cons (pv 4) pa_nil)))))))), ?_⟩
    walk_at "s"
    refine w_slL S (fun p1 n1 => ?_)
    walk_at "s"
    have e1 : upd H p1 (.lst (cutV (ns.map V.int) none (some 48))) p1 = some (.lst ((ns.take 48).map V.int)) := by
      rw [upd_same, show cutV (ns.map V.int) none (some 48) = _ from cut_to _ 48, List.map_take]
    have hz : (ns.take 48).length ≤ 48 := List.length_take_le _ _
    have S1 := SqL.of (K := K) e1
    refine ⟨⟨_, S1⟩, ?_⟩
    refine lc_lst_rel (fun x y _ => y = absV x) (fun _ => true) S1 (by rw [List.length_map]; exact Nat.lt_of_le_of_lt hz (by decide +kernel)) (fun _ => rfl) (fun _ _ _ _ _ _ r _ => r) (fun x _ => turn_yes) (fun x hx _ => ?_) (fun D H' L => ?_)
    · intro H1 s1 Q1 q1
      obtain ⟨n, _, rfl⟩ := List.mem_map.mp hx
      walk_at "s"
      rw [abs_nat]
      exact q1 _ _ (Same.refl _) rfl
    rw [filter_true] at L
    obtain ⟨nw, sm, ys, e, pr⟩ := L
    have e2 := paired_eq pr
    subst e2
    rw [List.map_map] at e
    have e : H' D = some (.lst (((ns.take 48).map fun n => (n.natAbs : Int)).map V.int)) := by
      rw [List.map_map]
      exact e
    have hl : ((ns.take 48).map fun n => (n.natAbs : Int)).length ≤ 48 := by
      rw [List.length_map]
      exact hz
    have hp : ∀ n ∈ (ns.take 48).map fun n => (n.natAbs : Int), 0 ≤ n := fun n hn => by
      obtain ⟨m, _, rfl⟩ := List.mem_map.mp hn
      omega
    generalize (ns.take 48).map (fun n => (n.natAbs : Int)) = cs at e hl hp
    have sm1 : Same H H' := (Same.newT n1).trans sm
    clear e1 S1 sm nw hz pr
    walk_at "s"
    refine w_mul (wide_mul (a := 64) (b := 64) (by decide) (by omega) (by decide) (by decide) (by decide)) ?_
    walk_at "s"
    refine ⟨⟨_, SqL.of e⟩, ?_⟩
    refine fgL (xs := cs.map V.int) (fun i σ H1 => H1 = H' ∧ ∃ (v : Option V) (b : Int), σ = [some (.ref p), some (.int z), some (.ref D), v, some (.int b)] ∧ 0 ≤ b ∧ b < 2147483647) ⟨rfl, _, _, rfl, by omega, by omega⟩ ?_ ?_ ?_
    · rintro i σ H1 _ ⟨rfl, _⟩
      exact SqL.of e
    · rintro i x σ H1 hx ⟨rfl, v, b, rfl, b0, b1⟩
      obtain ⟨n, hn, rfl⟩ := List.mem_map.mp (List.mem_of_getElem? hx)
      walk_at "s"
      refine w_mul (wide_mul (a := 64) (b := 64) (by omega) (by decide) (by decide) (by decide) (by decide)) ?_
      walk_at "s"
      refine w_mod (by decide) ?_
      walk_at "s"
      refine w_mod (by decide) ?_
      walk_at "s"
      exact ⟨rfl, _, _, rfl, Int.fmod_nonneg_of_pos _ (by decide), Int.fmod_lt_of_pos _ (by decide)⟩
    · rintro σ H1 ⟨rfl, v, b, rfl, b0, b1⟩
      walk_at "s"
      refine ⟨⟨_, SqL.of e⟩, ?_⟩
      refine lc_lst_rel (fun x y _ => y = x) bigV (SqL.of e) (by rw [List.length_map]; exact Nat.lt_of_le_of_lt hl (by decide +kernel)) (fun _ => rfl) (fun _ _ _ _ _ _ r _ => r) (fun x hx => ?_) (fun x hx _ => ?_) (fun D2 H2 L => ?_)
      · intro H1 s1 Q1 q1
        obtain ⟨n, _, rfl⟩ := List.mem_map.mp hx
        walk_at "s"
        refine w_pow ⟨by decide, by decide, by decide⟩ ?_
        walk_at "s"
        exact q1 _ (Same.refl _)
      · intro H1 s1 Q1 q1
        walk_at "s"
        exact q1 _ _ (Same.refl _) rfl
      rw [filter_big] at L
      obtain ⟨nw, sm, ys, e3, pr⟩ := L
      have e2 : ys = _ := (paired_eq (f := fun x => x) pr).trans (List.map_id _)
      subst e2
      refine ⟨D2, _, rfl, SqL.of e3, fun l nl => ?_⟩
      walk_at "s"
      refine ⟨show 2 ≤ sizeLine by decide +kernel, fun a na => ?_⟩
      have ne : l ≠ a := fun z => by
        subst z
        rw [upd_same] at na
        cases na
      have nl' : H l = none := none_same (sm1.trans sm) nl
      have na' : H2 a = none := by
        rw [upd_ne (Ne.symm ne)] at na
        exact na
      refine q a l _ (none_same (sm1.trans sm) na') nl' ⟨ne, (cs.filter fun n => decide (10 ^ 18 ≤ n)).reverse, b, upd_same, ?_, ?_, ?_, b0, b1⟩ ?_
      · rw [upd_ne ne, upd_same, List.map_reverse]
      · intro n hn
        exact hp n (List.mem_filter.mp (List.mem_reverse.mp hn)).1
      · rw [List.length_reverse]
        exact Nat.le_trans (List.length_filter_le _ _) hl
      · exact Same.putT (Same.putT (Same.trans sm1 sm) nl') (none_same (sm1.trans sm) na')
theorem ok__law_any (T : Txt P K mg AA) : Kept P w K mg base CX0 1 "_law_any" s__law_any ["_law_deal", "_law_bound"] spAny := by
  refine keep0 T.d__law_any sc__law_any (fun vs H Q E h => ?_) (fun f cdv A outer s H vs Q E hr h => ?_)
  · obtain ⟨a, l, n, rfl, _⟩ := h
    rfl
  · obtain ⟨a, l, n, rfl, n0, n1, D, q⟩ := h
    have n2 : n.natAbs < 2 ^ 100 := by omega
    refine ⟨_, (pss_cons (ps_while PassesOwn.never (PW.pt (pw_and (pt_cmpR (oNe (ru64 hr)) (pe_ix ix_seq (pv 0) pe_int (fun _ _ => rfl)) (pe_lst pa_nil) (nomark _)) (pw_and1 (pt_cmpR (oEq (ru64 hr)) (pe_ix ix_seq (pe_ix ix_seq (pv 0) pe_int (fun _ _ => rfl)) (pe_un un_neg pe_int) (fun _ _ => rfl)) pe_int (nomark _))))) (pss_one (ps_expr (pe_bm0 PySem.F.plainAttrs_list PySem.F.slot_list_pop PySem.F.type_list_pop mt_pop (pe_ix ix_seq (pv 0) pe_int (fun _ _ => rfl))))))
      (pss_cons (ps_if (pt_cmpR (oNe (ru64 hr)) (pe_ix ix_seq (pv 0) pe_int (fun _ _ => rfl)) (pe_lst pa_nil) (nomark _))
        (pss_cons (ps_asg (pe_callTy cInt (by rfl) T.n_int (by decide +kernel) (pa_cons (pe_bm0 PySem.F.plainAttrs_list PySem.F.slot_list_pop PySem.F.type_list_pop mt_pop (pe_ix ix_seq (pv 0) pe_int (fun _ _ => rfl))) pa_nil)) (pg_name (i := 2) sc__law_any.nd rfl (by first | exact Or.inl rfl | exact Or.inr rfl)))
      (pss_cons (ps_expr (pe_bm PySem.F.plainAttrs_list PySem.F.slot_list_append PySem.F.type_list_append mt_append (pe_ix ix_seq (pv 0) pe_int (fun _ _ => rfl)) (pa_cons (pe_op oDiv (pv 2) (pv 1)) pa_nil)))
      (pss_one (ps_ret (pe_op oMod (pv 2) (pv 1)))))) pss_nil)
      (pss_cons (ps_asg (pe_op oMod (pe_callTy cInt (by rfl) T.n_int (by decide +kernel) (pa_cons (pe_op oAdd (pe_op oMul (pe_ix ix_seq (pv 0) pe_int (fun _ _ => rfl)) pe_int) pe_int) pa_nil)) pe_int) (pg_sub (pv 0) pe_int set_list))
      (pss_one (ps_ret (pe_op oMod (pe_callTy cInt (by rfl) T.n_int (by decide +kernel) (pa_cons (pe_op oDiv (pe_ix ix_seq (pv 0) pe_int (fun _ _ => rfl)) pe_int) pa_nil)) (pv 1))))))), ?_⟩
    walk_at "s"
    obtain ⟨ne, ns, b, e1, e2, hp, hl, b0, b1⟩ := D
    refine w_while (m := ns.length) (fun m σ H' => Fr a l H H' ∧ ∃ (ns' : List Int) (v : Option V), σ = [some (.ref a), some (.int n), v] ∧ m = ns'.length ∧ H' a = some (.lst [.ref l, .int b]) ∧
      H' l = some (.lst (ns'.map V.int)) ∧ (∀ n ∈ ns', 0 ≤ n) ∧ ns'.length ≤ 48) ⟨Fr.refl, ns, none, rfl, rfl, e1, e2, hp, hl⟩ ?_
    rintro m σ H' ⟨fr, ns, v, rfl, rfl, e1, e2, hp, hl⟩
    clear hr
    walk_at "s"
    refine w_ixL (SqL.of e1) rfl ?_
    walk_at "s"
    refine ⟨by decide +kernel, fun t1 nt1 => ?_⟩
    have ne1 : a ≠ t1 := ne_of_none e1 nt1
    have ne2 : l ≠ t1 := ne_of_none e2 nt1
    have f1 : upd H' t1 (.lst []) a = some (.lst [.ref l, .int b]) := by rw [upd_ne ne1]; exact e1
    have f2 : upd H' t1 (.lst []) l = some (.lst (ns.map V.int)) := by rw [upd_ne ne2]; exact e2
    have fr1 := fr.newT (o := .lst []) nt1
    refine w_neL (ns := ns) (ms := []) (SqL.of f2) (SqL.of upd_same) ?_
    generalize upd H' t1 (.lst []) = H1 at f1 f2 fr1
    clear e1 e2 fr nt1 ne1 ne2
    walk_at "s"
    refine w_iteN (fun h0 => ?_) (fun h0 => ?_)
    · walk_at "s"
      refine w_ixL (SqL.of f1) rfl ?_
      walk_at "s"
      refine w_ixL (SqL.of f2) (at_last h0) ?_
      walk_at "s"
      refine w_iteD (fun h1 => ?_) (fun h1 => ?_)
      · refine w_go ?_
        walk_at "s"
        refine w_ixL (SqL.of f1) rfl ?_
        refine w_pop f2 (get_last h0) ?_
        have hn : ns.length - 1 < ns.length := by
          have := List.length_pos_iff.mpr h0
          omega
        refine ⟨_, hn, fr1.updL, ns.dropLast, v, rfl, List.length_dropLast.symm, ?_, ?_, fun n hn => hp n (mem_drop_last hn), ?_⟩
        · rw [upd_ne (Ne.symm ne)]
          exact f1
        · rw [upd_same, map_drop_last]
        · rw [List.length_dropLast]
          omega
      · walk_at "s"
        refine w_ixL (SqL.of f1) rfl ?_
        walk_at "s"
        refine ⟨by decide +kernel, fun t1 nt1 => ?_⟩
        have ne1 : a ≠ t1 := ne_of_none f1 nt1
        have ne2 : l ≠ t1 := ne_of_none f2 nt1
        have g1 : upd H1 t1 (.lst []) a = some (.lst [.ref l, .int b]) := by rw [upd_ne ne1]; exact f1
        have g2 : upd H1 t1 (.lst []) l = some (.lst (ns.map V.int)) := by rw [upd_ne ne2]; exact f2
        have fr2 := fr1.newT (o := .lst []) nt1
        refine w_neL (ns := ns) (ms := []) (SqL.of g2) (SqL.of upd_same) ?_
        generalize upd H1 t1 (.lst []) = H2 at g1 g2 fr2
        clear f1 f2 fr1 nt1 ne1 ne2
        walk_at "s"
        refine w_iteN (fun _ => ?_) (fun z => absurd z h0)
        walk_at "s"
        refine w_ixL (SqL.of g1) rfl ?_
        refine w_pop g2 (get_last h0) ?_
        walk_at "s"
        have r0 := hp _ (last_mem h0)
        generalize ns.getLast h0 = r at r0 h1
        have k1 : upd H2 l (.lst (ns.map V.int).dropLast) a = some (.lst [.ref l, .int b]) := by rw [upd_ne (Ne.symm ne)]; exact g1
        refine w_ixL (SqL.of k1) rfl ?_
        walk_at "s"
        refine ⟨tyL upd_same, ?_⟩
        walk_at "s"
        refine w_divP n0 n2 (by decide) (by decide) ?_
        walk_at "s"
        refine w_append upd_same (by rw [map_drop_last, List.length_map, List.length_dropLast]; exact Nat.lt_of_le_of_lt (Nat.le_trans (Nat.sub_le _ _) hl) (by decide +kernel)) ?_
        walk_at "s"
        refine w_mod (by omega) ?_
        refine q _ _ (Int.fmod_nonneg_of_pos _ n0) (Int.fmod_lt_of_pos _ n0) ⟨ne, ns.dropLast ++ [r / n], b, ?_, ?_, ?_, ?_, b0, b1⟩ fr2.updL.updL
        · rw [upd_ne (Ne.symm ne), upd_ne (Ne.symm ne)]
          exact g1
        · rw [upd_same, map_drop_last, List.map_append]
          rfl
        · intro x hx
          rcases List.mem_append.mp hx with hx | hx
          · exact hp x (mem_drop_last hx)
          · rw [List.mem_singleton.mp hx]
            exact Int.ediv_nonneg r0 (by omega)
        · have := List.length_pos_iff.mpr h0
          rw [List.length_append, List.length_dropLast]
          show ns.length - 1 + 1 ≤ 48
          omega
    · subst h0
      walk_at "s"
      refine w_ixL (SqL.of f1) rfl ?_
      walk_at "s"
      refine ⟨by decide +kernel, fun t1 nt1 => ?_⟩
      have ne1 : a ≠ t1 := ne_of_none f1 nt1
      have ne2 : l ≠ t1 := ne_of_none f2 nt1
      have g1 : upd H1 t1 (.lst []) a = some (.lst [.ref l, .int b]) := by rw [upd_ne ne1]; exact f1
      have g2 : upd H1 t1 (.lst []) l = some (.lst []) := by rw [upd_ne ne2]; exact f2
      have fr2 := fr1.newT (o := .lst []) nt1
      refine w_neL (ns := []) (ms := []) (SqL.of g2) (SqL.of upd_same) ?_
      generalize upd H1 t1 (.lst []) = H2 at g1 g2 fr2
      clear f1 f2 fr1 nt1 ne1 ne2
      walk_at "s"
      refine w_iteN (fun z => absurd rfl z) (fun _ => ?_)
      walk_at "s"
      refine w_ixL (SqL.of g1) rfl ?_
      refine w_mul (wide_mul (a := 64) (b := 64) (by omega) (by decide) (by decide) (by decide) (by decide)) ?_
      walk_at "s"
      refine w_mod (by decide) ?_
      walk_at "s"
      refine w_setL g1 rfl ?_
      walk_at "s"
      have k1 : upd H2 a (.lst ([V.ref l, V.int b].set 1 (.int ((b * 40693 + 71).fmod 2147483647)))) a = some (.lst [.ref l, .int ((b * 40693 + 71).fmod 2147483647)]) := upd_same
      refine w_ixL (SqL.of k1) rfl ?_
      refine w_divP (b := 10) (by decide) (by decide) (by decide) (by decide) ?_
      walk_at "s"
      refine w_mod (by omega) ?_
      refine q _ _ (Int.fmod_nonneg_of_pos _ n0) (Int.fmod_lt_of_pos _ n0) ⟨ne, [], _, k1, ?_, hp, hl, Int.fmod_nonneg_of_pos _ (by decide), Int.fmod_lt_of_pos _ (by decide)⟩ fr2.updA
      rw [upd_ne ne]
      exact g2
theorem ok__law_of (T : Txt P K mg AA) : Kept P w K mg base CX0 2 "_law_of" s__law_of ["_law_deal", "_law_some"] (spOf K) := by
  have O__law_any := ok__law_any (w := w) (base := base) T
  refine keep0 T.d__law_of sc__law_of (fun vs H Q E h => ?_) (fun f cdv A outer s H vs Q E hr h => ?_)
  · obtain ⟨a, l, p, xs, rfl, _⟩ := h
    rfl
  · obtain ⟨a, l, p, xs, rfl, D, S, e1, e2, h1, h2, q⟩ := h
    refine ⟨_, (pss_one (ps_ret (pe_ix ix_seq (pv 1) (pk_call O__law_any (hr.mono (by decide)) (pa_cons (pv 0) (pa_cons (pe_callB cLen (by rfl) T.n_len PySem.boot_len (pa_cons (pv 1) pa_nil)) pa_nil))) (fun _ _ => rfl)))), ?_⟩
    walk_at "s"
    refine w_lenL S ?_
    walk_at "s"
    refine ⟨a, l, xs.length, rfl, by omega, by omega, D, fun r H' r0 r1 D' fr => ?_⟩
    have hr' : r.toNat < xs.length := by omega
    refine w_ixL (v := xs[r.toNat]) (fr.sqL S e1 e2) ?_ ?_
    · unfold atI ixN
      rw [if_pos r0, if_pos r1]
      show xs[r.toNat]? = _
      exact List.getElem?_eq_getElem hr'
    · exact q _ (List.getElem_mem hr') _ D' fr
end

/-! ### _law_refused: what an error of the class InvalidNetwork bears -/
theorem w_tref {K : PySem.W.Frag} {H : Hp} {Q : VK} {CQ CN : Addr} {tl : XK → Hp → VK → Prop} (h : tl (fun cls d H' => ∃ (C dd : Addr) (v : V), cls = .ref C ∧ d = some dd ∧ Heard K C CQ CN ∧ H' dd = some (.xd [("at", v)]) ∧ Q v H') H fun _ H' => Q .non H') : TRef K CQ CN tl H Q := h
theorem gv__law_refused {X : Cx} {AA : Ad} {q : Str} {g : Addr} {cdg : Value} (T : Txt X.prog X.K X.mg AA) :
    LamX.GivesTo X ["_law_work", "e"] "_law_refused" (defScope s__law_refused) g cdg (defBody s__law_refused) "_law_work" q (TRef X.K AA.InvalidNetwork AA.NetError) := by
  intro f c' s H Q tl act hc h
  refine ⟨_, pss_cons (ps_try_as (i := 1) (tb := fun W => tAct 2 f c' q tl W) (Wout := fun _ _ _ _ => False) rfl rfl sc__law_refused.nd rfl rfl ⟨rfl, by decide, Or.inl T.c_InvalidNetwork⟩ LamX.takes0
    (fun W pn xe tk _ => pss_act act tk)
    (fun a oe cls d pn hz hf => pss_one (ps_ret (pe_ifExp (pt_val (pe_callB (call_isErr hz hf) rfl T.n_isinstance (by decide +kernel) (pa_cons (pv 1) (pa_cons (pe_glob (v := .ref AA.NetError) rfl T.c_NetError rfl) pa_nil)))) (pe_at hz hf (pv 1)) pe_non))))
    (pss_one (ps_ret pe_non)), ?_⟩
  refine ⟨_, ?_, rfl, hc, h⟩
  rintro cls d σ' H' hl ⟨C, dd, v, rfl, rfl, he, hd, qv⟩
  match σ', hl with
  | [x0, x1], _ =>
  refine ⟨true, he.yes, fun _ a na => ?_, fun z => Bool.noConfusion z⟩
  walk_at "s"
  refine ⟨C, .ref AA.NetError, .ref AA.NetError, true, rfl, rfl, he.ec, fun u r => r, he.isn, .inr ⟨dd, _, rfl, hd⟩, ?_⟩
  walk_at "s"
  refine ⟨_, rfl, rfl, C, dd, v, rfl, rfl, he.ec, he.noAt, hd, qv⟩

end K04
set_option maxRecDepth 100000
set_option maxHeartbeats 4000000
set_option pp.maxSteps 300
namespace K04
open PySem L2 NL
local macro_rules | `(tactic| walk_at "s1") => `(tactic| with_reducible first
  | refine w_seq ?_ | refine w_asg ?_ | refine w_drop ?_ | refine w_ret ?_ | refine w_next ?_ | refine w_ifS ?_
  | refine w_c ?_ | refine w_op ?_ | refine w_un ?_ | refine w_test ?_ | refine w_B ?_ | refine w_bl ?_ | refine w_not ?_ | refine w_and ?_ | refine w_or ?_
  | refine w_andV ?_ | refine w_orV ?_ | refine w_notV ?_ | refine w_blP ?_ | refine w_if ?_ | refine w_nil ?_ | refine w_cons ?_ | refine w_call ?_ | refine w_callS ?_ | refine w_callW ?_
  | refine w_cb ?_ | refine w_tup ?_ | refine w_lst ?_ | refine w_par ?_ | refine w_two ?_ | refine w_addI ?_ | refine w_I0 ?_ | refine w_neg ?_ | refine w_eqI ?_ | refine w_neI ?_
  | refine w_absI ?_ | refine w_intI ?_ | refine w_sub ?_ | refine w_bm0 ?_ | refine w_bm ?_ | refine w_iteT ?_ | refine w_iteF ?_ | refine w_iteNF ?_ | refine w_iteNT ?_ | refine w_lcT ?_ | refine w_lcL ?_
  | refine w_ref ?_ | refine w_sl ?_ | refine w_npart ?_ | refine w_part ?_ | refine w_iv ?_ | refine w_rev ?_ | refine w_forL ?_ | refine w_forT ?_ | refine w_forR1 ?_ | refine w_one ?_ | refine w_g ?_
  | refine w_asgT ?_ | refine w_gcons ?_ | refine w_gnil ?_ | refine w_lcR1 ?_ | refine w_sFld ?_ | refine w_fldR ?_ | refine w_forEL ?_ | refine w_forET ?_ | refine w_lc2E ?_
  | refine w_var (by with_unfolding_all rfl) ?_)
local macro_rules | `(tactic| walk_at "s") => `(tactic| repeat (walk_at "s1"))

/-! ### _law_links -/
def deg (zs : List (Int × Int)) (v : Int) : Nat := (zs.filter fun z => z.1 == v || z.2 == v).length
def mnI (i j : Int) : Int := if j < i then j else i
def mxI (i j : Int) : Int := if j > i then j else i
def addL (n : Nat) (zs : List (Int × Int)) (one st : Nat) : List (Int × Int) :=
  if ¬ ((one : Int) = (((one + st) % n : Nat) : Int)) ∧ ¬ ((mnI one ((one + st) % n : Nat), mxI one ((one + st) % n : Nat)) ∈ zs) then zs ++ [(mnI one ((one + st) % n : Nat), mxI one ((one + st) % n : Nat))] else zs
def ringIn (n : Nat) (zs : List (Int × Int)) (one : Nat) (ss : List Nat) : List (Int × Int) := ss.foldl (fun zs s => addL n zs one s) zs
def ringTo (n : Nat) (ss : List Nat) (i : Nat) : List (Int × Int) := (List.range i).foldl (fun zs one => ringIn n zs one ss) []
def stepsOf (f n : Nat) : List Nat := match f with
  | 0 => [1]
  | 1 => [1]
  | 2 => [1, 2]
  | 3 => [1, n / 2]
  | _ => []
/-- links as they may be drawn -/
structure LinksOK (n : Nat) (zs : List (Int × Int)) : Prop where
  rng : ∀ z ∈ zs, 0 ≤ z.1 ∧ z.1 < z.2 ∧ z.2 < (n : Int)
  nd : zs.Nodup
  dg : ∀ v : Nat, v < n → deg zs v ≤ 4
def linksB (n : Nat) (zs : List (Int × Int)) : Bool := zs.all (fun z => decide (0 ≤ z.1) && decide (z.1 < z.2) && decide (z.2 < (n : Int))) && decide zs.Nodup && (List.range n).all fun v => decide (deg zs v ≤ 4)
theorem links_ok {n : Nat} {zs : List (Int × Int)} (h : linksB n zs = true) : LinksOK n zs := by
  unfold linksB at h
  rw [Bool.and_eq_true, Bool.and_eq_true, List.all_eq_true, List.all_eq_true] at h
  refine ⟨fun z hz => ?_, of_decide_eq_true h.1.2, fun v hv => of_decide_eq_true (h.2 v (List.mem_range.mpr hv))⟩
  have := h.1.1 z hz
  rw [Bool.and_eq_true, Bool.and_eq_true, decide_eq_true_eq, decide_eq_true_eq, decide_eq_true_eq] at this
  exact ⟨this.1.1, this.1.2, this.2⟩
theorem rings_ok : ((List.range 10).all fun n => (List.range 4).all fun f => n == 0 || linksB n (ringTo n (stepsOf f n) n)) = true := by decide +kernel
theorem ring_ok {n f : Nat} (h1 : 1 ≤ n) (h9 : n ≤ 9) (hf : f < 4) : LinksOK n (ringTo n (stepsOf f n) n) := by
  have h := rings_ok
  rw [List.all_eq_true] at h
  have h := h n (List.mem_range.mpr (by omega))
  rw [List.all_eq_true] at h
  have h := h f (List.mem_range.mpr hf)
  rw [Bool.or_eq_true] at h
  rcases h with h | h
  · have : n = 0 := by simpa using h
    omega
  · exact links_ok h
theorem ringTo_nil (n : Nat) : ∀ i, ringTo n [] i = []
  | 0 => rfl
  | i + 1 => by
    unfold ringTo
    rw [List.range_succ, List.foldl_append]
    show ringIn n (ringTo n [] i) i [] = []
    rw [ringTo_nil n i]
    rfl
theorem ringTo_succ (n : Nat) (ss : List Nat) (i : Nat) : ringTo n ss (i + 1) = ringIn n (ringTo n ss i) i ss := by
  unfold ringTo
  rw [List.range_succ, List.foldl_append]
  rfl
theorem addL_len (n : Nat) (zs : List (Int × Int)) (one st : Nat) : (addL n zs one st).length ≤ zs.length + 1 := by
  unfold addL
  split
  · rw [List.length_append]
    exact Nat.le_refl _
  · exact Nat.le_succ _
theorem ringIn_len (n : Nat) (one : Nat) : ∀ (ss : List Nat) (zs : List (Int × Int)), (ringIn n zs one ss).length ≤ zs.length + ss.length
  | [], zs => Nat.le_refl _
  | s :: ss, zs => by
    have h1 := ringIn_len n one ss (addL n zs one s)
    have h2 := addL_len n zs one s
    show (ringIn n (addL n zs one s) one ss).length ≤ _
    rw [List.length_cons]
    omega
theorem ringTo_len (n : Nat) (ss : List Nat) : ∀ i, (ringTo n ss i).length ≤ i * ss.length
  | 0 => Nat.zero_le _
  | i + 1 => by
    have h1 := ringTo_len n ss i
    have h2 := ringIn_len n i ss (ringTo n ss i)
    rw [ringTo_succ, Nat.succ_mul]
    omega
theorem any_pairs (z : Int × Int) : ∀ zs : List (Int × Int), ((zs.map pD).any fun d => PyData.eqv d (pD z)) = decide (z ∈ zs)
  | [] => by simp
  | w :: ws => by
    show (PyData.eqv (pD w) (pD z) || (ws.map pD).any fun d => PyData.eqv d (pD z)) = _
    rw [any_pairs z ws, eqv_pair]
    by_cases h : w = z
    · subst h
      simp
    · have h3 : ¬ z = w := fun q => h q.symm
      by_cases h2 : z ∈ ws <;> simp [h, h2, h3]
theorem shp_pair (z : Int × Int) : SeqAt.shaped (pD z) = true := rfl
theorem w_ninP {K : PySem.W.Frag} {H : Hp} {Q : VK} {x : V} {L : Addr} {z : Int × Int} {zs : List (Int × Int)} {ys : List V} (hx : PairAt H z x) (S : SqL K H L ys) (pr : Paired (fun z y => PairAt H z y) zs ys) (q : Q (.bl (!decide (z ∈ zs))) H) : aNin K x (.ref L) H Q :=
  ⟨pD z, zs.map pD, dp_pair hx, .lst S (dp_pairs pr), shp_pair z, shp_pairsL zs, by rw [any_pairs]; exact q⟩
theorem LinksOK.perm {n : Nat} {zs ws : List (Int × Int)} (h : LinksOK n zs) (p : ws.Perm zs) : LinksOK n ws :=
  ⟨fun z hz => h.rng z (p.mem_iff.mp hz), p.nodup_iff.mpr h.nd, fun v hv => by
    unfold deg
    rw [(p.filter _).length_eq]
    exact h.dg v hv⟩
/-- a pair read -/
def pairV (H : Hp) : V → Int × Int
  | .ref t => match H t with
    | some (.tup [.int i, .int j]) => (i, j)
    | _ => (0, 0)
  | _ => (0, 0)
theorem pairV_at {H : Hp} {t : Addr} {i j : Int} (h : H t = some (.tup [.int i, .int j])) : pairV H (.ref t) = (i, j) := by
  show (match H t with | some (.tup [.int i, .int j]) => (i, j) | _ => (0, 0)) = _
  rw [h]
theorem paired_map {α γ : Type} {F : α → γ → Prop} {g : γ → α} : ∀ {l : List γ}, (∀ y ∈ l, F (g y) y) → Paired F (l.map g) l
  | [], _ => .nil
  | y :: l, h => .cons (h y List.mem_cons_self) (paired_map fun z hz => h z (List.mem_cons_of_mem _ hz))
/-- the test of a link -/
def inP (H : Hp) (v : Int) : V → Bool
  | .ref t => match H t with
    | some (.tup xs) => inV (.int v) xs
    | _ => false
  | _ => false
theorem inP_at {H : Hp} {t : Addr} {xs : List V} {v : Int} (h : H t = some (.tup xs)) : inP H v (.ref t) = inV (.int v) xs := by
  show (match H t with | some (.tup xs) => inV (.int v) xs | _ => false) = _
  rw [h]
theorem inV_two (v i j : Int) : inV (.int v) [.int i, .int j] = (i == v || j == v) := by
  show ((i == v) || ((j == v) || false)) = _
  rw [Bool.or_false]
theorem deg_len {H : Hp} {v : Int} : ∀ {zs : List (Int × Int)} {ys : List V}, Paired (fun z y => PairAt H z y) zs ys → (ys.filter (inP H v)).length = deg zs v
  | _, _, .nil => rfl
  | z :: zs, _, .cons h p => by
    obtain ⟨t, rfl, h⟩ := h
    have ih := deg_len (v := v) p
    unfold deg at ih ⊢
    rw [List.filter_cons, List.filter_cons, inP_at h, inV_two]
    cases hb : (z.1 == v || z.2 == v)
    · rw [if_neg Bool.false_ne_true, if_neg Bool.false_ne_true]
      exact ih
    · rw [if_pos rfl, if_pos rfl, List.length_cons, List.length_cons, ih]
theorem deg_le (zs : List (Int × Int)) (v : Int) : deg zs v ≤ zs.length := List.length_filter_le _ _
theorem deg_app (zs : List (Int × Int)) (z : Int × Int) (v : Int) : deg (zs ++ [z]) v = deg zs v + (if z.1 == v || z.2 == v then 1 else 0) := by
  unfold deg
  rw [List.filter_append, List.length_append]
  cases hb : (z.1 == v || z.2 == v)
  · rw [List.filter_cons, hb]
    rfl
  · rw [List.filter_cons, hb]
    rfl
theorem sum_deg {n : Nat} : ∀ {zs : List (Int × Int)}, (∀ z ∈ zs, 0 ≤ z.1 ∧ z.1 < (n : Int)) → zs.length ≤ ((List.range n).map fun v : Nat => deg zs v).sum
  | [], _ => Nat.zero_le _
  | z :: zs, h => by
    have ih := sum_deg (zs := zs) fun w hw => h w (List.mem_cons_of_mem _ hw)
    obtain ⟨z0, z1⟩ := h z List.mem_cons_self
    obtain ⟨k, hk⟩ : ∃ k : Nat, z.1 = k := ⟨z.1.toNat, by omega⟩
    have kn : k < n := by omega
    have up : ∀ v : Int, deg zs v ≤ deg (z :: zs) v := fun v => by
      unfold deg
      rw [List.filter_cons]
      split
      · exact Nat.le_succ _
      · exact Nat.le_refl _
    have at_ : deg zs k + 1 ≤ deg (z :: zs) k := by
      unfold deg
      rw [List.filter_cons, hk, beq_self_eq_true, Bool.true_or, if_pos rfl]
      exact Nat.le_refl _
    have : ∀ m, k < m → ((List.range m).map fun v : Nat => deg zs v).sum + 1 ≤ ((List.range m).map fun v : Nat => deg (z :: zs) v).sum := by
      intro m
      induction m with
      | zero => intro h; omega
      | succ m ihm =>
        intro hm
        rw [List.range_succ, List.map_append, List.map_append, List.sum_append, List.sum_append]
        simp only [List.map_cons, List.map_nil, List.sum_cons, List.sum_nil, Nat.add_zero]
        by_cases e : k = m
        · subst e
          have le : ∀ m, ((List.range m).map fun v : Nat => deg zs v).sum ≤ ((List.range m).map fun v : Nat => deg (z :: zs) v).sum := by
            intro m
            induction m with
            | zero => exact Nat.le_refl _
            | succ m ih2 =>
              rw [List.range_succ, List.map_append, List.map_append, List.sum_append, List.sum_append]
              simp only [List.map_cons, List.map_nil, List.sum_cons, List.sum_nil, Nat.add_zero]
              have := up m
              omega
          have := le k
          omega
        · have := ihm (by omega)
          have := up m
          omega
    have := this n kn
    rw [List.length_cons]
    omega
theorem len_deg {n : Nat} {zs : List (Int × Int)} (h : ∀ z ∈ zs, 0 ≤ z.1 ∧ z.1 < (n : Int)) (d : ∀ v : Nat, v < n → deg zs v ≤ 4) : zs.length ≤ n * 4 := by
  refine Nat.le_trans (sum_deg h) ?_
  have : ∀ m, m ≤ n → ((List.range m).map fun v : Nat => deg zs v).sum ≤ m * 4 := by
    intro m
    induction m with
    | zero => intro _; exact Nat.zero_le _
    | succ m ih =>
      intro hm
      rw [List.range_succ, List.map_append, List.sum_append]
      simp only [List.map_cons, List.map_nil, List.sum_cons, List.sum_nil, Nat.add_zero]
      have := ih (by omega)
      have := d m (by omega)
      omega
  exact this n (Nat.le_refl _)
/-- the links drawn link by link, before (one, other) -/
structure RP (n most other one : Nat) (zs : List (Int × Int)) : Prop where
  rng : ∀ z ∈ zs, 0 ≤ z.1 ∧ z.1 < z.2 ∧ z.2 < (n : Int) ∧ (z.2 < (other : Int) ∨ (z.2 = (other : Int) ∧ z.1 < (one : Int)))
  nd : zs.Nodup
  dg : ∀ v : Nat, v < n → deg zs v ≤ most
theorem RP.skip {n most other one : Nat} {zs : List (Int × Int)} (h : RP n most other one zs) : RP n most other (one + 1) zs :=
  ⟨fun z hz => by have := h.rng z hz; omega, h.nd, h.dg⟩
theorem RP.next {n most other : Nat} {zs : List (Int × Int)} (h : RP n most other other zs) : RP n most (other + 1) 0 zs :=
  ⟨fun z hz => by have := h.rng z hz; omega, h.nd, h.dg⟩
theorem RP.put {n most other one : Nat} {zs : List (Int × Int)} (h : RP n most other one zs) (h1 : one < other) (h2 : other < n) (d1 : deg zs one < most) (d2 : deg zs other < most) : RP n most other (one + 1) (zs ++ [((one : Int), (other : Int))]) := by
  refine ⟨fun z hz => ?_, ?_, fun v hv => ?_⟩
  · rcases List.mem_append.mp hz with hz | hz
    · have := h.rng z hz
      omega
    · rw [List.mem_singleton.mp hz]
      exact ⟨show (0 : Int) ≤ one by omega, show (one : Int) < other by omega, show (other : Int) < n by omega, .inr ⟨rfl, show (one : Int) < ((one + 1 : Nat) : Int) by omega⟩⟩
  · rw [List.nodup_append]
    refine ⟨h.nd, by simp, fun x hx y hy => ?_⟩
    rw [List.mem_singleton.mp hy]
    rintro rfl
    obtain ⟨_, _, _, h4⟩ := h.rng _ hx
    rcases h4 with h4 | h4
    · exact absurd h4 (Int.lt_irrefl _)
    · exact absurd h4.2 (Int.lt_irrefl _)
  · rw [deg_app]
    have dv := h.dg v hv
    by_cases e1 : v = one
    · subst e1
      simp only [beq_self_eq_true, Bool.true_or, if_true]
      omega
    · by_cases e2 : v = other
      · subst e2
        simp only [beq_self_eq_true, Bool.or_true, if_true]
        omega
      · have b1 : (((one : Int)) == (v : Int)) = false := by simpa using fun q => e1 (by omega)
        have b2 : (((other : Int)) == (v : Int)) = false := by simpa using fun q => e2 (by omega)
        simp only [b1, b2, Bool.or_self, Bool.false_eq_true, if_false]
        omega
/-- the links drawn so far, at L -/
structure LkAt (a l L : Addr) (H0 H : Hp) (zs : List (Int × Int)) : Prop where
  d : DealAt H a l
  f : Fr a l H0 H
  nL : H0 L = none
  o1 : L ≠ a
  o2 : L ≠ l
  ex : ∃ ys, H L = some (.lst ys) ∧ Paired (fun z y => PairAt H z y) zs ys
section
variable {a l L p : Addr} {H0 H H' : Hp} {zs : List (Int × Int)} {z : Int × Int} {ys : List V}
theorem LkAt.same (h : LkAt a l L H0 H zs) (e : Same H H') : LkAt a l L H0 H' zs := by
  obtain ⟨ys, e1, pr⟩ := h.ex
  exact ⟨h.d.same e, h.f.trans (Fr.same e), h.nL, h.o1, h.o2, ys, e _ _ e1, Paired.mapP pr fun z y q => q.same e⟩
theorem LkAt.draw (h : LkAt a l L H0 H zs) (D : DealAt H' a l) (f : Fr a l H H') : LkAt a l L H0 H' zs := by
  obtain ⟨ys, e1, pr⟩ := h.ex
  refine ⟨D, h.f.trans f, h.nL, h.o1, h.o2, ys, f _ _ e1 h.o1 h.o2, Paired.mapP pr fun z y q => ?_⟩
  obtain ⟨t, q1, q2⟩ := q
  exact ⟨t, q1, h.d.keep f q2 fun _ z => by cases z⟩
theorem LkAt.push (h : LkAt a l L H0 H zs) (k : H p = some (.tup [.int z.1, .int z.2])) (e : H L = some (.lst ys)) (pr : Paired (fun z y => PairAt H z y) zs ys) : LkAt a l L H0 (upd H L (.lst (ys ++ [.ref p]))) (zs ++ [z]) := by
  have far : ∀ {t : Addr} {xs : List V}, H t = some (.tup xs) → upd H L (.lst (ys ++ [.ref p])) t = some (.tup xs) := fun {t xs} q => by
    rw [upd_ne ?_]
    · exact q
    · rintro rfl
      rw [e] at q
      cases q
  refine ⟨h.d.updN h.o1 h.o2, h.f.updN h.nL, h.nL, h.o1, h.o2, _, upd_same, ?_⟩
  refine paired_snoc (Paired.mapP pr fun z y q => ?_) ⟨p, rfl, far k⟩
  obtain ⟨t, q1, q2⟩ := q
  exact ⟨t, q1, far q2⟩
end
section
variable {P : Program} {w : World} {K : PySem.W.Frag} {mg : Str → Option Value} {base : Heap} {AA : Ad}
def spLinks (K : PySem.W.Frag) : Sp := fun vs H Q _ => ∃ (a l : Addr) (n : Nat), vs = [.ref a, .int n] ∧ DealAt H a l ∧ 1 ≤ n ∧ n ≤ 9 ∧
  ∀ (p : Addr) (zs : List (Int × Int)) H', H p = none → LinksOK n zs → zs.Pairwise (fun u v => u.1 < v.1 ∨ (u.1 = v.1 ∧ u.2 < v.2)) → LkAt a l p H H' zs → Q (.ref p) H'
theorem ok__law_links (T : Txt P K mg AA) (O__law_any : Kept P w K mg base CX0 1 "_law_any" s__law_any ["_law_deal", "_law_bound"] spAny) :
    Kept P w K mg base CX0 2 "_law_links" s__law_links ["_law_deal", "_law_many"] (spLinks K) := by
  refine keep0 T.d__law_links sc__law_links (fun vs H Q E h => ?_) (fun f cdv A outer s H vs Q E hr h => ?_)
  · obtain ⟨a, l, n, rfl, _⟩ := h
    rfl
  · obtain ⟨a, l, n, rfl, D, n1, n9, q⟩ := h
    refine ⟨_, (pss_cons (ps_asg (pe_tup (pa_cons (pk_call O__law_any (hr.mono (by decide)) (pa_cons (pv 0) (pa_cons pe_int pa_nil))) (pa_cons (pe_lst pa_nil) (pa_cons (pe_op oAdd pe_int (pk_call O__law_any (hr.mono (by decide)) (pa_cons (pv 0) (pa_cons pe_int pa_nil)))) pa_nil)))) (pg_tup rfl (pgs_cons (pg_name (i := 2) sc__law_links.nd rfl (by first | exact Or.inl rfl | exact Or.inr rfl)) (pgs_cons (pg_name (i := 3) sc__law_links.nd rfl (by first | exact Or.inl rfl | exact Or.inr rfl)) (pgs_cons (pg_name (i := 4) sc__law_links.nd rfl (by first | exact Or.inl rfl | exact Or.inr rfl)) pgs_nil)))))
      (pss_cons (ps_asg (pe_ix ix_seq (pe_lst (pa_cons (pe_lst (pa_cons pe_int pa_nil)) (pa_cons (pe_lst (pa_cons pe_int pa_nil)) (pa_cons (pe_lst (pa_cons pe_int (pa_cons pe_int pa_nil))) (pa_cons (pe_lst (pa_cons pe_int (pa_cons (pe_op oDiv (pv 1) pe_int) pa_nil))) (pa_cons (pe_lst pa_nil) (pa_cons (pe_lst pa_nil) pa_nil))))))) (pv 2) (fun _ _ => rfl)) (pg_name (i := 5) sc__law_links.nd rfl (by first | exact Or.inl rfl | exact Or.inr rfl)))
      (pss_cons (ps_for PassesOwn.never rfl (pi_range1 rfl T.n_range (pa_cons (pv 1) pa_nil)) (pg_name (i := 6) sc__law_links.nd rfl (by first | exact Or.inl rfl | exact Or.inr rfl))
        (pss_one (ps_for PassesOwn.never rfl (pi_list (pv 5)) (pg_name (i := 7) sc__law_links.nd rfl (by first | exact Or.inl rfl | exact Or.inr rfl))
        (pss_cons (ps_asg (pe_op oMod (pe_callTy cInt (by rfl) T.n_int (by decide +kernel) (pa_cons (pe_op oAdd (pv 6) (pv 7)) pa_nil)) (pv 1)) (pg_name (i := 8) sc__law_links.nd rfl (by first | exact Or.inl rfl | exact Or.inr rfl)))
      (pss_one (ps_if (PW.pt (pw_and (pt_cmpR (oNe (ru64 hr)) (pv 6) (pv 8) (nomark _)) (pw_and1 (pt_cmpR (oNin (ru65 hr)) (pe_tup (pa_cons (pe_callB (cMin rfl) (by rfl) T.n_min (by decide +kernel) (pa_cons (pv 6) (pa_cons (pv 8) pa_nil))) (pa_cons (pe_callB (cMax rfl) (by rfl) T.n_max (by decide +kernel) (pa_cons (pv 6) (pa_cons (pv 8) pa_nil))) pa_nil))) (pv 3) rfl))))
        (pss_one (ps_expr (pe_bm PySem.F.plainAttrs_list PySem.F.slot_list_append PySem.F.type_list_append mt_append (pv 3) (pa_cons (pe_tup (pa_cons (pe_callB (cMin rfl) (by rfl) T.n_min (by decide +kernel) (pa_cons (pv 6) (pa_cons (pv 8) pa_nil))) (pa_cons (pe_callB (cMax rfl) (by rfl) T.n_max (by decide +kernel) (pa_cons (pv 6) (pa_cons (pv 8) pa_nil))) pa_nil))) pa_nil)))) pss_nil))))))
      (pss_cons (ps_if (pt_cmpR op_gt (pv 2) pe_int (nomark _))
        (pss_one (ps_for PassesOwn.never rfl (pi_range1 rfl T.n_range (pa_cons (pv 1) pa_nil)) (pg_name (i := 8) sc__law_links.nd rfl (by first | exact Or.inl rfl | exact Or.inr rfl))
        (pss_one (ps_for PassesOwn.never rfl (pi_range1 rfl T.n_range (pa_cons (pv 8) pa_nil)) (pg_name (i := 6) sc__law_links.nd rfl (by first | exact Or.inl rfl | exact Or.inr rfl))
        (pss_cons (ps_setLc (i := 9) (own := [("_law_site", 11)]) (g := gName 11) (tt := tYes) (by rfl) sc__law_links.nd rfl rfl (sw_true rfl rfl rfl (by decide +kernel)) (pi_tup (pe_tup (pa_cons (pv 6) (pa_cons (pv 8) pa_nil)))) (blkOk_by (own := [("_law_site", 11)]) (N := ["_law_deal", "_law_many", "_law_form", "_law_links_here", "_law_most", "_law_steps", "_law_one", "_law_step", "_law_other", "_law_met", "_law_link", "_law_site"]) (sc := defScope s__law_links) (by decide +kernel)) (fun _ _ _ _ _ => (pg_name (i := 11) sc__law_links.nd rfl (by first | exact Or.inl rfl | exact Or.inr rfl))) (fun _ _ _ _ _ => pts_nil) (fun _ _ _ _ _ => (pe_callB (show CallR _ _ (aLen K) from cLen) (by rfl) T.n_len PySem.boot_len (pa_cons (pe_lc (own := [("_law_link", 10)]) (g := gName 10) (by rfl) sc__law_links.nd (show PI _ _ _ (iList K _) from pi_list (pv 3)) (by refine blkOk_by ?_; first | decide +kernel | rfl) (fun _ _ _ _ _ => (pg_name (i := 10) sc__law_links.nd rfl (by first | exact Or.inl rfl | exact Or.inr rfl))) (fun _ _ _ _ _ => (pts_one (pt_cmpR (show OpR _ _ (rIn K false) from op_in_seq) (pv 11) (pv 10) rfl))) (fun _ _ _ _ _ => (pv 10))) pa_nil))))
      (pss_one (ps_if (PW.pt (pw_and (pt_cmpR op_lt (pe_callB (cMax rfl) (by rfl) T.n_max (by decide +kernel) (pa_cons (pv 9) pa_nil)) (pv 4) (nomark _)) (pw_and1 (pt_cmpR op_gt (pk_call O__law_any (hr.mono (by decide)) (pa_cons (pv 0) (pa_cons pe_int pa_nil))) pe_int (nomark _)))))
        (pss_one (ps_expr (pe_bm PySem.F.plainAttrs_list PySem.F.slot_list_append PySem.F.type_list_append mt_append (pv 3) (pa_cons (pe_tup (pa_cons (pv 6) (pa_cons (pv 8) pa_nil))) pa_nil)))) pss_nil))))))) pss_nil)
      (pss_one (ps_ret (pe_callB cr_sortedPO (by rfl) T.n_sorted (by decide +kernel) (pa_cons (pv 3) pa_nil)))))))), ?_⟩
    walk_at "s"
    refine ⟨a, l, 6, rfl, by decide, by decide, D, fun f0 H1 f0a f0b D1 f1 => ?_⟩
    obtain ⟨fn, rfl⟩ : ∃ k : Nat, f0 = k := ⟨f0.toNat, by omega⟩
    have hfn : fn < 6 := by omega
    walk_at "s"
    refine ⟨show 0 ≤ sizeLine by decide +kernel, fun L nL => ?_⟩
    have off := D1.off nL
    have nL0 : H L = none := by
      cases hL : H L with
      | none => rfl
      | some o =>
        have := f1 _ _ hL off.1 off.2
        rw [nL] at this
        cases this
    have K2 : LkAt a l L H (upd H1 L (.lst [])) [] := ⟨D1.updN off.1 off.2, f1.updN nL0, nL0, off.1, off.2, [], upd_same, .nil⟩
    generalize upd H1 L (.lst []) = H2 at K2
    walk_at "s"
    refine ⟨a, l, 4, rfl, by decide, by decide, K2.d, fun mo H3 mo0 mo1 D3 f3 => ?_⟩
    have K3 := K2.draw D3 f3
    clear D1 f1 nL K2 D3 f3
    walk_at "s"
    refine ⟨show 3 ≤ sizeLine by decide +kernel, fun p1 m1 => ?_⟩
    have K4 := K3.same (Same.newT (o := .tup [.int fn, .ref L, .int (1 + mo)]) m1)
    refine w_gtup (.inl (.inl upd_same)) rfl ?_
    generalize upd H3 p1 (.tup [.int fn, .ref L, .int (1 + mo)]) = H4 at K4
    clear m1 K3
    walk_at "s"
    refine ⟨show 1 ≤ sizeLine by decide +kernel, fun q0 m0 => ?_⟩
    have s0 : Same H4 _ := Same.newT (o := .lst [.int 1]) m0
    have u0 : upd H4 q0 (.lst [.int 1]) q0 = some (.lst [.int 1]) := upd_same
    have K5 := K4.same s0
    generalize upd H4 q0 (.lst [.int 1]) = H5 at s0 u0 K5
    walk_at "s"
    refine ⟨show 1 ≤ sizeLine by decide +kernel, fun q1 m1 => ?_⟩
    have s1 : Same H5 _ := Same.newT (o := .lst [.int 1]) m1
    have u1 : upd H5 q1 (.lst [.int 1]) q1 = some (.lst [.int 1]) := upd_same
    have K6 := K5.same s1
    have u0 := s1 _ _ u0
    generalize upd H5 q1 (.lst [.int 1]) = H6 at s1 u1 K6 u0
    walk_at "s"
    refine ⟨show 2 ≤ sizeLine by decide +kernel, fun q2 m2 => ?_⟩
    have s2 : Same H6 _ := Same.newT (o := .lst [.int 1, .int 2]) m2
    have u2 : upd H6 q2 (.lst [.int 1, .int 2]) q2 = some (.lst [.int 1, .int 2]) := upd_same
    have K7 := K6.same s2
    have u0 := s2 _ _ u0
    have u1 := s2 _ _ u1
    generalize upd H6 q2 (.lst [.int 1, .int 2]) = H7 at s2 u2 K7 u0 u1
    walk_at "s"
    refine w_divP (b := 10) (by decide) (by decide) (by decide) (by decide) ?_
    walk_at "s"
    refine ⟨show 2 ≤ sizeLine by decide +kernel, fun q3 m3 => ?_⟩
    have s3 : Same H7 _ := Same.newT (o := .lst [.int 1, .int ((n : Int) / 2)]) m3
    have u3 : upd H7 q3 (.lst [.int 1, .int ((n : Int) / 2)]) q3 = some (.lst [.int 1, .int ((n : Int) / 2)]) := upd_same
    have K8 := K7.same s3
    have u0 := s3 _ _ u0
    have u1 := s3 _ _ u1
    have u2 := s3 _ _ u2
    generalize upd H7 q3 (.lst [.int 1, .int ((n : Int) / 2)]) = H8 at s3 u3 K8 u0 u1 u2
    walk_at "s"
    refine ⟨show 0 ≤ sizeLine by decide +kernel, fun q4 m4 => ?_⟩
    have s4 : Same H8 _ := Same.newT (o := .lst []) m4
    have u4 : upd H8 q4 (.lst []) q4 = some (.lst []) := upd_same
    have K9 := K8.same s4
    have u0 := s4 _ _ u0
    have u1 := s4 _ _ u1
    have u2 := s4 _ _ u2
    have u3 := s4 _ _ u3
    generalize upd H8 q4 (.lst []) = H9 at s4 u4 K9 u0 u1 u2 u3
    walk_at "s"
    refine ⟨show 0 ≤ sizeLine by decide +kernel, fun q5 m5 => ?_⟩
    have s5 : Same H9 _ := Same.newT (o := .lst []) m5
    have u5 : upd H9 q5 (.lst []) q5 = some (.lst []) := upd_same
    have K10 := K9.same s5
    have u0 := s5 _ _ u0
    have u1 := s5 _ _ u1
    have u2 := s5 _ _ u2
    have u3 := s5 _ _ u3
    have u4 := s5 _ _ u4
    generalize upd H9 q5 (.lst []) = H10 at s5 u5 K10 u0 u1 u2 u3 u4
    walk_at "s"
    refine ⟨show 6 ≤ sizeLine by decide +kernel, fun q6 m6 => ?_⟩
    have s6 : Same H10 _ := Same.newT (o := .lst [.ref q0, .ref q1, .ref q2, .ref q3, .ref q4, .ref q5]) m6
    have u6 : upd H10 q6 (.lst [.ref q0, .ref q1, .ref q2, .ref q3, .ref q4, .ref q5]) q6 = some (.lst [.ref q0, .ref q1, .ref q2, .ref q3, .ref q4, .ref q5]) := upd_same
    have K11 := K10.same s6
    have u0 := s6 _ _ u0
    have u1 := s6 _ _ u1
    have u2 := s6 _ _ u2
    have u3 := s6 _ _ u3
    have u4 := s6 _ _ u4
    have u5 := s6 _ _ u5
    generalize upd H10 q6 (.lst [.ref q0, .ref q1, .ref q2, .ref q3, .ref q4, .ref q5]) = H11 at s6 u6 K11 u0 u1 u2 u3 u4 u5
    have lne : ∀ {Hh : Hp} {q : Addr}, LkAt a l L H Hh [] → Hh q = none → q ≠ L := fun {Hh q} k m => by
      obtain ⟨ys, e, _⟩ := k.ex
      exact (ne_of_none e m).symm
    obtain ⟨qs, eqs, kqs, nqs⟩ : ∃ qs, atI [V.ref q0, .ref q1, .ref q2, .ref q3, .ref q4, .ref q5] (fn : Int) = some (.ref qs) ∧ H11 qs = some (.lst ((stepsOf fn n).map fun s => V.int (s : Nat))) ∧ qs ≠ L := by
      match fn, hfn with
      | 0, _ => exact ⟨q0, rfl, u0, lne K4 m0⟩
      | 1, _ => exact ⟨q1, rfl, u1, lne K5 m1⟩
      | 2, _ => exact ⟨q2, rfl, u2, lne K6 m2⟩
      | 3, _ => exact ⟨q3, rfl, by rw [u3]; show _ = some (HO.lst [V.int 1, V.int ((n / 2 : Nat) : Int)]); rw [Int.natCast_ediv]; rfl, lne K7 m3⟩
      | 4, _ => exact ⟨q4, rfl, u4, lne K8 m4⟩
      | 5, _ => exact ⟨q5, rfl, u5, lne K9 m5⟩
    walk_at "s"
    refine w_ixL (SqL.of u6) eqs ?_
    clear s0 s1 s2 s3 s4 s5 s6 u0 u1 u2 u3 u4 u5 u6 m0 m1 m2 m3 m4 m5 m6 K5 K6 K7 K8 K9 K10 eqs K4
    walk_at "s"
    refine ⟨by omega, by omega, ?_⟩
    rw [Int.toNat_natCast]
    generalize hss : stepsOf fn n = ss at kqs
    refine fgR (fun i σ H' => ∃ v6 v7 v8 v9 v10 v11 : Option V, σ = [some (.ref a), some (.int n), some (.int fn), some (.ref L), some (.int (1 + mo)), some (.ref qs), v6, v7, v8, v9, v10, v11] ∧ LkAt a l L H H' (ringTo n ss i) ∧ H' qs = some (.lst (ss.map fun s => V.int (s : Nat)))) ⟨_, _, _, _, _, _, rfl, K11, kqs⟩ ?_ ?_
    · rintro i σ H5 hi ⟨v6, v7, v8, v9, v10, v11, rfl, K5, k5⟩
      walk_at "s"
      refine ⟨⟨_, SqL.of k5⟩, ?_⟩
      refine fgL (xs := ss.map fun s => V.int (s : Nat)) (fun j σ H' => ∃ v7 v8 v9 v10 v11 : Option V, σ = [some (.ref a), some (.int n), some (.int fn), some (.ref L), some (.int (1 + mo)), some (.ref qs), some (.int (0 + (i : Nat))), v7, v8, v9, v10, v11] ∧ LkAt a l L H H' (ringIn n (ringTo n ss i) i (ss.take j)) ∧ H' qs = some (.lst (ss.map fun s => V.int (s : Nat)))) ⟨_, _, _, _, _, rfl, K5, k5⟩ (fun j σ H' _ q => by obtain ⟨_, _, _, _, _, _, _, q⟩ := q; exact SqL.of q) ?_ ?_
      · rintro j x σ H6 hj ⟨v7, v8, v9, v10, v11, rfl, K6, k6⟩
        obtain ⟨s, hs, rfl⟩ : ∃ s, ss[j]? = some s ∧ x = .int (s : Nat) := by
          rw [List.getElem?_map] at hj
          cases e : ss[j]? with
          | none => rw [e] at hj; cases hj
          | some s => rw [e] at hj; exact ⟨s, rfl, (Option.some.inj hj).symm⟩
        have tk : ringIn n (ringTo n ss i) i (ss.take (j + 1)) = addL n (ringIn n (ringTo n ss i) i (ss.take j)) i s := by
          unfold ringIn
          rw [take_snoc hs, List.foldl_append]
          rfl
        rw [tk]
        have hz : (ringIn n (ringTo n ss i) i (ss.take j)).length ≤ 1000 := by
          have h1 := ringIn_len n i (ss.take j) (ringTo n ss i)
          have h2 := ringTo_len n ss i
          have h3 : ss.length ≤ 2 := by
            rw [← hss]
            match fn, hfn with
            | 0, _ => exact (by decide : 1 ≤ 2)
            | 1, _ => exact (by decide : 1 ≤ 2)
            | 2, _ => exact (by decide : 2 ≤ 2)
            | 3, _ => exact Nat.le_refl 2
            | 4, _ => exact (by decide : 0 ≤ 2)
            | 5, _ => exact (by decide : 0 ≤ 2)
          have h4 : i * ss.length ≤ i * 2 := Nat.mul_le_mul_left i h3
          rw [List.length_take] at h1
          omega
        generalize ringIn n (ringTo n ss i) i (ss.take j) = zs at K6 hz
        walk_at "s"
        refine w_mod (by omega) ?_
        have em : ((0 + (i : Int)) + (s : Nat)).fmod n = (((i + s) % n : Nat) : Int) := by
          rw [Int.zero_add, ← Int.natCast_add, Int.fmod_eq_emod_of_nonneg _ (by omega), Int.natCast_emod]
        rw [em, Int.zero_add]
        generalize ho : (i + s) % n = o
        unfold addL
        rw [ho]
        walk_at "s"
        refine w_iteN (fun hne => ?_) (fun hne => ?_)
        · walk_at "s"
          refine .inl ⟨_, _, rfl, ?_⟩
          walk_at "s"
          refine .inl ⟨_, _, rfl, ?_⟩
          walk_at "s"
          refine ⟨show 2 ≤ sizeLine by decide +kernel, fun p1 m1 => ?_⟩
          have s7 : Same H6 _ := Same.newT (o := .tup [.int (mnI i o), .int (mxI i o)]) m1
          have u7 : upd H6 p1 (.tup [.int (mnI i o), .int (mxI i o)]) p1 = some (.tup [.int (mnI i o), .int (mxI i o)]) := upd_same
          have K7 := K6.same s7
          have k7 := s7 _ _ k6
          show tVar 3 _ (upd H6 p1 (.tup [.int (mnI i o), .int (mxI i o)])) _
          generalize upd H6 p1 (.tup [.int (mnI i o), .int (mxI i o)]) = H7 at s7 u7 K7 k7
          obtain ⟨ys, e7, pr7⟩ := K7.ex
          walk_at "s"
          refine w_ninP (z := (mnI i o, mxI i o)) ⟨p1, rfl, u7⟩ (SqL.of e7) pr7 ?_
          walk_at "s"
          refine w_iteN (fun hin => ?_) (fun hin => ?_)
          · walk_at "s"
            refine ⟨tyL e7, ?_⟩
            walk_at "s"
            refine .inl ⟨_, _, rfl, ?_⟩
            walk_at "s"
            refine .inl ⟨_, _, rfl, ?_⟩
            walk_at "s"
            refine ⟨show 2 ≤ sizeLine by decide +kernel, fun p2 m2 => ?_⟩
            have s8 : Same H7 _ := Same.newT (o := .tup [.int (mnI i o), .int (mxI i o)]) m2
            have u8 : upd H7 p2 (.tup [.int (mnI i o), .int (mxI i o)]) p2 = some (.tup [.int (mnI i o), .int (mxI i o)]) := upd_same
            have K8 := K7.same s8
            have k8 := s8 _ _ k7
            have e8 := s8 _ _ e7
            show tNil _ (upd H7 p2 (.tup [.int (mnI i o), .int (mxI i o)])) _
            generalize upd H7 p2 (.tup [.int (mnI i o), .int (mxI i o)]) = H8 at s8 u8 K8 k8 e8
            walk_at "s"
            have pr8 : Paired (fun z y => PairAt H8 z y) zs ys := Paired.mapP pr7 fun z y q => q.same s8
            rw [if_pos ⟨hne, hin⟩]
            refine w_append e8 (lt_size (by have := Paired.length pr8; omega)) ?_
            refine ⟨_, _, _, _, _, rfl, K8.push (z := (mnI i o, mxI i o)) u8 e8 pr8, ?_⟩
            rw [upd_ne nqs]
            exact k8
          · walk_at "s"
            rw [if_neg (fun z => z.2 hin)]
            exact ⟨_, _, _, _, _, rfl, K7, k7⟩
        · walk_at "s"
          rw [if_neg (fun z => z.1 hne)]
          exact ⟨_, _, _, _, _, rfl, K6, k6⟩
      · rintro σ H6 ⟨v7, v8, v9, v10, v11, rfl, K6, k6⟩
        rw [List.length_map, List.take_length, ← ringTo_succ] at K6
        exact ⟨_, _, _, _, _, _, rfl, K6, k6⟩
    · rintro σ H5 ⟨v6, v7, v8, v9, v10, v11, rfl, K5, k5⟩
      clear k5 kqs K11
      walk_at "s"
      have fin : ∀ (zs : List (Int × Int)) (H6 : Hp), LinksOK n zs → LkAt a l L H H6 zs → rSortedPO K [.ref L] H6 Q := by
        intro zs H6 ok K6
        obtain ⟨ys, e6, pr⟩ := K6.ex
        have hk : ∀ {z : Int × Int} {y : V}, PairAt H6 z y → pairV H6 y = z := fun {z y} h => by
          obtain ⟨t, rfl, h⟩ := h
          exact pairV_at h
        have ek : zs = ys.map (pairV H6) := by
          clear ok K6 e6
          induction pr with
          | nil => rfl
          | cons h _ ih => rw [List.map_cons, hk h, ← ih]
        have hy : ∀ y ∈ ys, PairAt H6 (pairV H6 y) y := fun y hy => by
          obtain ⟨i, hi⟩ := List.getElem?_of_mem hy
          obtain ⟨z, _, h⟩ := paired_get2 pr hi
          rw [hk h]
          exact h
        refine ⟨L, ys, pairV H6, rfl, SqL.of e6, fun x hx => hy x hx, fun ys' p srt stb np => ?_⟩
        have pm : (ys'.map (pairV H6)).Perm zs := by
          rw [ek]
          exact stb.perm.map _
        have off : p ≠ a ∧ p ≠ l := K6.d.off np
        have nH : H p = none := by
          cases hp : H p with
          | none => rfl
          | some o =>
            have := K6.f _ _ hp off.1 off.2
            rw [np] at this
            cases this
        refine q p (ys'.map (pairV H6)) _ nH (ok.perm pm) ?_ ⟨K6.d.updN off.1 off.2, K6.f.updN nH, nH, off.1, off.2, ys', upd_same, ?_⟩
        · have nd := (pm.nodup_iff).mpr ok.nd
          have s2 : (ys'.map (pairV H6)).Pairwise (fun u v => ¬ (v.1 < u.1 ∨ (v.1 = u.1 ∧ v.2 < u.2))) := by
            rw [List.pairwise_map]
            refine List.Pairwise.imp (fun {x y} h => ?_) srt
            have h := SrtO.lexB_no.mp h
            omega
          refine (s2.and nd).imp fun {u v} h => ?_
          obtain ⟨h1, h2⟩ := h
          have h2 : u ≠ v := h2
          rcases u with ⟨u1, u2⟩
          rcases v with ⟨v1, v2⟩
          simp only [ne_eq, Prod.mk.injEq, not_and] at h2
          simp only at h1 ⊢
          omega
        · have hy' : ∀ y ∈ ys', PairAt H6 (pairV H6 y) y := fun y h => hy y ((stb.perm.mem_iff).mp h)
          refine paired_map fun y h => ?_
          obtain ⟨t, h1, h2⟩ := hy' y h
          exact ⟨t, h1, by rw [upd_ne (ne_of_none h2 np)]; exact h2⟩
      refine w_iteD (fun h4 => ?_) (fun h4 => ?_)
      · have e0 : ringTo n ss n = [] := by
          have : ss = [] := by
            rw [← hss]
            match fn, hfn, h4 with
            | 4, _, _ => rfl
            | 5, _, _ => rfl
          rw [this, ringTo_nil]
        rw [e0] at K5
        obtain ⟨mn, emn⟩ : ∃ mn : Nat, 1 + mo = mn := ⟨(1 + mo).toNat, by omega⟩
        rw [emn]
        have mn4 : mn ≤ 4 := by omega
        clear hss e0
        walk_at "s"
        refine ⟨by omega, by omega, ?_⟩
        rw [Int.toNat_natCast]
        refine fgR (fun i σ H' => ∃ (v6 v7 v8 v9 v10 v11 : Option V) (zs : List (Int × Int)), σ = [some (.ref a), some (.int n), some (.int fn), some (.ref L), some (.int mn), some (.ref qs), v6, v7, v8, v9, v10, v11] ∧ LkAt a l L H H' zs ∧ RP n mn i 0 zs) ⟨_, _, _, _, _, _, _, rfl, K5, fun z hz => (by cases hz), List.nodup_nil, fun v _ => Nat.zero_le _⟩ ?_ ?_
        · rintro i σ H6 hi ⟨v6, v7, v8, v9, v10, v11, zs, rfl, K6, rp⟩
          walk_at "s"
          refine ⟨by omega, by omega, ?_⟩
          rw [Int.zero_add, Int.toNat_natCast]
          refine fgR (fun j σ H' => ∃ (v6 v7 v9 v10 v11 : Option V) (zs : List (Int × Int)), σ = [some (.ref a), some (.int n), some (.int fn), some (.ref L), some (.int mn), some (.ref qs), v6, v7, some (.int (i : Nat)), v9, v10, v11] ∧ LkAt a l L H H' zs ∧ RP n mn i j zs) ⟨_, _, _, _, _, _, rfl, K6, rp⟩ ?_ ?_
          · clear K6 rp
            rintro j σ H7 hj ⟨v6, v7, v9, v10, v11, zs, rfl, K7, rp⟩
            walk_at "s"
            refine ⟨show 2 ≤ sizeLine by decide +kernel, fun p1 m1 => ?_⟩
            have K8 := K7.same (Same.newT (o := .tup [.int (0 + (j : Nat)), .int (i : Nat)]) m1)
            have u8 : upd H7 p1 (.tup [.int (0 + (j : Nat)), .int (i : Nat)]) p1 = some (.tup [.int (0 + (j : Nat)), .int (i : Nat)]) := upd_same
            generalize upd H7 p1 (.tup [.int (0 + (j : Nat)), .int (i : Nat)]) = H8 at K8 u8
            walk_at "s"
            obtain ⟨ys, e8, pr8⟩ := K8.ex
            have lz : zs.length = ys.length := Paired.length pr8
            have lys : ys.length ≤ 1000 := by
              have h1 : ∀ v : Nat, v < n → deg zs v ≤ 4 := fun v hv => Nat.le_trans (rp.dg v hv) mn4
              have h2 := len_deg (n := n) (zs := zs) (fun z hz => ⟨(rp.rng z hz).1, by have := rp.rng z hz; omega⟩) h1
              omega
            refine ⟨⟨_, .inl (.inl u8)⟩, ?_⟩
            refine lc_mapT (fun x => .int (deg zs (intV x))) (.inl (.inl u8)) (lt_size (by show 2 ≤ 1000000; decide)) (fun _ => rfl) (fun x hx => ?_) (fun D2 H9 nD2 s9 e9 => ?_)
            · intro H9 s9 Q1 q1
              obtain ⟨v, rfl⟩ : ∃ v, x = .int v := by
                simp only [List.mem_cons, List.not_mem_nil, or_false] at hx
                rcases hx with rfl | rfl <;> exact ⟨_, rfl⟩
              walk_at "s"
              refine ⟨⟨_, SqL.of (s9 _ _ e8)⟩, ?_⟩
              refine lc_lst_rel (fun x y _ => y = x) (inP H8 v) (SqL.of (s9 _ _ e8)) (lt_size (by omega)) (fun _ => rfl) (fun _ _ _ _ _ _ r _ => r) (fun x hx => ?_) (fun x hx _ => ?_) (fun D3 H10 L3 => ?_)
              · intro H11 s11 Q2 q2
                obtain ⟨k, hk⟩ := List.getElem?_of_mem hx
                obtain ⟨z, _, t, rfl, ht⟩ := paired_get2 pr8 hk
                walk_at "s"
                refine ⟨t, _, rfl, .inr (.inl (.inl (s11 _ _ (s9 _ _ ht)))), rfl, rfl, ?_⟩
                walk_at "s"
                have := q2 H11 (Same.refl _)
                rw [inP_at ht] at this
                exact this
              · intro H11 s11 Q2 q2
                walk_at "s"
                exact q2 _ _ (Same.refl _) rfl
              · obtain ⟨nw, sm, ws, e10, pr⟩ := L3
                have e2 : ws = _ := (paired_eq (f := fun x => x) pr).trans (List.map_id _)
                subst e2
                walk_at "s"
                refine w_lenL (SqL.of e10) ?_
                rw [deg_len pr8]
                exact q1 _ _ sm rfl
            have K9 := K8.same s9
            have e9 : H9 D2 = some (.lst ([(deg zs (0 + (j : Nat)) : Int), (deg zs (i : Nat) : Int)].map V.int)) := e9
            walk_at "s"
            refine .inr ⟨D2, _, rfl, SqL.of e9, show 0 < 2 by decide, fun mx hm hmax => ?_⟩
            have hj1 := hmax (deg zs (0 + (j : Nat)) : Int) (by simp)
            have hi1 := hmax (deg zs (i : Nat) : Int) (by simp)
            rw [Int.zero_add] at hj1
            walk_at "s"
            refine w_iteD (fun hlt => ?_) (fun hlt => ?_)
            · walk_at "s"
              refine ⟨a, l, 3, rfl, by decide, by decide, K9.d, fun r H12 r0 r1 D12 f12 => ?_⟩
              have K12 := K9.draw D12 f12
              walk_at "s"
              refine w_iteD (fun hr0 => ?_) (fun hr0 => ?_)
              · obtain ⟨ys2, e12, pr12⟩ := K12.ex
                walk_at "s"
                refine ⟨tyL e12, ?_⟩
                walk_at "s"
                refine ⟨show 2 ≤ sizeLine by decide +kernel, fun p2 m2 => ?_⟩
                have s13 : Same H12 _ := Same.newT (o := .tup [.int (0 + (j : Nat)), .int (i : Nat)]) m2
                have u13 : upd H12 p2 (.tup [.int (0 + (j : Nat)), .int (i : Nat)]) p2 = some (.tup [.int (0 + (j : Nat)), .int (i : Nat)]) := upd_same
                have K13 := K12.same s13
                have e13 := s13 _ _ e12
                generalize upd H12 p2 (.tup [.int (0 + (j : Nat)), .int (i : Nat)]) = H13 at s13 u13 K13 e13
                rw [Int.zero_add] at u13
                have pr13 : Paired (fun z y => PairAt H13 z y) zs ys2 := Paired.mapP pr12 fun z y q => q.same s13
                walk_at "s"
                refine w_append e13 (lt_size (by have := Paired.length pr12; omega)) ?_
                exact ⟨_, _, _, _, _, _, rfl, K13.push (z := ((j : Int), (i : Int))) u13 e13 pr13, rp.put hj (by omega) (by omega) (by omega)⟩
              · walk_at "s"
                exact ⟨_, _, _, _, _, _, rfl, K12, rp.skip⟩
            · walk_at "s"
              exact ⟨_, _, _, _, _, _, rfl, K9, rp.skip⟩
          · rintro σ H7 ⟨v6, v7, v9, v10, v11, zs, rfl, K7, rp⟩
            exact ⟨_, _, _, _, _, _, _, rfl, K7, rp.next⟩
        · rintro σ H6 ⟨v6, v7, v8, v9, v10, v11, zs, rfl, K6, rp⟩
          walk_at "s"
          exact fin _ _ ⟨fun z hz => by have := rp.rng z hz; omega, rp.nd, fun v hv => Nat.le_trans (rp.dg v hv) mn4⟩ K6
      · have h4 : fn < 4 := by omega
        walk_at "s"
        refine fin _ _ ?_ K5
        rw [← hss]
        exact ring_ok n1 n9 h4
end

end K04
set_option maxRecDepth 100000
set_option maxHeartbeats 4000000
set_option pp.maxSteps 300
namespace K04
open PySem L2 NL
local macro_rules | `(tactic| walk_at "s1") => `(tactic| with_reducible first
  | refine w_seq ?_ | refine w_asg ?_ | refine w_drop ?_ | refine w_ret ?_ | refine w_next ?_ | refine w_ifS ?_
  | refine w_c ?_ | refine w_op ?_ | refine w_un ?_ | refine w_test ?_ | refine w_B ?_ | refine w_bl ?_ | refine w_not ?_ | refine w_and ?_ | refine w_or ?_
  | refine w_andV ?_ | refine w_orV ?_ | refine w_notV ?_ | refine w_blP ?_ | refine w_if ?_ | refine w_nil ?_ | refine w_cons ?_ | refine w_call ?_ | refine w_callS ?_ | refine w_callW ?_
  | refine w_cb ?_ | refine w_tup ?_ | refine w_lst ?_ | refine w_par ?_ | refine w_two ?_ | refine w_addI ?_ | refine w_I0 ?_ | refine w_neg ?_ | refine w_eqI ?_ | refine w_neI ?_
  | refine w_absI ?_ | refine w_intI ?_ | refine w_sub ?_ | refine w_bm0 ?_ | refine w_bm ?_ | refine w_iteT ?_ | refine w_iteF ?_ | refine w_iteNF ?_ | refine w_iteNT ?_ | refine w_lcT ?_ | refine w_lcL ?_
  | refine w_ref ?_ | refine w_sl ?_ | refine w_npart ?_ | refine w_part ?_ | refine w_iv ?_ | refine w_rev ?_ | refine w_forL ?_ | refine w_forT ?_ | refine w_forR1 ?_ | refine w_one ?_ | refine w_g ?_
  | refine w_asgT ?_ | refine w_gcons ?_ | refine w_gnil ?_ | refine w_lcR1 ?_ | refine w_sFld ?_ | refine w_fldR ?_ | refine w_forEL ?_ | refine w_forET ?_ | refine w_lc2E ?_
  | refine w_var (by with_unfolding_all rfl) ?_)
local macro_rules | `(tactic| walk_at "s") => `(tactic| repeat (walk_at "s1"))

/-! ### _law_mixed, of ints and pairs -/
theorem perm_eraseV {α : Type} : ∀ (l : List α) (k : Nat) (h : k < l.length), (l[k] :: l.eraseIdx k).Perm l
  | a :: l, 0, _ => List.Perm.refl _
  | a :: l, k + 1, h => by
    show (l[k]'(Nat.lt_of_succ_lt_succ h) :: a :: l.eraseIdx k).Perm (a :: l)
    exact (List.Perm.swap a _ _).trans ((perm_eraseV l k (Nat.lt_of_succ_lt_succ h)).cons a)
/-- an int or a pair -/
inductive FlatV (H : Hp) : V → Prop
  | int (i : Int) : FlatV H (.int i)
  | pair {t : Addr} {i j : Int} (h : H t = some (.tup [.int i, .int j])) : FlatV H (.ref t)
theorem flat_data {K : PySem.W.Frag} {H : Hp} : ∀ {xs : List V}, (∀ x ∈ xs, FlatV H x) → ∃ ds, DpAll K H xs ds ∧ PyData.canLayAll0 ds = true ∧ PyData.depthAll ds ≤ 1
  | [], _ => ⟨[], .nil, rfl, Nat.zero_le _⟩
  | x :: xs, h => by
    obtain ⟨ds, a, b, c⟩ := flat_data (K := K) (xs := xs) fun y hy => h y (List.mem_cons_of_mem _ hy)
    cases h x List.mem_cons_self with
    | int i => exact ⟨.int i :: ds, .cons (.int i) a, b, Nat.max_le.mpr ⟨Nat.zero_le _, c⟩⟩
    | pair ht => exact ⟨pD (_, _) :: ds, .cons (.tup (.inl (.inl ht)) (.cons (.int _) (.cons (.int _) .nil))) a, b, Nat.max_le.mpr ⟨Nat.le_refl 1, c⟩⟩
theorem w_neNil {K : PySem.W.Frag} {H : Hp} {Q : VK} {x y : Addr} {xs : List V} (hx : SqL K H x xs) (hy : SqL K H y []) (hf : ∀ x ∈ xs, FlatV H x) (h : Q (.bl (!decide (xs.length = 0))) H) : aNe K (.ref x) (.ref y) H Q := by
  obtain ⟨ds, a, b, c⟩ := flat_data (K := K) hf
  refine .inr ⟨.list ds, .list [], .lst hx a, .lst hy .nil, ?_, rfl, ?_⟩
  · unfold SeqAt.shaped
    rw [show PyData.canLay0 (.list ds) = PyData.canLayAll0 ds from rfl, b, show PyData.depth (.list ds) = PyData.depthAll ds + 1 from rfl, decide_eq_true (show PyData.depthAll ds + 1 ≤ 64 by omega)]
    rfl
  · cases a with
    | nil => exact h
    | cons _ _ => exact h
section
variable {P : Program} {w : World} {K : PySem.W.Frag} {mg : Str → Option Value} {base : Heap} {AA : Ad}
def spMixedV (K : PySem.W.Frag) : Sp := fun vs H Q _ => ∃ (a l s : Addr) (xs : List V), vs = [.ref a, .ref s] ∧ DealAt H a l ∧ (SqL K H s xs ∨ SqT K H s xs) ∧ (∀ x ∈ xs, FlatV H x) ∧ xs.length ≤ 1000 ∧
  ∀ (f : Addr) (ys : List V) H', DealAt H' a l → Fr a l H H' → H f = none → ys.Perm xs → H' f = some (.lst ys) → Q (.ref f) H'
theorem ok__law_mixedV (T : Txt P K mg AA) (O__law_any : Kept P w K mg base CX0 1 "_law_any" s__law_any ["_law_deal", "_law_bound"] spAny) :
    Kept P w K mg base CX0 2 "_law_mixed" s__law_mixed ["_law_deal", "_law_some"] (spMixedV K) := by
  refine keep0 T.d__law_mixed sc__law_mixed (fun vs H Q E h => ?_) (fun f cdv A outer s H vs Q E hr h => ?_)
  · obtain ⟨a, l, p, xs, rfl, _⟩ := h
    rfl
  · obtain ⟨a, l, p, xs, rfl, D, S, hfl, hz, q⟩ := h
    refine ⟨_, (pss_cons (ps_par (i := 2) (j := 3) (by rfl) sc__law_mixed.nd rfl rfl (by decide) rfl rfl (pa_cons (pe_callTy cList (by rfl) T.n_list (by decide +kernel) (pa_cons (pv 1) pa_nil)) (pa_cons (pe_lst pa_nil) pa_nil)) (by rfl))
      (pss_cons (ps_while PassesOwn.never (pt_cmpR (oNe (ru64 hr)) (pv 2) (pe_lst pa_nil) (nomark _)) (pss_one (ps_expr (pe_bm PySem.F.plainAttrs_list PySem.F.slot_list_append PySem.F.type_list_append mt_append (pv 3) (pa_cons (pe_bm PySem.F.plainAttrs_list PySem.F.slot_list_pop PySem.F.type_list_pop mt_popAt (pv 2) (pa_cons (pk_call O__law_any (hr.mono (by decide)) (pa_cons (pv 0) (pa_cons (pe_callB cLen (by rfl) T.n_len PySem.boot_len (pa_cons (pv 2) pa_nil)) pa_nil))) pa_nil)) pa_nil)))))
      (pss_one (ps_ret (pv 3))))), ?_⟩
    walk_at "s"
    refine ⟨p, _, rfl, S, fun L1 n1 => ?_⟩
    have o1 := D.off n1
    have D1 : DealAt (upd H L1 (.lst xs)) a l := D.updN o1.1 o1.2
    have f1 : Fr a l H (upd H L1 (.lst xs)) := Fr.refl.updN n1
    have k1 : upd H L1 (.lst xs) L1 = some (.lst xs) := upd_same
    have none1 : ∀ b, upd H L1 (.lst xs) b = none → H b = none := fun b h => by
      by_cases hb : b = L1
      · subst hb
        exact n1
      · rw [upd_ne hb] at h
        exact h
    generalize upd H L1 (.lst xs) = H1 at D1 f1 k1 none1
    walk_at "s"
    refine ⟨show 0 ≤ sizeLine by decide +kernel, fun F2 n2 => ?_⟩
    have o2 := D1.off n2
    have nF := none1 _ n2
    have ne12 : L1 ≠ F2 := ne_of_none k1 n2
    walk_at "s"
    refine w_while (m := xs.length) (fun m σ H' => DealAt H' a l ∧ Fr a l H H' ∧ σ = [some (.ref a), some (.ref p), some (.ref L1), some (.ref F2)] ∧ ∃ ps qs : List V, H' L1 = some (.lst ps) ∧ H' F2 = some (.lst qs) ∧
      ps.length = m ∧ ps.length + qs.length = xs.length ∧ (qs ++ ps).Perm xs) ⟨D1.updN o2.1 o2.2, f1.updN nF, rfl, xs, [], by rw [upd_ne ne12]; exact k1, upd_same, rfl, rfl, List.Perm.refl _⟩ ?_
    rintro m σ H' ⟨D3, f3, rfl, ps, qs, kL, kF, rfl, hlen, pm⟩
    clear D1 f1 k1 none1 n2
    have fl3 : ∀ {x}, FlatV H x → FlatV H' x := fun {x} h => by
      cases h with
      | int i => exact .int i
      | pair h => exact .pair (D.keep f3 h fun _ z => by cases z)
    have hps : ∀ x ∈ ps, FlatV H' x := fun x hx => fl3 (hfl x (pm.mem_iff.mp (List.mem_append_right _ hx)))
    walk_at "s"
    refine ⟨show 0 ≤ sizeLine by decide +kernel, fun t nt => ?_⟩
    have st : Same H' _ := Same.newT (o := .lst []) nt
    have kt : upd H' t (.lst []) t = some (.lst []) := upd_same
    generalize upd H' t (.lst []) = H4 at st kt
    have D4 := D3.same st
    have f4 := f3.trans (Fr.same st)
    have kL4 := st _ _ kL
    have kF4 := st _ _ kF
    refine w_neNil (SqL.of kL4) (SqL.of kt) (fun x hx => ?_) ?_
    · cases hps x hx with
      | int i => exact .int i
      | pair h => exact .pair (st _ _ h)
    walk_at "s"
    refine w_iteN (fun h0 => ?_) (fun h0 => ?_)
    · refine w_go ?_
      walk_at "s"
      have hp : 0 < ps.length := by omega
      refine ⟨tyL kF4, ?_⟩
      walk_at "s"
      refine ⟨tyL kL4, ?_⟩
      walk_at "s"
      refine w_lenL (SqL.of kL4) ?_
      walk_at "s"
      refine ⟨a, l, ps.length, rfl, by omega, by omega, D4, fun r H5 r0 r1 D5 f5 => ?_⟩
      have kL5 := f5 _ _ kL4 o1.1 o1.2
      have kF5 := f5 _ _ kF4 o2.1 o2.2
      obtain ⟨k, rfl⟩ : ∃ k : Nat, r = k := ⟨r.toNat, by omega⟩
      have hk : k < ps.length := by omega
      walk_at "s"
      refine ⟨L1, ps, (k : Int), k, ps[k], rfl, rfl, kL5, by omega, by omega, ?_, List.getElem?_eq_getElem hk, ?_⟩
      · unfold seqIndex?
        have hneg : ¬ ((k : Int) < 0) := by omega
        simp only [hneg, if_false]
        rw [if_pos (by rw [Bool.and_eq_true, decide_eq_true_eq, decide_eq_true_eq]; omega)]
        rfl
      walk_at "s"
      have e1 : upd H5 L1 (.lst (ps.eraseIdx k)) F2 = some (.lst qs) := by
        rw [upd_ne (Ne.symm ne12)]
        exact kF5
      refine ⟨F2, _, _, rfl, rfl, e1, lt_size (by omega), ?_⟩
      have D6 : DealAt (upd (upd H5 L1 (.lst (ps.eraseIdx k))) F2 (.lst (qs ++ [ps[k]]))) a l := (D5.updN o1.1 o1.2).updN o2.1 o2.2
      refine ⟨(ps.eraseIdx k).length, by rw [List.length_eraseIdx_of_lt hk]; omega, D6, ((f4.trans f5).updN n1).updN nF, rfl, ps.eraseIdx k, qs ++ [ps[k]], ?_, ?_, rfl, ?_, ?_⟩
      · rw [upd_ne ne12, upd_same]
      · rw [upd_same]
      · rw [List.length_eraseIdx_of_lt hk, List.length_append]
        show ps.length - 1 + (qs.length + 1) = xs.length
        omega
      · rw [List.append_assoc]
        refine List.Perm.trans (List.Perm.append_left qs ?_) pm
        exact perm_eraseV ps k hk
    · have h0 : ps = [] := List.eq_nil_of_length_eq_zero h0
      subst h0
      walk_at "s"
      rw [List.append_nil] at pm
      exact q F2 qs H4 D4 f4 nF pm kF4
/-- a network's modes and links drawn -/
def spNetwork (K : PySem.W.Frag) : Sp := fun vs H Q _ => ∃ (a l : Addr) (k n : Nat), vs = [.ref a, .int k, .int n] ∧ DealAt H a l ∧ 1 ≤ k ∧ k ≤ 4 ∧ 1 ≤ n ∧ n ≤ 9 ∧
  ∀ (p M L : Addr) (ms : List Int) (zs : List (Int × Int)) H', H' p = some (.tup [.ref M, .ref L]) → H M = none → H' M = some (.lst (ms.map V.int)) → ms.length = n → (∀ x ∈ ms, 0 ≤ x ∧ x < 4) →
    M ≠ L → LinksOK n zs → zs.Pairwise (fun u v => u.1 < v.1 ∨ (u.1 = v.1 ∧ u.2 < v.2)) → LkAt a l L H H' zs → Q (.ref p) H'
theorem ok__law_network (T : Txt P K mg AA) (O__law_any : Kept P w K mg base CX0 1 "_law_any" s__law_any ["_law_deal", "_law_bound"] spAny) :
    Kept P w K mg base CX0 3 "_law_network" s__law_network ["_law_deal", "_law_kinds", "_law_many"] (spNetwork K) := by
  have O__law_links := ok__law_links (w := w) (base := base) T O__law_any
  refine keep0 T.d__law_network sc__law_network (fun vs H Q E h => ?_) (fun f cdv A outer s H vs Q E hr h => ?_)
  · obtain ⟨a, l, k, n, rfl, _⟩ := h
    rfl
  · obtain ⟨a, l, k, n, rfl, D, k1, k4, n1, n9, q⟩ := h
    refine ⟨_, (pss_cons (ps_asg (pe_tup (pa_cons (pk_call O__law_any (hr.mono (by decide)) (pa_cons (pv 0) (pa_cons (pv 1) pa_nil))) (pa_cons (pk_call O__law_any (hr.mono (by decide)) (pa_cons (pv 0) (pa_cons pe_int pa_nil))) pa_nil))) (pg_tup rfl (pgs_cons (pg_name (i := 3) sc__law_network.nd rfl (by first | exact Or.inl rfl | exact Or.inr rfl)) (pgs_cons (pg_name (i := 4) sc__law_network.nd rfl (by first | exact Or.inl rfl | exact Or.inr rfl)) pgs_nil))))
      (pss_cons (ps_setLc (i := 5) (own := [("_law_at", 6)]) (g := gName 6) (tt := tYes) (by rfl) sc__law_network.nd rfl rfl (sw_true rfl rfl rfl (by decide +kernel)) (pi_range1 rfl T.n_range (pa_cons (pv 2) pa_nil)) (blkOk_by (own := [("_law_at", 6)]) (N := ["_law_deal", "_law_kinds", "_law_many", "_law_start", "_law_turn", "_law_modes", "_law_at"]) (sc := defScope s__law_network) (by decide +kernel)) (fun _ _ _ _ _ => (pg_name (i := 6) sc__law_network.nd rfl (by first | exact Or.inl rfl | exact Or.inr rfl))) (fun _ _ _ _ _ => pts_nil) (fun _ _ _ _ _ => (pe_ifExp (pt_cmpR (show OpR _ _ (aEq K) from (oEq (ru64 hr))) (pv 4) pe_int (nomark _)) (pe_op oMod (pe_callTy cInt (by rfl) T.n_int (by decide +kernel) (pa_cons (pe_op (show OpR _ _ (aAdd K) from oAdd) (pv 3) (pv 6)) pa_nil)) (pv 1)) (pk_call O__law_any (hr.mono (by decide)) (pa_cons (pv 0) (pa_cons (pv 1) pa_nil))))))
      (pss_one (ps_ret (pe_tup (pa_cons (pv 5) (pa_cons (pk_call O__law_links (hr.mono (by decide)) (pa_cons (pv 0) (pa_cons (pv 2) pa_nil))) pa_nil))))))), ?_⟩
    walk_at "s"
    refine ⟨a, l, k, rfl, by omega, by omega, D, fun st H1 st0 st1 D1 f1 => ?_⟩
    walk_at "s"
    refine ⟨a, l, 3, rfl, by decide, by decide, D1, fun tu H2 tu0 tu1 D2 f2 => ?_⟩
    walk_at "s"
    refine ⟨show 2 ≤ sizeLine by decide +kernel, fun p0 m0 => ?_⟩
    have D2 := D2.same (Same.newT (o := .tup [.int st, .int tu]) m0)
    have f12 := (f1.trans f2).trans (Fr.same (Same.newT (o := .tup [.int st, .int tu]) m0))
    refine w_gtup (.inl (.inl upd_same)) rfl ?_
    generalize upd H2 p0 (.tup [.int st, .int tu]) = H2' at D2 f12
    walk_at "s"
    refine ⟨by omega, by omega, ?_⟩
    rw [Int.toNat_natCast]
    refine lc_rng_inv (fun M i H' => DealAt H' a l ∧ Fr a l H H' ∧ H M = none ∧ M ≠ a ∧ M ≠ l ∧ ∃ ms : List Int, H' M = some (.lst (ms.map V.int)) ∧ ms.length = i ∧ ∀ x ∈ ms, 0 ≤ x ∧ x < (k : Int)) (fun M nM => ?_) (fun _ => rfl) (fun M i H3 nM hi L => ?_) (fun M H3 nM L => ?_)
    · have o := D2.off nM
      have nH : H M = none := by
        cases hp : H M with
        | none => rfl
        | some o' =>
          have := f12 _ _ hp o.1 o.2
          rw [nM] at this
          cases this
      exact ⟨D2.updN o.1 o.2, f12.updN nH, nH, o.1, o.2, [], upd_same, rfl, fun x h => by cases h⟩
    · obtain ⟨D3, f3, nH, o1, o2, ms, eM, lm, hm⟩ := L
      walk_at "s"
      have put : ∀ {v : Int} {H' : Hp}, 0 ≤ v → v < k → DealAt H' a l → Fr a l H3 H' → ∃ acc, H' M = some (.lst acc) ∧ acc.length < sizeLine ∧ (fun M i H' => DealAt H' a l ∧ Fr a l H H' ∧ H M = none ∧ M ≠ a ∧ M ≠ l ∧ ∃ ms : List Int, H' M = some (.lst (ms.map V.int)) ∧ ms.length = i ∧ ∀ x ∈ ms, 0 ≤ x ∧ x < (k : Int)) M (i + 1) (upd H' M (.lst (acc ++ [.int v]))) := fun {v H'} v0 v1 D' f' =>
        ⟨ms.map V.int, f' _ _ eM o1 o2, lt_size (by rw [List.length_map]; omega), D'.updN o1 o2, (f3.trans f').updN nH, nH, o1, o2, ms ++ [v], by rw [upd_same, List.map_append]; rfl, by rw [List.length_append, lm]; rfl, fun x hx => by
          rcases List.mem_append.mp hx with hx | hx
          · exact hm x hx
          · rw [List.mem_singleton.mp hx]
            exact ⟨v0, v1⟩⟩
      refine w_iteD (fun h0 => ?_) (fun h0 => ?_)
      · walk_at "s"
        refine w_mod (by omega) ?_
        exact put (Int.fmod_nonneg_of_pos _ (by omega)) (Int.fmod_lt_of_pos _ (by omega)) D3 Fr.refl
      · walk_at "s"
        refine ⟨a, l, k, rfl, by omega, by omega, D3, fun v H4 v0 v1 D4 f4 => ?_⟩
        exact put v0 v1 D4 f4
    · obtain ⟨D3, f3, nH, o1, o2, ms, eM, lm, hm⟩ := L
      walk_at "s"
      refine ⟨a, l, n, rfl, D3, n1, n9, fun L zs H4 nL ok pw K4 => ?_⟩
      walk_at "s"
      refine ⟨show 2 ≤ sizeLine by decide +kernel, fun p np => ?_⟩
      have neML : M ≠ L := ne_of_none eM nL
      have nHL : H L = none := by
        cases hp : H L with
        | none => rfl
        | some o' =>
          have := f3 _ _ hp K4.o1 K4.o2
          rw [nL] at this
          cases this
      have eM4 := K4.f _ _ eM o1 o2
      have K5 : LkAt a l L H (upd H4 p (.tup [.ref M, .ref L])) zs := by
        have := K4.same (Same.newT (o := .tup [.ref M, .ref L]) np)
        exact ⟨this.d, f3.trans this.f, nHL, this.o1, this.o2, this.ex⟩
      exact q p M L ms zs _ upd_same nH (by rw [upd_ne (ne_of_none eM4 np)]; exact eM4) lm (fun x hx => ⟨(hm x hx).1, by have := (hm x hx).2; omega⟩) neML ok pw K5
end

end K04
set_option maxRecDepth 100000
set_option maxHeartbeats 4000000
set_option pp.maxSteps 300
namespace K04
open PySem L2 NL
/-! ### what links come to -/
def norm (w : Int × Int) : Int × Int := if w.1 < w.2 then w else (w.2, w.1)
/-- the neighbours of i, as they come -/
def nbr (ws : List (Int × Int)) (i : Int) : List Int := ws.filterMap fun w => if w.1 = i then some w.2 else if w.2 = i then some w.1 else none
structure WOK (n : Nat) (ws : List (Int × Int)) : Prop where
  rng : ∀ w ∈ ws, 0 ≤ w.1 ∧ w.1 < (n : Int) ∧ 0 ≤ w.2 ∧ w.2 < (n : Int) ∧ w.1 ≠ w.2
  nd : (ws.map norm).Nodup
  dg : ∀ v : Nat, v < n → deg ws v ≤ 4
theorem norm_swap {a b : Int} : norm (a, b) = norm (b, a) ∨ a = b := by
  unfold norm
  by_cases h1 : a < b
  · by_cases h2 : b < a
    · omega
    · left
      simp [h1, h2]
  · by_cases h2 : b < a
    · left
      simp [h1, h2]
    · right
      omega
theorem norm_eq {u w : Int × Int} (h : norm u = norm w) : u = w ∨ u = (w.2, w.1) := by
  obtain ⟨a, b⟩ := u
  obtain ⟨c, d⟩ := w
  unfold norm at h
  simp only at h ⊢
  split at h <;> split at h <;> simp only [Prod.mk.injEq] at h ⊢ <;> omega
theorem norm_cases (w : Int × Int) : norm w = w ∨ norm w = (w.2, w.1) := by
  unfold norm
  split
  · exact .inl rfl
  · exact .inr rfl
theorem nbr_len (ws : List (Int × Int)) (i : Int) : (nbr ws i).length = deg ws i := by
  unfold nbr deg
  induction ws with
  | nil => rfl
  | cons w ws ih =>
    rw [List.filterMap_cons, List.filter_cons]
    by_cases h1 : w.1 = i
    · have b1 : (w.1 == i || w.2 == i) = true := by simp [h1]
      rw [if_pos h1, b1, if_pos rfl]
      simp only [List.length_cons, ih]
    · by_cases h2 : w.2 = i
      · have b1 : (w.1 == i || w.2 == i) = true := by simp [h2]
        rw [if_neg h1, if_pos h2, b1, if_pos rfl]
        simp only [List.length_cons, ih]
      · have b1 : (w.1 == i || w.2 == i) = false := by simp [h1, h2]
        rw [if_neg h1, if_neg h2, b1, if_neg Bool.false_ne_true]
        exact ih
theorem mem_nbr {ws : List (Int × Int)} {i x : Int} (h : ∀ w ∈ ws, w.1 ≠ w.2) : x ∈ nbr ws i ↔ (i, x) ∈ ws ∨ (x, i) ∈ ws := by
  unfold nbr
  rw [List.mem_filterMap]
  constructor
  · rintro ⟨w, hw, e⟩
    split at e
    · rename_i h1
      cases e
      left
      rw [← h1]
      exact hw
    · split at e
      · rename_i h2
        cases e
        right
        rw [← h2]
        exact hw
      · cases e
  · rintro (hw | hw)
    · exact ⟨_, hw, by rw [if_pos rfl]⟩
    · refine ⟨_, hw, ?_⟩
      have := h _ hw
      rw [if_neg this, if_pos rfl]
theorem nbr_norm {ws : List (Int × Int)} {i x : Int} (h : ∀ w ∈ ws, w.1 ≠ w.2) (hx : x ∈ nbr ws i) : norm (i, x) ∈ ws.map norm := by
  rcases (mem_nbr h).mp hx with hw | hw
  · exact List.mem_map.mpr ⟨_, hw, rfl⟩
  · rcases norm_swap (a := i) (b := x) with e | e
    · rw [e]
      exact List.mem_map.mpr ⟨_, hw, rfl⟩
    · exact absurd e.symm (h _ hw)
theorem norm_nbr {ws : List (Int × Int)} {i x : Int} (h : ∀ w ∈ ws, w.1 ≠ w.2) (hx : norm (i, x) ∈ ws.map norm) : x ∈ nbr ws i := by
  obtain ⟨w, hw, e⟩ := List.mem_map.mp hx
  refine (mem_nbr h).mpr ?_
  rcases norm_eq e with rfl | rfl
  · exact .inl hw
  · exact .inr hw
theorem nbr_snoc (ws : List (Int × Int)) (a b i : Int) : nbr (ws ++ [(a, b)]) i = nbr ws i ++ (if a = i then [b] else if b = i then [a] else []) := by
  unfold nbr
  rw [List.filterMap_append]
  congr 1
  rw [List.filterMap_cons, List.filterMap_nil]
  simp only
  by_cases h1 : a = i
  · rw [if_pos h1, if_pos h1]
  · rw [if_neg h1, if_neg h1]
    by_cases h2 : b = i
    · rw [if_pos h2, if_pos h2]
    · rw [if_neg h2, if_neg h2]
theorem WOK.pre {n : Nat} {us ws : List (Int × Int)} (h : WOK n (us ++ ws)) : WOK n us := by
  refine ⟨fun w hw => h.rng w (List.mem_append_left _ hw), ?_, fun v hv => ?_⟩
  · have := h.nd
    rw [List.map_append, List.nodup_append] at this
    exact this.1
  · have := h.dg v hv
    unfold deg at this ⊢
    rw [List.filter_append, List.length_append] at this
    omega
/-- the rows tell the links -/
structure Told (n : Nat) (rows : List (List Int)) (ws : List (Int × Int)) : Prop where
  len : rows.length = n
  at_ : ∀ i : Nat, i < n → rowN rows i = nbr ws i
theorem step_ok {n : Nat} {rows : List (List Int)} {ws : List (Int × Int)} {a b : Nat} (T : Told n rows ws) (h : WOK n (ws ++ [((a : Int), (b : Int))])) : ∃ r, stepR rows ((a : Int), (b : Int)) = some r ∧ Told n r (ws ++ [((a : Int), (b : Int))]) := by
  obtain ⟨a0, a1, b0, b1, ne⟩ := h.rng _ (List.mem_append_right _ List.mem_cons_self)
  have a1 : a < n := by simp only at a1; omega
  have b1 : b < n := by simp only at b1; omega
  have ne : a ≠ b := fun z => ne (by rw [z])
  have hw : ∀ w ∈ ws, w.1 ≠ w.2 := fun w hw => (h.rng w (List.mem_append_left _ hw)).2.2.2.2
  have nin : ¬ ((b : Int) ∈ rowN rows a) := fun z => by
    rw [T.at_ a a1] at z
    have := nbr_norm hw z
    have nd := h.nd
    rw [List.map_append, List.nodup_append] at nd
    exact nd.2.2 _ this _ List.mem_cons_self rfl
  have da : (rowN rows a).length ≠ 4 := by
    rw [T.at_ a a1, nbr_len]
    have := h.dg a a1
    rw [deg_app] at this
    simp only [beq_self_eq_true, Bool.true_or, if_true] at this
    omega
  have la : a < rows.length := by rw [T.len]; exact a1
  have db : (rowN (putRow rows a b) b).length ≠ 4 := by
    rw [row_put la, if_neg (fun z => ne z.symm), T.at_ b b1, nbr_len]
    have := h.dg b b1
    rw [deg_app] at this
    simp only [beq_self_eq_true, Bool.or_true, if_true] at this
    omega
  refine ⟨putRow (putRow rows a b) b a, ?_, ?_, fun i hi => ?_⟩
  · unfold stepR
    simp only [Int.toNat_natCast]
    rw [if_neg nin, if_neg da, if_neg db]
  · unfold putRow
    rw [List.length_set, List.length_set]
    exact T.len
  · have lb : b < (putRow rows a b).length := by
      unfold putRow
      rw [List.length_set, T.len]
      exact b1
    rw [row_put lb, nbr_snoc]
    by_cases e1 : i = b
    · subst e1
      rw [if_pos rfl, row_put la, if_neg (fun z => ne z.symm), T.at_ i hi, if_neg (by omega), if_pos rfl]
    · rw [if_neg e1, row_put la]
      by_cases e2 : i = a
      · subst e2
        rw [if_pos rfl, T.at_ i hi, if_pos rfl]
      · rw [if_neg e2, T.at_ i hi, if_neg (by omega), if_neg (by omega), List.append_nil]
/-- data of a link -/
def LD (n : Int) (d : PyData) (w : Int × Int) : Prop := linkD n d = true ∧ pairOf d = w
theorem go_ok {n : Nat} : ∀ {ds : List PyData} {ws us : List (Int × Int)} {k : Nat} {rows : List (List Int)}, Paired (LD n) ds ws → Told n rows us → WOK n (us ++ ws) → ∃ r, goR n k rows ds = .inr r ∧ Told n r (us ++ ws)
  | _, _, us, k, rows, .nil, T, _ => ⟨rows, rfl, by rw [List.append_nil]; exact T⟩
  | d :: ds, w :: ws, us, k, rows, .cons h p, T, ok => by
    obtain ⟨hl, hp⟩ := h
    obtain ⟨a, b, _, pr, a0, a1, b0, b1, ne, _⟩ := link_pair hl
    rw [hp] at pr
    subst pr
    obtain ⟨a, rfl⟩ : ∃ k : Nat, a = k := ⟨a.toNat, by omega⟩
    obtain ⟨b, rfl⟩ : ∃ k : Nat, b = k := ⟨b.toNat, by omega⟩
    have e : us ++ ((a : Int), (b : Int)) :: ws = (us ++ [((a : Int), (b : Int))]) ++ ws := by simp
    rw [e] at ok ⊢
    obtain ⟨r, hr, T2⟩ := step_ok T ok.pre
    rw [goR_some hl (by rw [hp]; exact hr)]
    exact go_ok p T2 ok
theorem told0 (n : Nat) : Told n (List.replicate n []) [] := ⟨List.length_replicate, fun i _ => rep_row n i⟩
/-- a link that is there -/
theorem step_dup {n : Nat} {rows : List (List Int)} {ws : List (Int × Int)} {a b : Nat} (T : Told n rows ws) (hw : ∀ w ∈ ws, w.1 ≠ w.2) (a1 : a < n) (h : norm ((a : Int), (b : Int)) ∈ ws.map norm) : stepR rows ((a : Int), (b : Int)) = none := by
  unfold stepR
  simp only [Int.toNat_natCast]
  rw [if_pos (by rw [T.at_ a a1]; exact norm_nbr hw h)]
/-- a site with four neighbours -/
theorem step_full {n : Nat} {rows : List (List Int)} {ws : List (Int × Int)} {a b : Nat} (T : Told n rows ws) (a1 : a < n) (b1 : b < n) (ne : a ≠ b) (h : deg ws a = 4 ∨ deg ws b = 4) : stepR rows ((a : Int), (b : Int)) = none := by
  have la : a < rows.length := by rw [T.len]; exact a1
  unfold stepR
  simp only [Int.toNat_natCast]
  by_cases h1 : (b : Int) ∈ rowN rows a
  · rw [if_pos h1]
  rw [if_neg h1]
  by_cases h2 : (rowN rows a).length = 4
  · rw [if_pos h2]
  rw [if_neg h2, if_pos]
  rw [row_put la, if_neg (fun z => ne z.symm), T.at_ b b1, nbr_len]
  rcases h with h | h
  · rw [T.at_ a a1, nbr_len] at h2
    exact absurd h h2
  · exact h
/-! ### the links told -/
theorem sorted_ext {α : Type} {R : α → α → Prop} (ir : ∀ x, ¬ R x x) (as : ∀ x y, R x y → R y x → False) : ∀ {l m : List α}, l.Pairwise R → m.Pairwise R → (∀ x, x ∈ l ↔ x ∈ m) → l = m
  | [], [], _, _, _ => rfl
  | [], b :: m, _, _, h => absurd ((h b).mpr List.mem_cons_self) (by simp)
  | a :: l, [], _, _, h => absurd ((h a).mp List.mem_cons_self) (by simp)
  | a :: l, b :: m, h1, h2, h => by
    rw [List.pairwise_cons] at h1 h2
    have e : a = b := by
      rcases List.mem_cons.mp ((h a).mp List.mem_cons_self) with e | ha
      · exact e
      · rcases List.mem_cons.mp ((h b).mpr List.mem_cons_self) with e | hb
        · exact e.symm
        · exact (as _ _ (h1.1 b hb) (h2.1 a ha)).elim
    subst e
    rw [sorted_ext ir as h1.2 h2.2 fun x => ?_]
    constructor
    · intro hx
      rcases List.mem_cons.mp ((h x).mp (List.mem_cons_of_mem _ hx)) with e | hx2
      · subst e
        exact (ir _ (h1.1 _ hx)).elim
      · exact hx2
    · intro hx
      rcases List.mem_cons.mp ((h x).mpr (List.mem_cons_of_mem _ hx)) with e | hx2
      · subst e
        exact (ir _ (h2.1 _ hx)).elim
      · exact hx2
def lexI (u v : Int × Int) : Prop := u.1 < v.1 ∨ (u.1 = v.1 ∧ u.2 < v.2)
theorem links_mem {n : Nat} {rows rows' : List (List Int)} {ws : List (Int × Int)} (T : Told n rows ws) (ok : WOK n ws) (so : SortedRows rows rows') (z : Int × Int) : z ∈ linksOf rows' ↔ z ∈ ws.map norm := by
  have hw : ∀ w ∈ ws, w.1 ≠ w.2 := fun w h => (ok.rng w h).2.2.2.2
  have len : rows'.length = n := by rw [← Paired.length so]; exact T.len
  unfold linksOf
  rw [List.mem_flatMap]
  constructor
  · rintro ⟨i, hi, hz⟩
    have hi := List.mem_range.mp hi
    unfold lrow at hz
    obtain ⟨o, ho, rfl⟩ := List.mem_map.mp hz
    obtain ⟨ho, lt⟩ := List.mem_filter.mp ho
    have lt := of_decide_eq_true lt
    rw [(sorted_row so i).1.mem_iff, T.at_ i (by omega)] at ho
    have := nbr_norm hw ho
    unfold norm at this
    simp only [lt, if_true] at this
    exact this
  · intro hz
    obtain ⟨w, h, rfl⟩ := List.mem_map.mp hz
    obtain ⟨r1, r2, r3, r4, ne⟩ := ok.rng w h
    have hlt : (norm w).1 < (norm w).2 ∧ 0 ≤ (norm w).1 ∧ (norm w).1 < n := by
      unfold norm
      split
      · exact ⟨by assumption, r1, r2⟩
      · exact ⟨show w.2 < w.1 by omega, r3, r4⟩
    obtain ⟨k, hk⟩ : ∃ k : Nat, (norm w).1 = k := ⟨(norm w).1.toNat, by omega⟩
    refine ⟨k, List.mem_range.mpr (by omega), ?_⟩
    unfold lrow
    refine List.mem_map.mpr ⟨(norm w).2, List.mem_filter.mpr ⟨?_, decide_eq_true (by omega)⟩, by rw [← hk]⟩
    rw [(sorted_row so k).1.mem_iff, T.at_ k (by omega)]
    refine norm_nbr hw ?_
    rw [← hk]
    have e : norm ((norm w).1, (norm w).2) = norm w := by
      show norm (norm w) = norm w
      have : (norm w).1 < (norm w).2 := hlt.1
      generalize norm w = u at *
      unfold norm
      rw [if_pos this]
    rw [e]
    exact hz
theorem nbr_nodup {n : Nat} {ws : List (Int × Int)} (ok : WOK n ws) (i : Int) : (nbr ws i).Nodup := by
  have hw : ∀ w ∈ ws, w.1 ≠ w.2 := fun w h => (ok.rng w h).2.2.2.2
  unfold nbr List.Nodup
  rw [List.pairwise_filterMap]
  have nd := ok.nd
  unfold List.Nodup at nd
  rw [List.pairwise_map] at nd
  refine List.Pairwise.imp_of_mem (fun {w u} mw mu hne b hb c hc => ?_) nd
  rintro rfl
  apply hne
  have key : ∀ {w : Int × Int}, w.1 ≠ w.2 → (if w.1 = i then some w.2 else if w.2 = i then some w.1 else none) = some b → norm w = norm (i, b) := fun {w} h e => by
    split at e
    · rename_i h1
      cases e
      rw [← h1]
    · split at e
      · rename_i h2
        cases e
        rcases norm_swap (a := w.1) (b := w.2) with q | q
        · rw [← h2]
          exact q
        · exact absurd q h
      · cases e
  rw [key (hw w mw) hb, key (hw u mu) hc]
theorem links_sorted {n : Nat} {rows rows' : List (List Int)} {ws : List (Int × Int)} (T : Told n rows ws) (ok : WOK n ws) (so : SortedRows rows rows') : (linksOf rows').Pairwise lexI := by
  have len : rows'.length = n := by rw [← Paired.length so]; exact T.len
  unfold linksOf
  rw [List.pairwise_flatMap]
  refine ⟨fun i hi => ?_, ?_⟩
  · have hi := List.mem_range.mp hi
    unfold lrow
    rw [List.pairwise_map]
    refine List.Pairwise.filter _ ?_
    obtain ⟨pm, pw⟩ := sorted_row so i
    have nd : (rowN rows' i).Nodup := by
      rw [pm.nodup_iff, T.at_ i (by omega)]
      exact nbr_nodup ok _
    exact (pw.and nd).imp fun {x y} h => .inr ⟨rfl, by
      have h1 := h.1
      have h2 : x ≠ y := h.2
      show x < y
      omega⟩
  · refine List.Pairwise.imp_of_mem (fun {i j} _ _ hij x hx y hy => ?_) (List.pairwise_lt_range (n := rows'.length))
    unfold lrow at hx hy
    obtain ⟨_, _, rfl⟩ := List.mem_map.mp hx
    obtain ⟨_, _, rfl⟩ := List.mem_map.mp hy
    exact .inl (show (i : Int) < j by omega)
theorem links_len {n : Nat} {rows rows' : List (List Int)} {ws : List (Int × Int)} (T : Told n rows ws) (ok : WOK n ws) (so : SortedRows rows rows') : (linksOf rows').length = ws.length := by
  have nd : (linksOf rows').Nodup := (links_sorted T ok so).imp fun {x y} h => by
    rintro rfl
    rcases h with h | h <;> omega
  have := (List.perm_ext_iff_of_nodup nd ok.nd).mpr (links_mem T ok so)
  rw [this.length_eq, List.length_map]
/-- the links of a network made of drawn ones, in any order, each way round -/
theorem links_back {n : Nat} {rows rows' : List (List Int)} {ws zs : List (Int × Int)} (T : Told n rows ws) (ok : WOK n ws) (so : SortedRows rows rows') (pm : (ws.map norm).Perm zs) (pw : zs.Pairwise lexI) : linksOf rows' = zs :=
  sorted_ext (fun x h => by rcases h with h | h <;> omega) (fun x y h1 h2 => by
    rcases h1 with h1 | h1 <;> rcases h2 with h2 | h2 <;> omega) (links_sorted T ok so) pw fun z => by rw [links_mem T ok so z, pm.mem_iff]
/-- drawn links, some of them, in any order, each way round, are fit -/
theorem links_wok {n : Nat} {zs ws : List (Int × Int)} (ok : LinksOK n zs) (pm : (ws.map norm).Perm zs) (nn : ∀ w ∈ ws, w.1 ≠ w.2) : WOK n ws := by
  have nz : ∀ w ∈ ws, norm w ∈ zs := fun w hw => pm.mem_iff.mp (List.mem_map.mpr ⟨w, hw, rfl⟩)
  refine ⟨fun w hw => ?_, pm.nodup_iff.mpr ok.nd, fun v hv => ?_⟩
  · have := ok.rng _ (nz w hw)
    rcases norm_cases w with e | e <;> rw [e] at this <;> (try simp only at this) <;> have := nn w hw <;> omega
  · have e : deg (ws.map norm) v = deg ws v := by
      unfold deg
      rw [List.filter_map, List.length_map]
      congr 1
      refine List.filter_congr fun w _ => ?_
      show ((norm w).1 == (v : Int) || (norm w).2 == (v : Int)) = _
      rcases norm_cases w with e | e <;> rw [e]
      exact Bool.or_comm _ _
    rw [← e]
    unfold deg
    rw [(pm.filter _).length_eq]
    exact ok.dg v hv

end K04
set_option maxRecDepth 100000
set_option maxHeartbeats 4000000
set_option pp.maxSteps 300
namespace K04
open PySem L2 NL
local macro_rules | `(tactic| walk_at "s1") => `(tactic| with_reducible first
  | refine w_seq ?_ | refine w_asg ?_ | refine w_drop ?_ | refine w_ret ?_ | refine w_next ?_ | refine w_ifS ?_
  | refine w_c ?_ | refine w_op ?_ | refine w_un ?_ | refine w_test ?_ | refine w_B ?_ | refine w_bl ?_ | refine w_not ?_ | refine w_and ?_ | refine w_or ?_
  | refine w_andV ?_ | refine w_orV ?_ | refine w_notV ?_ | refine w_blP ?_ | refine w_if ?_ | refine w_nil ?_ | refine w_cons ?_ | refine w_call ?_ | refine w_callS ?_ | refine w_callW ?_
  | refine w_cb ?_ | refine w_tup ?_ | refine w_lst ?_ | refine w_par ?_ | refine w_two ?_ | refine w_addI ?_ | refine w_I0 ?_ | refine w_neg ?_ | refine w_eqI ?_ | refine w_neI ?_
  | refine w_absI ?_ | refine w_intI ?_ | refine w_sub ?_ | refine w_bm0 ?_ | refine w_bm ?_ | refine w_iteT ?_ | refine w_iteF ?_ | refine w_iteNF ?_ | refine w_iteNT ?_ | refine w_lcT ?_ | refine w_lcL ?_
  | refine w_ref ?_ | refine w_sl ?_ | refine w_npart ?_ | refine w_part ?_ | refine w_iv ?_ | refine w_rev ?_ | refine w_forL ?_ | refine w_forT ?_ | refine w_forR1 ?_ | refine w_one ?_ | refine w_g ?_
  | refine w_asgT ?_ | refine w_gcons ?_ | refine w_gnil ?_ | refine w_lcR1 ?_ | refine w_sFld ?_ | refine w_fldR ?_ | refine w_forEL ?_ | refine w_forET ?_ | refine w_lc2E ?_
  | refine w_var (by with_unfolding_all rfl) ?_)
local macro_rules | `(tactic| walk_at "s") => `(tactic| repeat (walk_at "s1"))

/-! ### what stands through draws and lambdas -/
def Stp (a l : Addr) (H H' : Hp) : Prop := ∀ b o, H b = some o → b ≠ a → b ≠ l → (∀ ps, o ≠ .tbl ps) → H' b = some o
section
variable {a l b : Addr} {H H1 H2 H' : Hp} {xs : List V} {K : PySem.W.Frag} {T : List (Addr × Str)}
theorem Stp.refl : Stp a l H H := fun _ _ h _ _ _ => h
theorem Stp.trans (x : Stp a l H H1) (y : Stp a l H1 H2) : Stp a l H H2 := fun b o h h1 h2 h3 => y b o (x b o h h1 h2 h3) h1 h2 h3
theorem Stp.same (e : Same H H') : Stp a l H H' := fun b o h _ _ _ => e b o h
theorem Stp.ext (e : LamX.ExtN H H') : Stp a l H H' := fun b o h _ _ h3 => e b o h h3
theorem Stp.fr (f : Fr a l H H') : Stp a l H H' := fun b o h h1 h2 _ => f b o h h1 h2
theorem Stp.tup (s : Stp a l H H') (D : DealAt H a l) (h : H b = some (.tup xs)) : H' b = some (.tup xs) := by
  obtain ⟨ne, ns, c, e1, e2, r⟩ := D
  refine s b _ h ?_ ?_ fun _ z => by cases z
  · rintro rfl
    rw [h] at e1
    cases e1
  · rintro rfl
    rw [h] at e2
    cases e2
theorem Stp.lst (s : Stp a l H H') (h : H b = some (.lst xs)) (h1 : b ≠ a) (h2 : b ≠ l) : H' b = some (.lst xs) := s b _ h h1 h2 fun _ z => by cases z
theorem Stp.pair (s : Stp a l H H') (D : DealAt H a l) {z : Int × Int} {y : V} (h : PairAt H z y) : PairAt H' z y := by
  obtain ⟨t, h1, h2⟩ := h
  exact ⟨t, h1, s.tup D h2⟩
theorem Stp.pairs (s : Stp a l H H') (D : DealAt H a l) {zs : List (Int × Int)} {ys : List V} (h : Paired (fun z y => PairAt H z y) zs ys) : Paired (fun z y => PairAt H' z y) zs ys := Paired.mapP h fun _ _ q => s.pair D q
/-- the deal and the tables -/
structure DT (a l : Addr) (T : List (Addr × Str)) (H : Hp) : Prop where
  d : DealAt H a l
  t : LamX.Tabs T H
theorem DT.same (x : DT a l T H) (e : Same H H') : DT a l T H' := ⟨x.d.same e, x.t.ext e⟩
theorem DT.ext (x : DT a l T H) (e : LamX.ExtN H H') (t : LamX.Tabs T H') : DT a l T H' := ⟨x.d.extN e, t⟩
theorem DT.fr (x : DT a l T H) (D : DealAt H' a l) (f : Fr a l H H') : DT a l T H' := ⟨D, x.d.tabs f x.t⟩
end

/-! ### _law_modes_refused -/
abbrev TB3 (PM PL PF : Addr) : List (Addr × Str) := [(PM, ("_law_modes_refused" : Str) ++ ".<locals>." ++ "<lambda>"), (PL, ("_law_links_refused" : Str) ++ ".<locals>." ++ "<lambda>"), (PF, ("_law_fifth_right" : Str) ++ ".<locals>." ++ "<lambda>")]
theorem tb3_M {PM PL PF : Addr} (h1 : PL ≠ PM) (h2 : PF ≠ PM) : ∀ p ∈ TB3 PM PL PF, p.1 = PM → p.2 = ("_law_modes_refused" : Str) ++ ".<locals>." ++ "<lambda>" := fun p hp e => by
  simp only [List.mem_cons, List.not_mem_nil, or_false] at hp
  rcases hp with rfl | rfl | rfl
  · rfl
  · exact absurd e h1
  · exact absurd e h2
theorem tb3_L {PM PL PF : Addr} (h1 : PM ≠ PL) (h2 : PF ≠ PL) : ∀ p ∈ TB3 PM PL PF, p.1 = PL → p.2 = ("_law_links_refused" : Str) ++ ".<locals>." ++ "<lambda>" := fun p hp e => by
  simp only [List.mem_cons, List.not_mem_nil, or_false] at hp
  rcases hp with rfl | rfl | rfl
  · exact absurd e h1
  · rfl
  · exact absurd e h2
theorem tb3_F {PM PL PF : Addr} (h1 : PM ≠ PF) (h2 : PL ≠ PF) : ∀ p ∈ TB3 PM PL PF, p.1 = PF → p.2 = ("_law_fifth_right" : Str) ++ ".<locals>." ++ "<lambda>" := fun p hp e => by
  simp only [List.mem_cons, List.not_mem_nil, or_false] at hp
  rcases hp with rfl | rfl | rfl
  · exact absurd e h1
  · exact absurd e h2
  · rfl
theorem find_first {α : Type} {p : α → Bool} {pre rest : List α} {x : α} (h : ∀ y ∈ pre, p y = false) (hx : p x = true) : (pre ++ x :: rest).findIdx? p = some pre.length := by
  rw [List.findIdx?_append, List.findIdx?_eq_none_iff.mpr fun y hy => h y hy, List.findIdx?_cons, hx]
  simp
theorem modes_bad {ns : List Int} {db : PyData} {rest : List PyData} {d : PyData} (hd : d = .list (dInts ns ++ db :: rest) ∨ d = .tuple (dInts ns ++ db :: rest)) (h : ∀ x ∈ ns, 0 ≤ x ∧ x < 4) (b : ixD 4 db = false) : modesBad d = some ns.length := by
  have e : elemsD d = dInts ns ++ db :: rest ∧ seqD d = true := by rcases hd with rfl | rfl <;> exact ⟨rfl, rfl⟩
  unfold modesBad
  rw [e.1, e.2, if_pos ⟨rfl, by simp⟩, find_first (fun y hy => ?_) (by rw [b]; rfl)]
  · unfold dInts
    rw [List.length_map]
  · obtain ⟨i, hi, rfl⟩ := List.mem_map.mp hy
    have := h i hi
    show (!(decide (0 ≤ i) && decide (i < 4))) = false
    rw [decide_eq_true this.1, decide_eq_true this.2]
    rfl
theorem netD_bad {dm dl : PyData} {i : Nat} (h : modesBad dm = some i) : netD dm dl = .inl i := by
  unfold netD
  rw [h]
theorem strange2 {K : PySem.W.Frag} {H : Hp} {p1 p2 : Addr} {x : V} (h : x ∈ [V.int 4, V.int (0 - 1), V.non, V.bl true, V.str "0", V.ref p1, V.ref p2]) (h1 : H p1 = some (.tup [.int 0])) (h2 : H p2 = some (.lst [.int 1])) : ∃ d, Dp K H x d ∧ ixD 4 d = false := by
  simp only [List.mem_cons, List.not_mem_nil, or_false] at h
  rcases h with rfl | rfl | rfl | rfl | rfl | rfl | rfl
  · exact ⟨_, .int 4, by decide⟩
  · exact ⟨_, .int (0 - 1), by decide⟩
  · exact ⟨_, .non, rfl⟩
  · exact ⟨_, .bl true, rfl⟩
  · exact ⟨_, .str _, rfl⟩
  · exact ⟨.tuple [.int 0], .tup (.inl (.inl h1)) (.cons (.int 0) .nil), rfl⟩
  · exact ⟨.list [.int 1], .lst (SqL.of h2) (.cons (.int 1) .nil), rfl⟩
theorem noModes {K : PySem.W.Frag} {H : Hp} {p1 p2 p3 : Addr} {x : V} (h : x ∈ [V.non, V.ref p1, V.ref p2, V.int 3, V.str "01", V.ref p3, V.bl true]) (h1 : H p1 = some (.tup [])) (h2 : H p2 = some (.lst [])) (h3 : H p3 = some (.dK [])) : ∃ d, Dv K H x d ∧ modesBad d = some 0 ∧ (elemsD d).length ≤ 1000 := by
  simp only [List.mem_cons, List.not_mem_nil, or_false] at h
  rcases h with rfl | rfl | rfl | rfl | rfl | rfl | rfl
  · exact ⟨_, .dp .non, rfl, by decide⟩
  · exact ⟨.tuple [], .dp (.tup (.inl (.inl h1)) .nil), rfl, by decide⟩
  · exact ⟨.list [], .dp (.lst (SqL.of h2) .nil), rfl, by decide⟩
  · exact ⟨_, .dp (.int 3), rfl, by decide⟩
  · exact ⟨_, .dp (.str _), rfl, Nat.zero_le _⟩
  · exact ⟨_, .dct (.base (.dK h3)), rfl, by decide⟩
  · exact ⟨_, .dp (.bl true), rfl, by decide⟩
section
variable {P : Program} {w : World} {K : PySem.W.Frag} {mg : Str → Option Value} {base : Heap} {AA : Ad} {c PM PL PF : Addr}
def spModesRef (K : PySem.W.Frag) (PM PL PF : Addr) : Sp := fun vs H Q _ => ∃ (a l M L : Addr) (ms : List Int) (zs : List (Int × Int)) (ys : List V), vs = [.ref a, .ref M, .ref L] ∧ DT a l (TB3 PM PL PF) H ∧ H M = some (.lst (ms.map V.int)) ∧ M ≠ a ∧ M ≠ l ∧
  H L = some (.lst ys) ∧ L ≠ a ∧ L ≠ l ∧ Paired (fun z y => PairAt H z y) zs ys ∧ ms.length ≤ 9 ∧ (∀ x ∈ ms, 0 ≤ x ∧ x < 4) ∧ ∀ H', DT a l (TB3 PM PL PF) H' → Stp a l H H' → Q (.bl true) H'
theorem ok__law_modes_refused (T : Txt P K mg AA) (D : DefC K mg "_law_modes_refused" s__law_modes_refused ["_law_deal", "_law_modes", "_law_links_here"] c) (TB : LamX.TabB base mg c PM) (hh : Heard K AA.InvalidNetwork AA.InvalidNetwork AA.NetError) (d1 : PL ≠ PM) (d2 : PF ≠ PM) :
    KeptG P w K mg base CX0 11 "_law_modes_refused" s__law_modes_refused ["_law_deal", "_law_modes", "_law_links_here"] (spModesRef K PM PL PF) := by
  have O_Network := ok_Network (w := w) (base := base) T
  have O__law_any := ok__law_any (w := w) (base := base) T
  have O__law_of := ok__law_of (w := w) (base := base) T
  refine keepGC D sc__law_modes_refused (fun vs H Q E h => ?_) (fun f A outer s H vs Q E hgd hr h => ?_)
  · obtain ⟨a, l, M, L, ms, zs, ys, rfl, _⟩ := h
    rfl
  · obtain ⟨a, l, M, L, ms, zs, ys, rfl, B, eM, M1, M2, eL, L1, L2', pr, mz, mx, q⟩ := h
    refine ⟨_, (pss_cons (ps_par (i := 3) (j := 4) (by rfl) sc__law_modes_refused.nd rfl rfl (by decide) rfl rfl (pa_cons (pk_call O__law_any (hr.mono (by decide)) (pa_cons (pv 0) (pa_cons (pe_op oAdd (pe_callB cLen (by rfl) T.n_len PySem.boot_len (pa_cons (pv 1) pa_nil)) pe_int) pa_nil))) (pa_cons (pk_call O__law_of (hr.mono (by decide)) (pa_cons (pv 0) (pa_cons (pe_lst (pa_cons pe_int (pa_cons (pe_op op_sub pe_int pe_int) (pa_cons pe_non (pa_cons pe_bl (pa_cons pe_str (pa_cons (pe_tup (pa_cons pe_int pa_nil)) (pa_cons (pe_lst (pa_cons pe_int pa_nil)) pa_nil)))))))) pa_nil))) pa_nil)) (by rfl))
      (pss_cons (ps_asg (pe_op oAdd (pe_op oAdd (pe_op oAdd (pe_slice sl_any (pv 1) po_none (po_some (pv 3))) (pe_lst (pa_cons (pv 4) pa_nil))) (pe_slice sl_any (pv 1) (po_some (pv 3)) po_none)) (pe_ix ix_seq (pe_lst (pa_cons (pe_lst pa_nil) (pa_cons (pe_lst (pa_cons pe_int pa_nil)) pa_nil))) (pk_call O__law_any (hr.mono (by decide)) (pa_cons (pv 0) (pa_cons pe_int pa_nil))) (fun _ _ => rfl))) (pg_name (i := 5) sc__law_modes_refused.nd rfl (by first | exact Or.inl rfl | exact Or.inr rfl)))
      (pss_cons (ps_if (pt_cmpR (oNe (ru64 hr)) (pk_lam (k := 8) T.d__law_refused sc__law_refused rfl (Or.inl rfl) (fun g cdg => gv__law_refused T) TB rfl (List.mem_cons.mpr (.inl rfl)) (tb3_M d1 d2) (hr.mono (by decide)) (LamX.lamS_by (sc := defScope s__law_modes_refused) (by decide +kernel)) (fun A outer s H E f c' hr => (pk_newX O_Network (takes_of rfl rfl rfl rfl) (hr.mono (by decide)) (pa_cons (pv 5) (pa_cons (pv 2) pa_nil))))) (pv 3) (nomark _))
        (pss_one (ps_ret pe_bl)) pss_nil)
      (pss_cons (ps_if (pt_cmpR (oNe (ru64 hr)) (pk_lam (k := 8) T.d__law_refused sc__law_refused rfl (Or.inl rfl) (fun g cdg => gv__law_refused T) TB rfl (List.mem_cons.mpr (.inl rfl)) (tb3_M d1 d2) (hr.mono (by decide)) (LamX.lamS_by (sc := defScope s__law_modes_refused) (by decide +kernel)) (fun A outer s H E f c' hr => (pk_newWX (ks := ["links", "modes"]) (idx := [1, 0]) O_Network (takes_of rfl rfl rfl rfl) (fun _ _ _ _ _ _ us ws h1 h2 => match us, ws, h1, h2 with | [_], [_, _], _, _ => rfl) (hr.mono (by decide)) (pk_cons pe_non (pk_cons (pe_callTy (show CallR _ _ (aTuple K) from cTuple) (by rfl) T.n_tuple (by decide +kernel) (pa_cons (pv 5) pa_nil)) pk_nil))))) (pv 3) (nomark _))
        (pss_one (ps_ret pe_bl)) pss_nil)
      (pss_one (ps_ret (pe_cmpR (oEq (ru64 hr)) (pk_lam (k := 8) T.d__law_refused sc__law_refused rfl (Or.inl rfl) (fun g cdg => gv__law_refused T) TB rfl (List.mem_cons.mpr (.inl rfl)) (tb3_M d1 d2) (hr.mono (by decide)) (LamX.lamS_by (sc := defScope s__law_modes_refused) (by decide +kernel)) (fun A outer s H E f c' hr => (pk_newX O_Network (takes_of rfl rfl rfl rfl) (hr.mono (by decide)) (pa_cons (pk_call O__law_of (hr.mono (by decide)) (pa_cons (pv 0) (pa_cons (pe_lst (pa_cons pe_non (pa_cons (pe_tup pa_nil) (pa_cons (pe_lst pa_nil) (pa_cons pe_int (pa_cons pe_str (pa_cons pe_dnewK (pa_cons pe_bl pa_nil)))))))) pa_nil))) (pa_cons (pe_lst (pa_cons (pe_tup (pa_cons pe_int (pa_cons pe_int pa_nil))) pa_nil)) pa_nil))))) pe_int (nomark _)))))))), ?_⟩
    walk_at "s"
    refine w_lenL (SqL.of eM) ?_
    rw [List.length_map]
    walk_at "s"
    refine ⟨a, l, (ms.length : Int) + 1, rfl, by omega, by omega, B.d, fun at0 H1 a0 a1 D1 f1 => ?_⟩
    obtain ⟨k, rfl⟩ : ∃ k : Nat, at0 = k := ⟨at0.toNat, by omega⟩
    have B1 := B.fr D1 f1
    have t1 : Stp a l H H1 := Stp.fr f1
    clear D1 f1
    walk_at "s"
    refine ⟨show 1 ≤ sizeLine by decide +kernel, fun p1 n1 => ?_⟩
    have s2 : Same H1 _ := Same.newT (o := .tup [.int 0]) n1
    have u1 : upd H1 p1 (.tup [.int 0]) p1 = some (.tup [.int 0]) := upd_same
    generalize upd H1 p1 (.tup [.int 0]) = H2 at s2 u1
    have B2 := B1.same s2
    walk_at "s"
    refine ⟨show 1 ≤ sizeLine by decide +kernel, fun p2 n2 => ?_⟩
    have o2 := B2.d.off n2
    have s3 : Same H2 _ := Same.newT (o := .lst [.int 1]) n2
    have u2 : upd H2 p2 (.lst [.int 1]) p2 = some (.lst [.int 1]) := upd_same
    have u1 := s3 _ _ u1
    generalize upd H2 p2 (.lst [.int 1]) = H3 at s3 u1 u2
    have B3 := B2.same s3
    walk_at "s"
    refine ⟨show 7 ≤ sizeLine by decide +kernel, fun r nr => ?_⟩
    have o3 := B3.d.off nr
    have s4 : Same H3 _ := Same.newT (o := .lst [.int 4, .int (0 - 1), .non, .bl true, .str "0", .ref p1, .ref p2]) nr
    have ur : upd H3 r (.lst [.int 4, .int (0 - 1), .non, .bl true, .str "0", .ref p1, .ref p2]) r = some (.lst [.int 4, .int (0 - 1), .non, .bl true, .str "0", .ref p1, .ref p2]) := upd_same
    have u1 := s4 _ _ u1
    have u2 := s4 _ _ u2
    generalize upd H3 r (.lst [.int 4, .int (0 - 1), .non, .bl true, .str "0", .ref p1, .ref p2]) = H4 at s4 u1 u2 ur
    have B4 := B3.same s4
    have t4 : Stp a l H H4 := t1.trans (Stp.same (Same.trans s2 (Same.trans s3 s4)))
    walk_at "s"
    refine ⟨a, l, r, _, rfl, B4.d, SqL.of ur, o3.1, o3.2, show 0 < 7 by decide, show 7 ≤ 2 ^ 24 by decide, fun x hx H5 D5 f5 => ?_⟩
    have B5 := B4.fr D5 f5
    have t5 : Stp a l H H5 := t4.trans (Stp.fr f5)
    have u1 := (Stp.fr f5).tup B4.d u1
    have u2 := (Stp.fr f5).lst u2 o2.1 o2.2
    clear s2 s3 s4 ur B1 B2 B3 B4 t1 t4 D5 f5 n1 n2 nr
    walk_at "s"
    refine w_slL (SqL.of (t5.lst eM M1 M2)) (fun g1 m1 => ?_)
    rw [show cutV (ms.map V.int) none (some (k : Int)) = _ from cut_to _ k, ← List.map_take]
    have s6 : Same H5 _ := Same.newT (o := .lst ((ms.take k).map V.int)) m1
    have k1 : upd H5 g1 (.lst ((ms.take k).map V.int)) g1 = some (.lst ((ms.take k).map V.int)) := upd_same
    generalize upd H5 g1 (.lst ((ms.take k).map V.int)) = H6 at s6 k1
    walk_at "s"
    refine ⟨show 1 ≤ sizeLine by decide +kernel, fun g2 m2 => ?_⟩
    have s7 : Same H6 _ := Same.newT (o := .lst [x]) m2
    have k2 : upd H6 g2 (.lst [x]) g2 = some (.lst [x]) := upd_same
    have k1 := s7 _ _ k1
    generalize upd H6 g2 (.lst [x]) = H7 at s7 k1 k2
    have ltk : (ms.take k).length ≤ 9 := by rw [List.length_take]; omega
    walk_at "s"
    refine .inr (.inr ⟨g1, g2, _, _, rfl, rfl, k1, k2, ?_, fun g3 m3 => ?_⟩)
    · rw [List.length_map]
      exact Nat.le_of_lt (lt_size (by show (ms.take k).length + 1 ≤ 1000000; omega))
    have s8 : Same H7 _ := Same.newT (o := .lst ((ms.take k).map V.int ++ [x])) m3
    have k3 : upd H7 g3 (.lst ((ms.take k).map V.int ++ [x])) g3 = some (.lst ((ms.take k).map V.int ++ [x])) := upd_same
    generalize upd H7 g3 (.lst ((ms.take k).map V.int ++ [x])) = H8 at s8 k3
    have s58 := Same.trans s6 (Same.trans s7 s8)
    have t8 : Stp a l H H8 := t5.trans (Stp.same s58)
    clear s6 s7 s8 k1 k2 m1 m2 m3
    walk_at "s"
    refine w_slL (SqL.of (t8.lst eM M1 M2)) (fun g4 m4 => ?_)
    obtain ⟨m2, em2, _⟩ := cut_map ms (some (k : Int)) none
    have lm2 := cut_len (ms.map V.int) (some (k : Int)) none
    rw [em2, List.length_map, List.length_map] at lm2
    rw [em2]
    have s9 : Same H8 _ := Same.newT (o := .lst (m2.map V.int)) m4
    have k4 : upd H8 g4 (.lst (m2.map V.int)) g4 = some (.lst (m2.map V.int)) := upd_same
    have k3 := s9 _ _ k3
    generalize upd H8 g4 (.lst (m2.map V.int)) = H9 at s9 k3 k4
    walk_at "s"
    refine .inr (.inr ⟨g3, g4, _, _, rfl, rfl, k3, k4, ?_, fun g5 m5 => ?_⟩)
    · rw [List.length_append, List.length_map, List.length_map]
      exact Nat.le_of_lt (lt_size (by show (ms.take k).length + 1 + m2.length ≤ 1000000; omega))
    have s10 : Same H9 _ := Same.newT (o := .lst ((ms.take k).map V.int ++ [x] ++ m2.map V.int)) m5
    have k5 : upd H9 g5 (.lst ((ms.take k).map V.int ++ [x] ++ m2.map V.int)) g5 = some (.lst ((ms.take k).map V.int ++ [x] ++ m2.map V.int)) := upd_same
    generalize upd H9 g5 (.lst ((ms.take k).map V.int ++ [x] ++ m2.map V.int)) = H10 at s10 k5
    have s510 := Same.trans s58 (Same.trans s9 s10)
    have B10 := B5.same s510
    have o5 : g5 ≠ a ∧ g5 ≠ l := (B5.same (Same.trans s58 s9)).d.off m5
    clear s9 s10 k3 k4 m4 m5 s58 t8
    walk_at "s"
    refine ⟨show 0 ≤ sizeLine by decide +kernel, fun g6 m6 => ?_⟩
    have o6 := B10.d.off m6
    have s11 : Same H10 _ := Same.newT (o := .lst []) m6
    have k6 : upd H10 g6 (.lst []) g6 = some (.lst []) := upd_same
    have k5 := s11 _ _ k5
    generalize upd H10 g6 (.lst []) = H11 at s11 k5 k6
    have B11 := B10.same s11
    walk_at "s"
    refine ⟨show 1 ≤ sizeLine by decide +kernel, fun g7 m7 => ?_⟩
    have o7 := B11.d.off m7
    have s12 : Same H11 _ := Same.newT (o := .lst [.int 9]) m7
    have k7 : upd H11 g7 (.lst [.int 9]) g7 = some (.lst [.int 9]) := upd_same
    have k5 := s12 _ _ k5
    have k6 := s12 _ _ k6
    generalize upd H11 g7 (.lst [.int 9]) = H12 at s12 k5 k6 k7
    have B12 := B11.same s12
    walk_at "s"
    refine ⟨show 2 ≤ sizeLine by decide +kernel, fun g8 m8 => ?_⟩
    have o8 := B12.d.off m8
    have s13 : Same H12 _ := Same.newT (o := .lst [.ref g6, .ref g7]) m8
    have k8 : upd H12 g8 (.lst [.ref g6, .ref g7]) g8 = some (.lst [.ref g6, .ref g7]) := upd_same
    have k5 := s13 _ _ k5
    have k6 := s13 _ _ k6
    have k7 := s13 _ _ k7
    generalize upd H12 g8 (.lst [.ref g6, .ref g7]) = H13 at s13 k5 k6 k7 k8
    have B13 := B12.same s13
    have t13 : Stp a l H5 H13 := Stp.same (Same.trans s510 (Same.trans s11 (Same.trans s12 s13)))
    walk_at "s"
    refine ⟨a, l, 2, rfl, by decide, by decide, B13.d, fun tl H14 tl0 tl1 D14 f14 => ?_⟩
    have B14 := B13.fr D14 f14
    have tf : Stp a l H13 H14 := Stp.fr f14
    have t14 := t13.trans tf
    have k5 := tf.lst k5 o5.1 o5.2
    have k6 := tf.lst k6 o6.1 o6.2
    have k7 := tf.lst k7 o7.1 o7.2
    have k8 := tf.lst k8 o8.1 o8.2
    obtain ⟨gt, zt, et, kt, lt⟩ : ∃ (gt : Addr) (zt : List Int), atI [V.ref g6, .ref g7] tl = some (.ref gt) ∧ H14 gt = some (.lst (zt.map V.int)) ∧ zt.length ≤ 1 := by
      rcases (by omega : tl = 0 ∨ tl = 1) with rfl | rfl
      · exact ⟨g6, [], rfl, k6, by decide⟩
      · exact ⟨g7, [9], rfl, k7, by decide⟩
    walk_at "s"
    refine w_ixL (SqL.of k8) et ?_
    clear s11 s12 s13 k6 k7 k8 B10 B11 B12 B13 tf t13 D14 f14 m6 m7 m8
    refine .inr (.inr ⟨g5, gt, _, _, rfl, rfl, k5, kt, ?_, fun W mW => ?_⟩)
    · rw [List.length_append, List.length_append, List.length_map, List.length_map, List.length_map]
      exact Nat.le_of_lt (lt_size (by show (ms.take k).length + 1 + m2.length + zt.length ≤ 1000000; omega))
    have oW := B14.d.off mW
    have s15 : Same H14 _ := Same.newT (o := .lst ((ms.take k).map V.int ++ [x] ++ m2.map V.int ++ zt.map V.int)) mW
    have kW : upd H14 W (.lst ((ms.take k).map V.int ++ [x] ++ m2.map V.int ++ zt.map V.int)) W = some (.lst ((ms.take k).map V.int ++ [x] ++ m2.map V.int ++ zt.map V.int)) := upd_same
    generalize upd H14 W (.lst ((ms.take k).map V.int ++ [x] ++ m2.map V.int ++ zt.map V.int)) = H15 at s15 kW
    have B15 := B14.same s15
    have t15 : Stp a l H5 H15 := t14.trans (Stp.same s15)
    clear k5 kt B14 t14 s15 s510 et mW
    have lk : (ms.take k).length = k := by rw [List.length_take]; omega
    have mxk : ∀ x ∈ ms.take k, 0 ≤ x ∧ x < 4 := fun x hx => mx x (List.mem_of_mem_take hx)
    -- what the wrong modes are, wherever one looks
    have wrong : ∀ {H' : Hp}, Stp a l H15 H' → ∃ dx, DpAll K H' ((ms.take k).map V.int ++ [x] ++ m2.map V.int ++ zt.map V.int) (dInts (ms.take k) ++ dx :: (dInts m2 ++ dInts zt)) ∧ ixD 4 dx = false := fun {H'} st => by
      have st5 := t15.trans st
      obtain ⟨dx, h1, h2⟩ := strange2 (K := K) hx (st5.tup B5.d u1) (st5.lst u2 o2.1 o2.2)
      refine ⟨dx, ?_, h2⟩
      have := dp_app (dp_app (dp_app (dp_ints (K := K) (H := H') (ms.take k)) (.cons h1 .nil)) (dp_ints m2)) (dp_ints zt)
      simpa using this
    have len : ∀ dx : PyData, (dInts (ms.take k) ++ dx :: (dInts m2 ++ dInts zt)).length ≤ 1000 := fun dx => by
      unfold dInts
      rw [List.length_append, List.length_cons, List.length_append, List.length_map, List.length_map, List.length_map]
      omega
    have tH : Stp a l H H15 := t5.trans t15
    walk_at "s"
    refine ⟨B15.t, fun H16 e16 T16 => ?_⟩
    have B16 := B15.ext e16 T16
    have t16 : Stp a l H15 H16 := Stp.ext e16
    refine w_tref ?_
    walk_at "s"
    obtain ⟨dx, hW, bx⟩ := wrong t16
    have tH16 := tH.trans t16
    refine ⟨.ref W, .ref L, _, .list (zs.map pD), rfl, .dp (.lst (SqL.of (t16.lst kW oW.1 oW.2)) hW), .dp (.lst (SqL.of (tH16.lst eL L1 L2')) (dp_pairs (tH16.pairs B.d pr))), len dx, ?_⟩
    rw [netD_bad (modes_bad (.inl rfl) mxk bx)]
    intro dd H17 e17 nd
    refine ⟨AA.InvalidNetwork, dd, _, rfl, rfl, hh, upd_same, ?_⟩
    rw [lk]
    have B17 := (B16.same e17).same (Same.newT (o := .xd [("at", .int (k : Nat))]) nd)
    have t17 : Stp a l H15 (upd H17 dd (.xd [("at", .int (k : Nat))])) := t16.trans (Stp.same (Same.trans e17 (Same.newT nd)))
    generalize upd H17 dd (.xd [("at", .int (k : Nat))]) = H18 at B17 t17
    clear hW bx B16 T16 e16 e17 nd t16 tH16
    walk_at "s"
    refine w_iteN (fun z => absurd rfl z) (fun _ => ?_)
    walk_at "s"
    refine ⟨B17.t, fun H19 e19 T19 => ?_⟩
    have B19 := B17.ext e19 T19
    have t19 := t17.trans (Stp.ext e19)
    refine w_tref ?_
    walk_at "s"
    obtain ⟨dx, hW, bx⟩ := wrong t19
    refine seq_tuple (.inl (SqL.of (t19.lst kW oW.1 oW.2))) (fun tu H20 e20 Su => ?_)
    walk_at "s"
    refine ⟨rfl, rfl, .ref tu, .non, _, .none, rfl, .dp (.tup Su (DpAll.same hW e20)), .dp .non, len dx, ?_⟩
    rw [netD_bad (modes_bad (.inr rfl) mxk bx)]
    intro dd H21 e21 nd
    refine ⟨AA.InvalidNetwork, dd, _, rfl, rfl, hh, upd_same, ?_⟩
    rw [lk]
    have e2021 := Same.trans e20 (Same.trans e21 (Same.newT (o := .xd [("at", .int (k : Nat))]) nd))
    have B21 := B19.same e2021
    have t21 := t19.trans (Stp.same e2021)
    generalize upd H21 dd (.xd [("at", .int (k : Nat))]) = H22 at B21 t21
    clear hW bx B19 T19 e19 e20 e21 nd t19 e2021 Su B17 t17
    walk_at "s"
    refine w_iteN (fun z => absurd rfl z) (fun _ => ?_)
    walk_at "s"
    refine ⟨B21.t, fun H23 e23 T23 => ?_⟩
    have B23 := B21.ext e23 T23
    have t23 := t21.trans (Stp.ext e23)
    refine w_tref ?_
    walk_at "s"
    refine ⟨show 0 ≤ sizeLine by decide +kernel, fun q1 m1 => ?_⟩
    have s1 : Same H23 _ := Same.newT (o := .tup []) m1
    have u1 : upd H23 q1 (.tup []) q1 = some (.tup []) := upd_same
    generalize upd H23 q1 (.tup []) = H24 at s1 u1
    have B24 := B23.same s1
    walk_at "s"
    refine ⟨show 0 ≤ sizeLine by decide +kernel, fun q2 m2 => ?_⟩
    have o2 := B24.d.off m2
    have s2 : Same H24 _ := Same.newT (o := .lst []) m2
    have u2 : upd H24 q2 (.lst []) q2 = some (.lst []) := upd_same
    have u1 := s2 _ _ u1
    generalize upd H24 q2 (.lst []) = H25 at s2 u1 u2
    have B25 := B24.same s2
    walk_at "s"
    refine fun q3 m3 => ?_
    have o3 := B25.d.off m3
    have s3 : Same H25 _ := Same.newT (o := .dK []) m3
    have u3 : upd H25 q3 (.dK []) q3 = some (.dK []) := upd_same
    have u1 := s3 _ _ u1
    have u2 := s3 _ _ u2
    generalize upd H25 q3 (.dK []) = H26 at s3 u1 u2 u3
    have B26 := B25.same s3
    walk_at "s"
    refine ⟨show 7 ≤ sizeLine by decide +kernel, fun q4 m4 => ?_⟩
    have o4 := B26.d.off m4
    have s4 : Same H26 _ := Same.newT (o := .lst [.non, .ref q1, .ref q2, .int 3, .str "01", .ref q3, .bl true]) m4
    have u4 : upd H26 q4 (.lst [.non, .ref q1, .ref q2, .int 3, .str "01", .ref q3, .bl true]) q4 = some (.lst [.non, .ref q1, .ref q2, .int 3, .str "01", .ref q3, .bl true]) := upd_same
    have u1 := s4 _ _ u1
    have u2 := s4 _ _ u2
    have u3 := s4 _ _ u3
    generalize upd H26 q4 (.lst [.non, .ref q1, .ref q2, .int 3, .str "01", .ref q3, .bl true]) = H27 at s4 u1 u2 u3 u4
    have B27 := B26.same s4
    have t27 := t23.trans (Stp.same (Same.trans s1 (Same.trans s2 (Same.trans s3 s4))))
    walk_at "s"
    refine ⟨a, l, q4, _, rfl, B27.d, SqL.of u4, o4.1, o4.2, show 0 < 7 by decide, show 7 ≤ 2 ^ 24 by decide, fun y hy H28 D28 f28 => ?_⟩
    have B28 := B27.fr D28 f28
    have t28 := t27.trans (Stp.fr f28)
    obtain ⟨dy, hdy, by0, ly⟩ := noModes (K := K) hy ((Stp.fr f28).tup B27.d u1) ((Stp.fr f28).lst u2 o2.1 o2.2) (f28 _ _ u3 o3.1 o3.2)
    walk_at "s"
    refine ⟨show 2 ≤ sizeLine by decide +kernel, fun q5 m5 => ?_⟩
    have s5 : Same H28 _ := Same.newT (o := .tup [.int 0, .int 0]) m5
    have u5 : upd H28 q5 (.tup [.int 0, .int 0]) q5 = some (.tup [.int 0, .int 0]) := upd_same
    generalize upd H28 q5 (.tup [.int 0, .int 0]) = H29 at s5 u5
    walk_at "s"
    refine ⟨show 1 ≤ sizeLine by decide +kernel, fun q6 m6 => ?_⟩
    have s6 : Same H29 _ := Same.newT (o := .lst [.ref q5]) m6
    have u6 : upd H29 q6 (.lst [.ref q5]) q6 = some (.lst [.ref q5]) := upd_same
    have u5 := s6 _ _ u5
    generalize upd H29 q6 (.lst [.ref q5]) = H30 at s6 u5 u6
    have s56 := Same.trans s5 s6
    walk_at "s"
    refine ⟨y, .ref q6, dy, .list [pD (0, 0)], rfl, hdy.same s56, .dp (.lst (SqL.of u6) (.cons (dp_pair (z := (0, 0)) ⟨q5, rfl, u5⟩) .nil)), ly, ?_⟩
    rw [netD_bad by0]
    intro dd H31 e31 nd
    refine ⟨AA.InvalidNetwork, dd, _, rfl, rfl, hh, upd_same, ?_⟩
    have e2831 := Same.trans s56 (Same.trans e31 (Same.newT (o := .xd [("at", .int (0 : Nat))]) nd))
    have B31 := B28.same e2831
    have t31 := t28.trans (Stp.same e2831)
    generalize upd H31 dd (.xd [("at", .int (0 : Nat))]) = H32 at B31 t31
    walk_at "s"
    exact q _ B31 (tH.trans t31)
end

end K04
set_option maxRecDepth 100000
set_option maxHeartbeats 4000000
set_option pp.maxSteps 300
namespace K04
open PySem L2 NL
local macro_rules | `(tactic| walk_at "s1") => `(tactic| with_reducible first
  | refine w_seq ?_ | refine w_asg ?_ | refine w_drop ?_ | refine w_ret ?_ | refine w_next ?_ | refine w_ifS ?_
  | refine w_c ?_ | refine w_op ?_ | refine w_un ?_ | refine w_test ?_ | refine w_B ?_ | refine w_bl ?_ | refine w_not ?_ | refine w_and ?_ | refine w_or ?_
  | refine w_andV ?_ | refine w_orV ?_ | refine w_notV ?_ | refine w_blP ?_ | refine w_if ?_ | refine w_nil ?_ | refine w_cons ?_ | refine w_call ?_ | refine w_callS ?_ | refine w_callW ?_
  | refine w_cb ?_ | refine w_tup ?_ | refine w_lst ?_ | refine w_par ?_ | refine w_two ?_ | refine w_addI ?_ | refine w_I0 ?_ | refine w_neg ?_ | refine w_eqI ?_ | refine w_neI ?_
  | refine w_absI ?_ | refine w_intI ?_ | refine w_sub ?_ | refine w_bm0 ?_ | refine w_bm ?_ | refine w_iteT ?_ | refine w_iteF ?_ | refine w_iteNF ?_ | refine w_iteNT ?_ | refine w_lcT ?_ | refine w_lcL ?_
  | refine w_ref ?_ | refine w_sl ?_ | refine w_npart ?_ | refine w_part ?_ | refine w_iv ?_ | refine w_rev ?_ | refine w_forL ?_ | refine w_forT ?_ | refine w_forR1 ?_ | refine w_one ?_ | refine w_g ?_
  | refine w_asgT ?_ | refine w_gcons ?_ | refine w_gnil ?_ | refine w_lcR1 ?_ | refine w_sFld ?_ | refine w_fldR ?_ | refine w_forEL ?_ | refine w_forET ?_ | refine w_lc2E ?_
  | refine w_var (by with_unfolding_all rfl) ?_)
local macro_rules | `(tactic| walk_at "s") => `(tactic| repeat (walk_at "s1"))

/-! ### _law_links_refused -/
theorem nl_same {n : Int} {s : Int} {d : PyData} (hd : d = .tuple [.int s, .int s] ∨ d = .list [.int s, .int s]) : linkD n d = false := by
  have e : linkD n d = (true && (ixD n (.int s) && ixD n (.int s) && !PyData.eqv (.int s) (.int s))) := by rcases hd with rfl | rfl <;> rfl
  rw [e, show PyData.eqv (.int s) (.int s) = true from beq_self_eq_true s]
  simp
theorem nl_many {n s : Int} {d : PyData} (hd : d = .tuple [.int s, .int n] ∨ d = .list [.int s, .int n]) : linkD n d = false := by
  have e : linkD n d = (true && (ixD n (.int s) && ixD n (.int n) && !PyData.eqv (.int s) (.int n))) := by rcases hd with rfl | rfl <;> rfl
  rw [e, show ixD n (.int n) = false by show (decide (0 ≤ n) && decide (n < n)) = false; rw [decide_eq_false (Int.lt_irrefl n), Bool.and_false]]
  simp
theorem nl_none {n s : Int} : linkD n (.tuple [.int s, .none]) = false := by
  show (true && (ixD n (.int s) && false && _)) = false
  rw [Bool.and_false, Bool.false_and, Bool.and_false]
/-- a candidate: no link, or one that is there -/
def Cand (K : PySem.W.Frag) (a l : Addr) (n : Nat) (zs : List (Int × Int)) (H : Hp) (x : V) : Prop := ∃ d, (∀ H', Stp a l H H' → Dp K H' x d) ∧ (linkD n d = false ∨ (linkD n d = true ∧ ∃ z ∈ zs, pairOf d = z ∨ pairOf d = (z.2, z.1)))
theorem Cand.stp {K : PySem.W.Frag} {a l : Addr} {n : Nat} {zs : List (Int × Int)} {H H' : Hp} {x : V} (h : Cand K a l n zs H x) (e : Stp a l H H') : Cand K a l n zs H' x := by
  obtain ⟨d, h, q⟩ := h
  exact ⟨d, fun H2 s => h H2 (e.trans s), q⟩
theorem Cand.same {K : PySem.W.Frag} {a l : Addr} {n : Nat} {zs : List (Int × Int)} {H H' : Hp} {x : V} (h : Cand K a l n zs H x) (e : Same H H') : Cand K a l n zs H' x := h.stp (Stp.same e)
theorem allC0 {K : PySem.W.Frag} {a l : Addr} {n : Nat} {zs : List (Int × Int)} {H : Hp} : ∀ x ∈ ([] : List V), Cand K a l n zs H x := fun x h => by cases h
theorem allC {K : PySem.W.Frag} {a l : Addr} {n : Nat} {zs : List (Int × Int)} {H : Hp} {x : V} {xs : List V} (h : Cand K a l n zs H x) (A : ∀ x ∈ xs, Cand K a l n zs H x) : ∀ y ∈ x :: xs, Cand K a l n zs H y := fun y hy => by
  rcases List.mem_cons.mp hy with rfl | hy
  · exact h
  · exact A y hy
theorem link_ok {n : Nat} {a b : Int} {d : PyData} (hd : d = .tuple [.int a, .int b] ∨ d = .list [.int a, .int b]) (a0 : 0 ≤ a) (a1 : a < n) (b0 : 0 ≤ b) (b1 : b < n) (ne : a ≠ b) : LD n d (a, b) := by
  have e : linkD n d = (true && (ixD n (.int a) && ixD n (.int b) && !(a == b))) ∧ pairOf d = (a, b) := by rcases hd with rfl | rfl <;> exact ⟨rfl, rfl⟩
  refine ⟨?_, e.2⟩
  rw [e.1]
  show (true && ((decide (0 ≤ a) && decide (a < (n : Int))) && (decide (0 ≤ b) && decide (b < (n : Int))) && !(a == b))) = true
  rw [decide_eq_true a0, decide_eq_true a1, decide_eq_true b0, decide_eq_true b1, show (a == b) = false by simpa using ne]
  rfl
theorem norm_id {zs : List (Int × Int)} (h : ∀ z ∈ zs, z.1 < z.2) : zs.map norm = zs := by
  induction zs with
  | nil => rfl
  | cons z zs ih =>
    rw [List.map_cons, ih fun w hw => h w (List.mem_cons_of_mem _ hw)]
    congr 1
    unfold norm
    rw [if_pos (h z List.mem_cons_self)]
theorem LinksOK.wok {n : Nat} {zs : List (Int × Int)} (ok : LinksOK n zs) : WOK n zs := links_wok ok (by rw [norm_id fun z hz => (ok.rng z hz).2.1]) fun z hz => by have := ok.rng z hz; omega
theorem LinksOK.ld {n : Nat} {zs : List (Int × Int)} (h : ∀ z ∈ zs, 0 ≤ z.1 ∧ z.1 < z.2 ∧ z.2 < (n : Int)) : Paired (LD n) (zs.map pD) zs := by
  induction zs with
  | nil => exact .nil
  | cons z zs ih =>
    have := h z List.mem_cons_self
    exact .cons (link_ok (.inl rfl) (by omega) (by omega) (by omega) (by omega) (by omega)) (ih fun w hw => h w (List.mem_cons_of_mem _ hw))
/-- a wrong link behind k good ones -/
theorem rows_bad {n k : Nat} {zs : List (Int × Int)} {d : PyData} {rest : List PyData} (ok : LinksOK n zs) (hk : k ≤ zs.length) (hd : linkD n d = false ∨ (linkD n d = true ∧ ∃ z ∈ zs.take k, pairOf d = z ∨ pairOf d = (z.2, z.1))) :
    goR n 0 (List.replicate n []) ((zs.take k).map pD ++ d :: rest) = .inl k := by
  have w1 : WOK n (zs.take k) := WOK.pre (ws := zs.drop k) (by rw [List.take_append_drop]; exact ok.wok)
  obtain ⟨r, hr, T⟩ := go_ok (k := 0) (us := []) (ws := zs.take k) (LinksOK.ld fun z hz => ok.rng z (List.mem_of_mem_take hz)) (told0 n) w1
  rw [goR_append hr, List.length_map, List.length_take, Nat.min_eq_left hk, Nat.zero_add]
  rcases hd with hd | ⟨hd, z, hz, hp⟩
  · exact goR_bad hd
  · refine goR_none hd ?_
    obtain ⟨a, b, _, pr, a0, a1, b0, b1, ne, _⟩ := link_pair hd
    rw [pr] at hp ⊢
    obtain ⟨a, rfl⟩ : ∃ k : Nat, a = k := ⟨a.toNat, by omega⟩
    obtain ⟨b, rfl⟩ : ∃ k : Nat, b = k := ⟨b.toNat, by omega⟩
    refine step_dup T (fun w hw => (w1.rng w (by simpa using hw)).2.2.2.2) (by omega) ?_
    rw [List.nil_append]
    refine List.mem_map.mpr ⟨z, hz, ?_⟩
    rcases hp with hp | hp
    · rw [hp]
    · rw [hp]
      rcases norm_swap (a := z.1) (b := z.2) with e | e
      · exact e
      · have := ok.rng z (List.mem_of_mem_take hz)
        omega
theorem dInts_len (ms : List Int) : (dInts ms).length = ms.length := by
  unfold dInts
  rw [List.length_map]
theorem modes_fit {ms : List Int} {d : PyData} (hd : d = .list (dInts ms) ∨ d = .tuple (dInts ms)) (h1 : 1 ≤ ms.length) (h : ∀ x ∈ ms, 0 ≤ x ∧ x < 4) : modesBad d = none ∧ elemsD d = dInts ms := by
  have e : elemsD d = dInts ms ∧ seqD d = true := by rcases hd with rfl | rfl <;> exact ⟨rfl, rfl⟩
  have hne : dInts ms ≠ [] := fun z => by
    have := congrArg List.length z
    rw [dInts_len] at this
    have : ms.length = 0 := this
    omega
  refine ⟨?_, e.1⟩
  unfold modesBad
  rw [e.1, e.2, if_pos ⟨rfl, hne⟩, List.findIdx?_eq_none_iff]
  intro x hx
  obtain ⟨i, hi, rfl⟩ := List.mem_map.mp hx
  have := h i hi
  show (!(decide (0 ≤ i) && decide (i < 4))) = false
  rw [decide_eq_true this.1, decide_eq_true this.2]
  rfl
theorem netD_links {dm dl : PyData} {ms : List Int} {i : Nat} (hd : dm = .list (dInts ms) ∨ dm = .tuple (dInts ms)) (h1 : 1 ≤ ms.length) (h : ∀ x ∈ ms, 0 ≤ x ∧ x < 4) (hr : rowsD ms.length dl = .inl i) : netD dm dl = .inl (ms.length + i) := by
  obtain ⟨e1, e2⟩ := modes_fit hd h1 h
  unfold netD
  rw [e1]
  show (match rowsD (elemsD dm).length dl with | .inl i => _ | .inr rows => _) = _
  rw [e2, dInts_len, hr]
theorem noLinks {K : PySem.W.Frag} {H : Hp} {p3 : Addr} {x : V} (h : x ∈ [V.non, V.int 3, V.str "0", V.ref p3, V.bl false]) (h3 : H p3 = some (.dK [])) : ∃ d, Dv K H x d ∧ ∀ n, rowsD n d = .inl 0 := by
  simp only [List.mem_cons, List.not_mem_nil, or_false] at h
  rcases h with rfl | rfl | rfl | rfl | rfl
  · exact ⟨_, .dp .non, fun _ => rfl⟩
  · exact ⟨_, .dp (.int 3), fun _ => rfl⟩
  · exact ⟨_, .dp (.str _), fun _ => rfl⟩
  · exact ⟨_, .dct (.base (.dK h3)), fun _ => rfl⟩
  · exact ⟨_, .dp (.bl false), fun _ => rfl⟩
theorem paired_take {α γ : Type} {F : α → γ → Prop} : ∀ {l1 : List α} {l2 : List γ} (k : Nat), Paired F l1 l2 → Paired F (l1.take k) (l2.take k)
  | _, _, 0, _ => .nil
  | _, _, k + 1, .nil => .nil
  | _, _, k + 1, .cons h t => .cons h (paired_take k t)
theorem paired_drop {α γ : Type} {F : α → γ → Prop} : ∀ {l1 : List α} {l2 : List γ} (k : Nat), Paired F l1 l2 → Paired F (l1.drop k) (l2.drop k)
  | _, _, 0, h => h
  | _, _, k + 1, .nil => .nil
  | _, _, k + 1, .cons h t => paired_drop k t
theorem cut_from (xs : List V) (k : Nat) : cutV xs (some (k : Int)) none = xs.drop k := by
  unfold cutV
  show List.take (xs.length - HT.sIx xs.length 0 (some (k : Int))) (xs.drop (HT.sIx xs.length 0 (some (k : Int)))) = _
  rw [show HT.sIx xs.length 0 (some (k : Int)) = min k xs.length from HT.sIx_nat _ _ _]
  rcases Nat.le_total k xs.length with h | h
  · rw [Nat.min_eq_left h]
    exact List.take_of_length_le (by rw [List.length_drop]; exact Nat.le_refl _)
  · rw [Nat.min_eq_right h, Nat.sub_self, List.take_zero, List.drop_of_length_le h]
section
variable {P : Program} {w : World} {K : PySem.W.Frag} {mg : Str → Option Value} {base : Heap} {AA : Ad} {c PM PL PF : Addr}
def spLinksRef (K : PySem.W.Frag) (PM PL PF : Addr) : Sp := fun vs H Q _ => ∃ (a l M L : Addr) (ms : List Int) (zs : List (Int × Int)) (ys : List V), vs = [.ref a, .ref M, .ref L] ∧ DT a l (TB3 PM PL PF) H ∧ H M = some (.lst (ms.map V.int)) ∧ M ≠ a ∧ M ≠ l ∧
  H L = some (.lst ys) ∧ L ≠ a ∧ L ≠ l ∧ Paired (fun z y => PairAt H z y) zs ys ∧ 1 ≤ ms.length ∧ ms.length ≤ 9 ∧ LinksOK ms.length zs ∧ (∀ x ∈ ms, 0 ≤ x ∧ x < 4) ∧ ∀ H', DT a l (TB3 PM PL PF) H' → Stp a l H H' → Q (.bl true) H'
theorem ok__law_links_refused (T : Txt P K mg AA) (D : DefC K mg "_law_links_refused" s__law_links_refused ["_law_deal", "_law_modes", "_law_links_here"] c) (TB : LamX.TabB base mg c PL) (hh : Heard K AA.InvalidNetwork AA.InvalidNetwork AA.NetError) (d1 : PM ≠ PL) (d2 : PF ≠ PL) :
    KeptG P w K mg base CX0 11 "_law_links_refused" s__law_links_refused ["_law_deal", "_law_modes", "_law_links_here"] (spLinksRef K PM PL PF) := by
  have O_Network := ok_Network (w := w) (base := base) T
  have O__law_any := ok__law_any (w := w) (base := base) T
  have O__law_of := ok__law_of (w := w) (base := base) T
  refine keepGC D sc__law_links_refused (fun vs H Q E h => ?_) (fun f A outer s H vs Q E hgd hr h => ?_)
  · obtain ⟨a, l, M, L, ms, zs, ys, rfl, _⟩ := h
    rfl
  · obtain ⟨a, l, M, L, ms, zs, ys, rfl, B, eM, M1, M2, eL, L1, L2', pr, m1, mz, ok, mx, q⟩ := h
    refine ⟨_, (pss_cons (ps_par (i := 3) (j := 4) (by rfl) sc__law_links_refused.nd rfl rfl (by decide) rfl rfl (pa_cons (pe_callB cLen (by rfl) T.n_len PySem.boot_len (pa_cons (pv 1) pa_nil)) (pa_cons (pk_call O__law_any (hr.mono (by decide)) (pa_cons (pv 0) (pa_cons (pe_op oAdd (pe_callB cLen (by rfl) T.n_len PySem.boot_len (pa_cons (pv 2) pa_nil)) pe_int) pa_nil))) pa_nil)) (by rfl))
      (pss_cons (ps_asg (pk_call O__law_any (hr.mono (by decide)) (pa_cons (pv 0) (pa_cons (pv 3) pa_nil))) (pg_name (i := 5) sc__law_links_refused.nd rfl (by first | exact Or.inl rfl | exact Or.inr rfl)))
      (pss_cons (ps_asg (pe_lst (pa_cons (pe_tup (pa_cons (pv 5) (pa_cons (pv 5) pa_nil))) (pa_cons (pe_tup (pa_cons (pv 5) (pa_cons (pv 3) pa_nil))) (pa_cons (pe_tup (pa_cons (pe_op op_sub pe_int pe_int) (pa_cons (pv 5) pa_nil))) (pa_cons (pe_tup (pa_cons (pv 5) pa_nil)) (pa_cons (pe_tup (pa_cons (pv 5) (pa_cons (pv 5) (pa_cons (pv 5) pa_nil)))) (pa_cons pe_non (pa_cons pe_int (pa_cons pe_str (pa_cons (pe_tup (pa_cons (pv 5) (pa_cons pe_non pa_nil))) (pa_cons (pe_tup (pa_cons pe_bl (pa_cons (pv 3) pa_nil))) (pa_cons (pe_lst (pa_cons (pv 5) (pa_cons (pv 5) pa_nil))) pa_nil)))))))))))) (pg_name (i := 6) sc__law_links_refused.nd rfl (by first | exact Or.inl rfl | exact Or.inr rfl)))
      (pss_cons (ps_for PassesOwn.never rfl (pi_list (pe_slice sl_any (pe_slice sl_any (pv 2) po_none (po_some (pv 4))) po_none (po_some pe_int))) (pg_tup rfl (pgs_cons (pg_name (i := 7) sc__law_links_refused.nd rfl (by first | exact Or.inl rfl | exact Or.inr rfl)) (pgs_cons (pg_name (i := 8) sc__law_links_refused.nd rfl (by first | exact Or.inl rfl | exact Or.inr rfl)) pgs_nil)))
        (pss_one (ps_asg (pe_op oAdd (pv 6) (pe_lst (pa_cons (pe_tup (pa_cons (pv 7) (pa_cons (pv 8) pa_nil))) (pa_cons (pe_lst (pa_cons (pv 8) (pa_cons (pv 7) pa_nil))) pa_nil)))) (pg_name (i := 6) sc__law_links_refused.nd rfl (by first | exact Or.inl rfl | exact Or.inr rfl)))))
      (pss_cons (ps_asg (pe_op oAdd (pe_op oAdd (pe_op oAdd (pe_slice sl_any (pv 2) po_none (po_some (pv 4))) (pe_lst (pa_cons (pk_call O__law_of (hr.mono (by decide)) (pa_cons (pv 0) (pa_cons (pv 6) pa_nil))) pa_nil))) (pe_slice sl_any (pv 2) (po_some (pv 4)) po_none)) (pe_ix ix_seq (pe_lst (pa_cons (pe_lst pa_nil) (pa_cons (pe_lst (pa_cons (pe_tup (pa_cons pe_int (pa_cons pe_int pa_nil))) pa_nil)) pa_nil))) (pk_call O__law_any (hr.mono (by decide)) (pa_cons (pv 0) (pa_cons pe_int pa_nil))) (fun _ _ => rfl))) (pg_name (i := 9) sc__law_links_refused.nd rfl (by first | exact Or.inl rfl | exact Or.inr rfl)))
      (pss_cons (ps_if (pt_cmpR (oNe (ru64 hr)) (pk_lam (k := 8) T.d__law_refused sc__law_refused rfl (Or.inl rfl) (fun g cdg => gv__law_refused T) TB rfl (List.mem_cons.mpr (.inr (List.mem_cons.mpr (.inl rfl)))) (tb3_L d1 d2) (hr.mono (by decide)) (LamX.lamS_by (sc := defScope s__law_links_refused) (by decide +kernel)) (fun A outer s H E f c' hr => (pk_newX O_Network (takes_of rfl rfl rfl rfl) (hr.mono (by decide)) (pa_cons (pv 1) (pa_cons (pv 9) pa_nil))))) (pe_op oAdd (pv 3) (pv 4)) (nomark _))
        (pss_one (ps_ret pe_bl)) pss_nil)
      (pss_cons (ps_if (pt_cmpR (oNe (ru64 hr)) (pk_lam (k := 8) T.d__law_refused sc__law_refused rfl (Or.inl rfl) (fun g cdg => gv__law_refused T) TB rfl (List.mem_cons.mpr (.inr (List.mem_cons.mpr (.inl rfl)))) (tb3_L d1 d2) (hr.mono (by decide)) (LamX.lamS_by (sc := defScope s__law_links_refused) (by decide +kernel)) (fun A outer s H E f c' hr => (pk_newX O_Network (takes_of rfl rfl rfl rfl) (hr.mono (by decide)) (pa_cons (pe_callTy (show CallR _ _ (aTuple K) from cTuple) (by rfl) T.n_tuple (by decide +kernel) (pa_cons (pv 1) pa_nil)) (pa_cons (pe_callTy (show CallR _ _ (aTuple K) from cTuple) (by rfl) T.n_tuple (by decide +kernel) (pa_cons (pv 9) pa_nil)) pa_nil))))) (pe_op oAdd (pv 3) (pv 4)) (nomark _))
        (pss_one (ps_ret pe_bl)) pss_nil)
      (pss_one (ps_ret (pe_cmpR (oEq (ru64 hr)) (pk_lam (k := 8) T.d__law_refused sc__law_refused rfl (Or.inl rfl) (fun g cdg => gv__law_refused T) TB rfl (List.mem_cons.mpr (.inr (List.mem_cons.mpr (.inl rfl)))) (tb3_L d1 d2) (hr.mono (by decide)) (LamX.lamS_by (sc := defScope s__law_links_refused) (by decide +kernel)) (fun A outer s H E f c' hr => (pk_newX O_Network (takes_of rfl rfl rfl rfl) (hr.mono (by decide)) (pa_cons (pv 1) (pa_cons (pk_call O__law_of (hr.mono (by decide)) (pa_cons (pv 0) (pa_cons (pe_lst (pa_cons pe_non (pa_cons pe_int (pa_cons pe_str (pa_cons pe_dnewK (pa_cons pe_bl pa_nil)))))) pa_nil))) pa_nil))))) (pv 3) (nomark _))))))))))), ?_⟩
    have lz : zs.length = ys.length := Paired.length pr
    have zl : zs.length ≤ 1000 := by
      have := len_deg (n := ms.length) (zs := zs) (fun z hz => by have := ok.rng z hz; omega) ok.dg
      omega
    generalize hn : ms.length = n at *
    walk_at "s"
    refine w_lenL (SqL.of eM) ?_
    rw [List.length_map, hn]
    walk_at "s"
    refine w_lenL (SqL.of eL) ?_
    walk_at "s"
    refine ⟨a, l, (ys.length : Int) + 1, rfl, by omega, by omega, B.d, fun at0 H1 a0 a1 D1 f1 => ?_⟩
    obtain ⟨k, rfl⟩ : ∃ k : Nat, at0 = k := ⟨at0.toNat, by omega⟩
    have B1 := B.fr D1 f1
    have t1 : Stp a l H H1 := Stp.fr f1
    walk_at "s"
    refine ⟨a, l, n, rfl, by omega, by omega, B1.d, fun st0 A0 st00 st01 D2 f2 => ?_⟩
    obtain ⟨st, rfl⟩ : ∃ k : Nat, st0 = k := ⟨st0.toNat, by omega⟩
    have B2 := B1.fr D2 f2
    have t2 : Stp a l H A0 := t1.trans (Stp.fr f2)
    clear D1 f1 t1 B1 D2 f2
    walk_at "s"
    have a0 : Same A0 A0 := Same.refl A0
    refine ⟨show 2 ≤ sizeLine by decide +kernel, fun q1 m1 => ?_⟩
    have s1 : Same A0 _ := Same.newT (o := .tup [.int (st : Nat), .int (st : Nat)]) m1
    have u1 : upd A0 q1 (.tup [.int (st : Nat), .int (st : Nat)]) q1 = some (.tup [.int (st : Nat), .int (st : Nat)]) := upd_same
    generalize upd A0 q1 (.tup [.int (st : Nat), .int (st : Nat)]) = A1 at s1 u1
    have a1 := Same.trans a0 s1
    have D1 := (B2.same a1).d
    have o1 := (B2.same a0).d.off m1
    have F1 : Cand K a l n (zs.take k) A1 (.ref q1) := ⟨.tuple [.int st, .int st], fun H' s => .tup (.inl (.inl (s.tup D1 u1))) (.cons (.int _) (.cons (.int _) .nil)), .inl (nl_same (.inl rfl))⟩
    walk_at "s"
    refine ⟨show 2 ≤ sizeLine by decide +kernel, fun q2 m2 => ?_⟩
    have s2 : Same A1 _ := Same.newT (o := .tup [.int (st : Nat), .int (n : Nat)]) m2
    have u2 : upd A1 q2 (.tup [.int (st : Nat), .int (n : Nat)]) q2 = some (.tup [.int (st : Nat), .int (n : Nat)]) := upd_same
    generalize upd A1 q2 (.tup [.int (st : Nat), .int (n : Nat)]) = A2 at s2 u2
    have a2 := Same.trans a1 s2
    have F1 := Cand.same F1 s2
    have D2 := (B2.same a2).d
    have o2 := (B2.same a1).d.off m2
    have F2 : Cand K a l n (zs.take k) A2 (.ref q2) := ⟨.tuple [.int st, .int n], fun H' s => .tup (.inl (.inl (s.tup D2 u2))) (.cons (.int _) (.cons (.int _) .nil)), .inl (nl_many (.inl rfl))⟩
    walk_at "s"
    refine ⟨show 2 ≤ sizeLine by decide +kernel, fun q3 m3 => ?_⟩
    have s3 : Same A2 _ := Same.newT (o := .tup [.int (0 - 1), .int (st : Nat)]) m3
    have u3 : upd A2 q3 (.tup [.int (0 - 1), .int (st : Nat)]) q3 = some (.tup [.int (0 - 1), .int (st : Nat)]) := upd_same
    generalize upd A2 q3 (.tup [.int (0 - 1), .int (st : Nat)]) = A3 at s3 u3
    have a3 := Same.trans a2 s3
    have F1 := Cand.same F1 s3
    have F2 := Cand.same F2 s3
    have D3 := (B2.same a3).d
    have o3 := (B2.same a2).d.off m3
    have F3 : Cand K a l n (zs.take k) A3 (.ref q3) := ⟨.tuple [.int (0 - 1), .int st], fun H' s => .tup (.inl (.inl (s.tup D3 u3))) (.cons (.int _) (.cons (.int _) .nil)), .inl rfl⟩
    walk_at "s"
    refine ⟨show 1 ≤ sizeLine by decide +kernel, fun q4 m4 => ?_⟩
    have s4 : Same A3 _ := Same.newT (o := .tup [.int (st : Nat)]) m4
    have u4 : upd A3 q4 (.tup [.int (st : Nat)]) q4 = some (.tup [.int (st : Nat)]) := upd_same
    generalize upd A3 q4 (.tup [.int (st : Nat)]) = A4 at s4 u4
    have a4 := Same.trans a3 s4
    have F1 := Cand.same F1 s4
    have F2 := Cand.same F2 s4
    have F3 := Cand.same F3 s4
    have D4 := (B2.same a4).d
    have o4 := (B2.same a3).d.off m4
    have F4 : Cand K a l n (zs.take k) A4 (.ref q4) := ⟨.tuple [.int st], fun H' s => .tup (.inl (.inl (s.tup D4 u4))) (.cons (.int _) .nil), .inl rfl⟩
    walk_at "s"
    refine ⟨show 3 ≤ sizeLine by decide +kernel, fun q5 m5 => ?_⟩
    have s5 : Same A4 _ := Same.newT (o := .tup [.int (st : Nat), .int (st : Nat), .int (st : Nat)]) m5
    have u5 : upd A4 q5 (.tup [.int (st : Nat), .int (st : Nat), .int (st : Nat)]) q5 = some (.tup [.int (st : Nat), .int (st : Nat), .int (st : Nat)]) := upd_same
    generalize upd A4 q5 (.tup [.int (st : Nat), .int (st : Nat), .int (st : Nat)]) = A5 at s5 u5
    have a5 := Same.trans a4 s5
    have F1 := Cand.same F1 s5
    have F2 := Cand.same F2 s5
    have F3 := Cand.same F3 s5
    have F4 := Cand.same F4 s5
    have D5 := (B2.same a5).d
    have o5 := (B2.same a4).d.off m5
    have F5 : Cand K a l n (zs.take k) A5 (.ref q5) := ⟨.tuple [.int st, .int st, .int st], fun H' s => .tup (.inl (.inl (s.tup D5 u5))) (.cons (.int _) (.cons (.int _) (.cons (.int _) .nil))), .inl rfl⟩
    walk_at "s"
    refine ⟨show 2 ≤ sizeLine by decide +kernel, fun q6 m6 => ?_⟩
    have s6 : Same A5 _ := Same.newT (o := .tup [.int (st : Nat), .non]) m6
    have u6 : upd A5 q6 (.tup [.int (st : Nat), .non]) q6 = some (.tup [.int (st : Nat), .non]) := upd_same
    generalize upd A5 q6 (.tup [.int (st : Nat), .non]) = A6 at s6 u6
    have a6 := Same.trans a5 s6
    have F1 := Cand.same F1 s6
    have F2 := Cand.same F2 s6
    have F3 := Cand.same F3 s6
    have F4 := Cand.same F4 s6
    have F5 := Cand.same F5 s6
    have D6 := (B2.same a6).d
    have o6 := (B2.same a5).d.off m6
    have F6 : Cand K a l n (zs.take k) A6 (.ref q6) := ⟨.tuple [.int st, .none], fun H' s => .tup (.inl (.inl (s.tup D6 u6))) (.cons (.int _) (.cons .non .nil)), .inl nl_none⟩
    walk_at "s"
    refine ⟨show 2 ≤ sizeLine by decide +kernel, fun q7 m7 => ?_⟩
    have s7 : Same A6 _ := Same.newT (o := .tup [.bl true, .int (n : Nat)]) m7
    have u7 : upd A6 q7 (.tup [.bl true, .int (n : Nat)]) q7 = some (.tup [.bl true, .int (n : Nat)]) := upd_same
    generalize upd A6 q7 (.tup [.bl true, .int (n : Nat)]) = A7 at s7 u7
    have a7 := Same.trans a6 s7
    have F1 := Cand.same F1 s7
    have F2 := Cand.same F2 s7
    have F3 := Cand.same F3 s7
    have F4 := Cand.same F4 s7
    have F5 := Cand.same F5 s7
    have F6 := Cand.same F6 s7
    have D7 := (B2.same a7).d
    have o7 := (B2.same a6).d.off m7
    have F7 : Cand K a l n (zs.take k) A7 (.ref q7) := ⟨.tuple [.bool true, .int n], fun H' s => .tup (.inl (.inl (s.tup D7 u7))) (.cons (.bl true) (.cons (.int _) .nil)), .inl rfl⟩
    walk_at "s"
    refine ⟨show 2 ≤ sizeLine by decide +kernel, fun q8 m8 => ?_⟩
    have s8 : Same A7 _ := Same.newT (o := .lst [.int (st : Nat), .int (st : Nat)]) m8
    have u8 : upd A7 q8 (.lst [.int (st : Nat), .int (st : Nat)]) q8 = some (.lst [.int (st : Nat), .int (st : Nat)]) := upd_same
    generalize upd A7 q8 (.lst [.int (st : Nat), .int (st : Nat)]) = A8 at s8 u8
    have a8 := Same.trans a7 s8
    have F1 := Cand.same F1 s8
    have F2 := Cand.same F2 s8
    have F3 := Cand.same F3 s8
    have F4 := Cand.same F4 s8
    have F5 := Cand.same F5 s8
    have F6 := Cand.same F6 s8
    have F7 := Cand.same F7 s8
    have D8 := (B2.same a8).d
    have o8 := (B2.same a7).d.off m8
    have F8 : Cand K a l n (zs.take k) A8 (.ref q8) := ⟨.list [.int st, .int st], fun H' s => .lst (SqL.of (s.lst u8 o8.1 o8.2)) (.cons (.int _) (.cons (.int _) .nil)), .inl (nl_same (.inr rfl))⟩
    walk_at "s"
    have o9 : ∀ q, A8 q = none → q ≠ a ∧ q ≠ l := fun q h => (B2.same a8).d.off h
    refine ⟨show 11 ≤ sizeLine by decide +kernel, fun q9 m9 => ?_⟩
    have s9 : Same A8 _ := Same.newT (o := .lst [V.ref q1, .ref q2, .ref q3, .ref q4, .ref q5, .non, .int 3, .str "01", .ref q6, .ref q7, .ref q8]) m9
    have u9 : upd A8 q9 (.lst [V.ref q1, .ref q2, .ref q3, .ref q4, .ref q5, .non, .int 3, .str "01", .ref q6, .ref q7, .ref q8]) q9 = some (.lst [V.ref q1, .ref q2, .ref q3, .ref q4, .ref q5, .non, .int 3, .str "01", .ref q6, .ref q7, .ref q8]) := upd_same
    generalize upd A8 q9 (.lst [V.ref q1, .ref q2, .ref q3, .ref q4, .ref q5, .non, .int 3, .str "01", .ref q6, .ref q7, .ref q8]) = A9 at s9 u9
    have a9 := Same.trans a8 s9
    have F1 := Cand.same F1 s9
    have F2 := Cand.same F2 s9
    have F3 := Cand.same F3 s9
    have F4 := Cand.same F4 s9
    have F5 := Cand.same F5 s9
    have F6 := Cand.same F6 s9
    have F7 := Cand.same F7 s9
    have F8 := Cand.same F8 s9
    walk_at "s"
    have o9 := o9 q9 m9
    have AF : ∀ x ∈ ([V.ref q1, .ref q2, .ref q3, .ref q4, .ref q5, .non, .int 3, .str "01", .ref q6, .ref q7, .ref q8] : List V), Cand K a l n (zs.take k) A9 x := (allC F1 (allC F2 (allC F3 (allC F4 (allC F5 (allC ⟨.none, fun _ _ => .non, .inl rfl⟩ (allC ⟨.int 3, fun _ _ => .int 3, .inl rfl⟩ (allC ⟨_, fun _ _ => .str _, .inl rfl⟩ (allC F6 (allC F7 (allC F8 allC0)))))))))))
    have lL : ([V.ref q1, .ref q2, .ref q3, .ref q4, .ref q5, .non, .int 3, .str "01", .ref q6, .ref q7, .ref q8] : List V).length ≤ 11 := Nat.le_refl 11
    have gL : 11 ≤ ([V.ref q1, .ref q2, .ref q3, .ref q4, .ref q5, .non, .int 3, .str "01", .ref q6, .ref q7, .ref q8] : List V).length := Nat.le_refl 11
    generalize ([V.ref q1, .ref q2, .ref q3, .ref q4, .ref q5, .non, .int 3, .str "01", .ref q6, .ref q7, .ref q8] : List V) = LL at u9 AF lL gL
    clear F1 F2 F3 F4 F5 F6 F7 F8 s1 s2 s3 s4 s5 s6 s7 s8 s9 u1 u2 u3 u4 u5 u6 u7 u8
    have t9 : Stp a l H A9 := t2.trans (Stp.same a9)
    refine w_slL (SqL.of (t9.lst eL L1 L2')) (fun g1 h1 => ?_)
    rw [show cutV ys none (some (k : Int)) = _ from cut_to _ k]
    have s10 : Same A9 _ := Same.newT (o := .lst (ys.take k)) h1
    have k1 : upd A9 g1 (.lst (ys.take k)) g1 = some (.lst (ys.take k)) := upd_same
    generalize upd A9 g1 (.lst (ys.take k)) = A10 at s10 k1
    walk_at "s"
    refine w_slL (SqL.of k1) (fun g2 h2 => ?_)
    rw [show cutV (ys.take k) none (some 2) = _ from cut_to _ 2]
    have s11 : Same A10 _ := Same.newT (o := .lst ((ys.take k).take 2)) h2
    have k2 : upd A10 g2 (.lst ((ys.take k).take 2)) g2 = some (.lst ((ys.take k).take 2)) := upd_same
    generalize upd A10 g2 (.lst ((ys.take k).take 2)) = A11 at s11 k2
    have s911 := Same.trans s10 s11
    have t11 : Stp a l H A11 := t9.trans (Stp.same s911)
    have prT : Paired (fun z y => PairAt A11 z y) (zs.take k) (ys.take k) := paired_take k (t11.pairs B.d pr)
    have B11 := B2.same (Same.trans a9 s911)
    walk_at "s"
    refine ⟨⟨_, SqL.of k2⟩, ?_⟩
    refine fgL (xs := (ys.take k).take 2) (fun i σ H' => Same A11 H' ∧ ∃ (v7 v8 v9 : Option V) (S : Addr) (cs : List V), σ = [some (.ref a), some (.ref M), some (.ref L), some (.int n), some (.int k), some (.int st), some (.ref S), v7, v8, v9] ∧
      H' S = some (.lst cs) ∧ (S ≠ a ∧ S ≠ l) ∧ (∀ x ∈ cs, Cand K a l n (zs.take k) H' x) ∧ cs.length ≤ 11 + 2 * i ∧ 11 ≤ cs.length) ⟨Same.refl _, _, _, _, q9, LL, rfl, s911 _ _ u9, o9, fun x hx => (AF x hx).same s911, lL, gL⟩ (fun i σ H' _ q => SqL.of (q.1 _ _ k2)) ?_ ?_
    · rintro i x σ H' hi ⟨e, v7, v8, v9, S, cs, rfl, kS, oS, hc, lc, gc⟩
      have hx : x ∈ ys.take k := List.mem_of_mem_take (List.mem_of_getElem? hi)
      obtain ⟨j, hj⟩ := List.getElem?_of_mem hx
      obtain ⟨z, hz, t, rfl, ht⟩ := paired_get2 prT hj
      have hzm := List.mem_of_getElem? hz
      have hz0 := ok.rng z (List.mem_of_mem_take hzm)
      refine w_gtup (.inl (.inl (e _ _ ht))) rfl ?_
      walk_at "s"
      refine ⟨show 2 ≤ sizeLine by decide +kernel, fun c1 i1 => ?_⟩
      have b1 : Same H' _ := Same.newT (o := .tup [.int z.1, .int z.2]) i1
      have w1 : upd H' c1 (.tup [.int z.1, .int z.2]) c1 = some (.tup [.int z.1, .int z.2]) := upd_same
      generalize upd H' c1 (.tup [.int z.1, .int z.2]) = C1 at b1 w1
      walk_at "s"
      refine ⟨show 2 ≤ sizeLine by decide +kernel, fun c2 i2 => ?_⟩
      have oc := ((B11.same e).same b1).d.off i2
      have b2 : Same C1 _ := Same.newT (o := .lst [.int z.2, .int z.1]) i2
      have w2 : upd C1 c2 (.lst [.int z.2, .int z.1]) c2 = some (.lst [.int z.2, .int z.1]) := upd_same
      have w1 := b2 _ _ w1
      generalize upd C1 c2 (.lst [.int z.2, .int z.1]) = C2 at b2 w1 w2
      walk_at "s"
      refine ⟨show 2 ≤ sizeLine by decide +kernel, fun c3 i3 => ?_⟩
      have b3 : Same C2 _ := Same.newT (o := .lst [.ref c1, .ref c2]) i3
      have w3 : upd C2 c3 (.lst [.ref c1, .ref c2]) c3 = some (.lst [.ref c1, .ref c2]) := upd_same
      have w1 := b3 _ _ w1
      have w2 := b3 _ _ w2
      generalize upd C2 c3 (.lst [.ref c1, .ref c2]) = C3 at b3 w1 w2 w3
      have b13 := Same.trans b1 (Same.trans b2 b3)
      have li : i < 2 := by
        have := (List.getElem?_eq_some_iff.mp hi).1
        rw [List.length_take] at this
        omega
      walk_at "s"
      refine .inr (.inr ⟨S, c3, _, _, rfl, rfl, b13 _ _ kS, w3, ?_, fun c4 i4 => ?_⟩)
      · exact Nat.le_of_lt (lt_size (by show cs.length + 2 ≤ 1000000; omega))
      have b4 : Same C3 _ := Same.newT (o := .lst (cs ++ [.ref c1, .ref c2])) i4
      have w4 : upd C3 c4 (.lst (cs ++ [.ref c1, .ref c2])) c4 = some (.lst (cs ++ [.ref c1, .ref c2])) := upd_same
      have w1 := b4 _ _ w1
      have w2 := b4 _ _ w2
      generalize upd C3 c4 (.lst (cs ++ [.ref c1, .ref c2])) = C4 at b4 w1 w2 w4
      have b14 := Same.trans b13 b4
      walk_at "s"
      refine ⟨Same.trans e b14, _, _, _, c4, _, rfl, w4, (((B11.same e).same b13).d.off i4), fun x hx => ?_, by rw [List.length_append]; show cs.length + 2 ≤ _; omega, by rw [List.length_append]; omega⟩
      rcases List.mem_append.mp hx with hx | hx
      · exact (hc x hx).same b14
      · simp only [List.mem_cons, List.not_mem_nil, or_false] at hx
        rcases hx with rfl | rfl
        · have := link_ok (n := n) (d := .tuple [.int z.1, .int z.2]) (.inl rfl) (by omega) (by omega) (by omega) (by omega) (by omega)
          exact ⟨_, fun H2 s => .tup (.inl (.inl (s.tup ((B11.same e).same b14).d w1))) (.cons (.int _) (.cons (.int _) .nil)), .inr ⟨this.1, z, hzm, .inl this.2⟩⟩
        · have := link_ok (n := n) (d := .list [.int z.2, .int z.1]) (.inr rfl) (by omega) (by omega) (by omega) (by omega) (by omega)
          exact ⟨_, fun H2 s => .lst (SqL.of (s.lst w2 oc.1 oc.2)) (.cons (.int _) (.cons (.int _) .nil)), .inr ⟨this.1, z, hzm, .inr this.2⟩⟩
    · rintro σ H12 ⟨e12, v7, v8, v9, S, cs, rfl, kS, oS, hc, lc, gc⟩
      have lt2 : ((ys.take k).take 2).length ≤ 2 := List.length_take_le _ _
      have lcs : cs.length ≤ 15 := by omega
      have B12 := B11.same e12
      have t12 : Stp a l H H12 := t11.trans (Stp.same e12)
      clear lc lt2 k1 k2 prT B11 t11 t9 B2 t2 AF u9 lL gL a9 s911 s10 s11 e12 h1 h2
      walk_at "s"
      refine w_slL (SqL.of (t12.lst eL L1 L2')) (fun g1 h1 => ?_)
      rw [show cutV ys none (some (k : Int)) = _ from cut_to _ k]
      have o1 := B12.d.off h1
      have s13 : Same H12 _ := Same.newT (o := .lst (ys.take k)) h1
      have k1 : upd H12 g1 (.lst (ys.take k)) g1 = some (.lst (ys.take k)) := upd_same
      generalize upd H12 g1 (.lst (ys.take k)) = H13 at s13 k1
      have B13 := B12.same s13
      have kS := s13 _ _ kS
      have hc : ∀ x ∈ cs, Cand K a l n (zs.take k) H13 x := fun x hx => (hc x hx).same s13
      have t13 := t12.trans (Stp.same s13)
      clear B12 t12 s13 h1
      walk_at "s"
      refine ⟨a, l, S, cs, rfl, B13.d, SqL.of kS, oS.1, oS.2, by omega, Nat.le_trans lcs (by decide), fun x hx H14 D14 f14 => ?_⟩
      have B14 := B13.fr D14 f14
      have tf : Stp a l H13 H14 := Stp.fr f14
      have t14 := t13.trans tf
      obtain ⟨d, hd, bd⟩ := (hc x hx).stp tf
      have k1 := tf.lst k1 o1.1 o1.2
      clear kS hc hx tf D14 f14 B13 t13
      walk_at "s"
      refine ⟨show 1 ≤ sizeLine by decide +kernel, fun g2 h2 => ?_⟩
      have s15 : Same H14 _ := Same.newT (o := .lst [x]) h2
      have k2 : upd H14 g2 (.lst [x]) g2 = some (.lst [x]) := upd_same
      have k1 := s15 _ _ k1
      generalize upd H14 g2 (.lst [x]) = H15 at s15 k1 k2
      have lyk : (ys.take k).length ≤ 1000 := by rw [List.length_take]; omega
      have lyd : (ys.drop k).length ≤ 1000 := by rw [List.length_drop]; omega
      walk_at "s"
      refine .inr (.inr ⟨g1, g2, _, _, rfl, rfl, k1, k2, Nat.le_of_lt (lt_size (by show (ys.take k).length + 1 ≤ 1000000; omega)), fun g3 h3 => ?_⟩)
      have s16 : Same H15 _ := Same.newT (o := .lst (ys.take k ++ [x])) h3
      have k3 : upd H15 g3 (.lst (ys.take k ++ [x])) g3 = some (.lst (ys.take k ++ [x])) := upd_same
      generalize upd H15 g3 (.lst (ys.take k ++ [x])) = H16 at s16 k3
      have s1416 := Same.trans s15 s16
      have t16 := t14.trans (Stp.same s1416)
      walk_at "s"
      refine w_slL (SqL.of (t16.lst eL L1 L2')) (fun g4 h4 => ?_)
      rw [show cutV ys (some (k : Int)) none = _ from cut_from _ k]
      have s17 : Same H16 _ := Same.newT (o := .lst (ys.drop k)) h4
      have k4 : upd H16 g4 (.lst (ys.drop k)) g4 = some (.lst (ys.drop k)) := upd_same
      have k3 := s17 _ _ k3
      generalize upd H16 g4 (.lst (ys.drop k)) = H17 at s17 k3 k4
      walk_at "s"
      refine .inr (.inr ⟨g3, g4, _, _, rfl, rfl, k3, k4, Nat.le_of_lt (lt_size (by rw [List.length_append]; show (ys.take k).length + 1 + _ ≤ 1000000; omega)), fun g5 h5 => ?_⟩)
      have s18 : Same H17 _ := Same.newT (o := .lst (ys.take k ++ [x] ++ ys.drop k)) h5
      have k5 : upd H17 g5 (.lst (ys.take k ++ [x] ++ ys.drop k)) g5 = some (.lst (ys.take k ++ [x] ++ ys.drop k)) := upd_same
      generalize upd H17 g5 (.lst (ys.take k ++ [x] ++ ys.drop k)) = H18 at s18 k5
      have o5 := (B14.same (Same.trans s1416 s17)).d.off h5
      have s1418 := Same.trans s1416 (Same.trans s17 s18)
      have B18 := B14.same s1418
      clear s15 s16 s17 s18 k1 k2 k3 k4 s1416 t16 h2 h3 h4 h5
      walk_at "s"
      refine ⟨show 0 ≤ sizeLine by decide +kernel, fun g6 m6 => ?_⟩
      have o6 := B18.d.off m6
      have s19 : Same H18 _ := Same.newT (o := .lst []) m6
      have k6 : upd H18 g6 (.lst []) g6 = some (.lst []) := upd_same
      have k5 := s19 _ _ k5
      generalize upd H18 g6 (.lst []) = H19 at s19 k5 k6
      have B19 := B18.same s19
      walk_at "s"
      refine ⟨show 2 ≤ sizeLine by decide +kernel, fun g9 m9 => ?_⟩
      have s20 : Same H19 _ := Same.newT (o := .tup [.int 0, .int 0]) m9
      have k9 : upd H19 g9 (.tup [.int 0, .int 0]) g9 = some (.tup [.int 0, .int 0]) := upd_same
      have k5 := s20 _ _ k5
      have k6 := s20 _ _ k6
      generalize upd H19 g9 (.tup [.int 0, .int 0]) = H20 at s20 k5 k6 k9
      have B20 := B19.same s20
      walk_at "s"
      refine ⟨show 1 ≤ sizeLine by decide +kernel, fun g7 m7 => ?_⟩
      have o7 := B20.d.off m7
      have s21 : Same H20 _ := Same.newT (o := .lst [.ref g9]) m7
      have k7 : upd H20 g7 (.lst [.ref g9]) g7 = some (.lst [.ref g9]) := upd_same
      have k5 := s21 _ _ k5
      have k6 := s21 _ _ k6
      have k9 := s21 _ _ k9
      generalize upd H20 g7 (.lst [.ref g9]) = H21 at s21 k5 k6 k7 k9
      have B21 := B20.same s21
      walk_at "s"
      refine ⟨show 2 ≤ sizeLine by decide +kernel, fun g8 m8 => ?_⟩
      have o8 := B21.d.off m8
      have s22 : Same H21 _ := Same.newT (o := .lst [.ref g6, .ref g7]) m8
      have k8 : upd H21 g8 (.lst [.ref g6, .ref g7]) g8 = some (.lst [.ref g6, .ref g7]) := upd_same
      have k5 := s22 _ _ k5
      have k6 := s22 _ _ k6
      have k7 := s22 _ _ k7
      have k9 := s22 _ _ k9
      generalize upd H21 g8 (.lst [.ref g6, .ref g7]) = H22 at s22 k5 k6 k7 k8 k9
      have B22 := B21.same s22
      have t22 : Stp a l H14 H22 := Stp.same (Same.trans s1418 (Same.trans s19 (Same.trans s20 (Same.trans s21 s22))))
      walk_at "s"
      refine ⟨a, l, 2, rfl, by decide, by decide, B22.d, fun tl H23 tl0 tl1 D23 f23 => ?_⟩
      have B23 := B22.fr D23 f23
      have tf : Stp a l H22 H23 := Stp.fr f23
      have t23 := t22.trans tf
      have k5 := tf.lst k5 o5.1 o5.2
      have k6 := tf.lst k6 o6.1 o6.2
      have k7 := tf.lst k7 o7.1 o7.2
      have k8 := tf.lst k8 o8.1 o8.2
      have k9 := tf.tup B22.d k9
      obtain ⟨gt, zt, wt, et, kt, pt, lt⟩ : ∃ (gt : Addr) (zt : List V) (wt : List (Int × Int)), atI [V.ref g6, .ref g7] tl = some (.ref gt) ∧ H23 gt = some (.lst zt) ∧ Paired (fun z y => PairAt H23 z y) wt zt ∧ zt.length ≤ 1 := by
        rcases (by omega : tl = 0 ∨ tl = 1) with rfl | rfl
        · exact ⟨g6, [], [], rfl, k6, .nil, by decide⟩
        · exact ⟨g7, [.ref g9], [(0, 0)], rfl, k7, .cons ⟨g9, rfl, k9⟩ .nil, Nat.le_refl 1⟩
      walk_at "s"
      refine w_ixL (SqL.of k8) et ?_
      clear s19 s20 s21 s22 s1418 k6 k7 k8 k9 B18 B19 B20 B21 B22 tf t22 D23 f23 m6 m7 m8 m9 et
      refine .inr (.inr ⟨g5, gt, _, _, rfl, rfl, k5, kt, Nat.le_of_lt (lt_size (by rw [List.length_append, List.length_append]; show (ys.take k).length + 1 + _ + zt.length ≤ 1000000; omega)), fun W mW => ?_⟩)
      have oW := B23.d.off mW
      have s24 : Same H23 _ := Same.newT (o := .lst (ys.take k ++ [x] ++ ys.drop k ++ zt)) mW
      have kW : upd H23 W (.lst (ys.take k ++ [x] ++ ys.drop k ++ zt)) W = some (.lst (ys.take k ++ [x] ++ ys.drop k ++ zt)) := upd_same
      generalize upd H23 W (.lst (ys.take k ++ [x] ++ ys.drop k ++ zt)) = H24 at s24 kW
      have B24 := B23.same s24
      have t24 : Stp a l H14 H24 := t23.trans (Stp.same s24)
      have pt : Paired (fun z y => PairAt H24 z y) wt zt := Paired.mapP pt fun z y q => q.same s24
      clear k5 kt B23 t23 s24 mW
      have tH : Stp a l H H24 := t14.trans t24
      -- what the wrong links are, wherever one looks
      have wrong : ∀ {H' : Hp}, Stp a l H24 H' → DpAll K H' (ys.take k ++ [x] ++ ys.drop k ++ zt) ((zs.take k).map pD ++ d :: ((zs.drop k).map pD ++ wt.map pD)) := fun {H'} st => by
        have h1 := dp_pairs (K := K) (paired_take k ((tH.trans st).pairs B.d pr))
        have h2 := dp_pairs (K := K) (paired_drop k ((tH.trans st).pairs B.d pr))
        have h3 := dp_pairs (K := K) (st.pairs B24.d pt)
        have := dp_app (dp_app (dp_app h1 (.cons (hd H' (t24.trans st)) .nil)) h2) h3
        simpa using this
      have rb : ∀ d', (d' = .list ((zs.take k).map pD ++ d :: ((zs.drop k).map pD ++ wt.map pD)) ∨ d' = .tuple ((zs.take k).map pD ++ d :: ((zs.drop k).map pD ++ wt.map pD))) → rowsD ms.length d' = .inl k := fun d' h => by
        have e : elemsD d' = ((zs.take k).map pD ++ d :: ((zs.drop k).map pD ++ wt.map pD)) ∧ seqD d' = true := by rcases h with rfl | rfl <;> exact ⟨rfl, rfl⟩
        unfold rowsD
        rw [e.1, e.2, if_pos rfl, hn]
        exact rows_bad ok (by omega) bd
      walk_at "s"
      refine ⟨B24.t, fun H25 e25 T25 => ?_⟩
      have B25 := B24.ext e25 T25
      have t25 : Stp a l H24 H25 := Stp.ext e25
      refine w_tref ?_
      walk_at "s"
      have lms : (dInts ms).length ≤ 1000 := by rw [dInts_len]; omega
      refine ⟨.ref M, .ref W, .list (dInts ms), _, rfl, .dp (.lst (SqL.of ((tH.trans t25).lst eM M1 M2)) (dp_ints ms)), .dp (.lst (SqL.of (t25.lst kW oW.1 oW.2)) (wrong t25)), lms, ?_⟩
      rw [netD_links (.inl rfl) (by omega) mx (rb _ (.inl rfl))]
      intro dd H26 e26 nd
      refine ⟨AA.InvalidNetwork, dd, _, rfl, rfl, hh, upd_same, ?_⟩
      have B26 := (B25.same e26).same (Same.newT (o := .xd [("at", .int ((ms.length + k : Nat)))]) nd)
      have t26 : Stp a l H24 (upd H26 dd (.xd [("at", .int ((ms.length + k : Nat)))])) := t25.trans (Stp.same (Same.trans e26 (Same.newT nd)))
      generalize upd H26 dd (.xd [("at", .int ((ms.length + k : Nat)))]) = H27 at B26 t26
      clear B25 T25 e25 e26 nd t25
      rw [hn]
      walk_at "s"
      refine w_iteN (fun z => absurd (by omega) z) (fun _ => ?_)
      walk_at "s"
      refine ⟨B26.t, fun H28 e28 T28 => ?_⟩
      have B28 := B26.ext e28 T28
      have t28 := t26.trans (Stp.ext e28)
      refine w_tref ?_
      walk_at "s"
      refine seq_tuple (.inl (SqL.of ((tH.trans t28).lst eM M1 M2))) (fun tm H29 e29 Sm => ?_)
      have t29 := t28.trans (Stp.same e29)
      walk_at "s"
      refine seq_tuple (.inl (SqL.of (t29.lst kW oW.1 oW.2))) (fun tu H30 e30 Su => ?_)
      have t30 := t29.trans (Stp.same e30)
      walk_at "s"
      refine ⟨.ref tm, .ref tu, .tuple (dInts ms), _, rfl, .dp (.tup (same_t e30 Sm) (dp_ints ms)), .dp (.tup Su (wrong t30)), lms, ?_⟩
      rw [netD_links (.inr rfl) (by omega) mx (rb _ (.inr rfl))]
      intro dd H31 e31 nd
      refine ⟨AA.InvalidNetwork, dd, _, rfl, rfl, hh, upd_same, ?_⟩
      have e2931 := Same.trans e29 (Same.trans e30 (Same.trans e31 (Same.newT (o := .xd [("at", .int ((ms.length + k : Nat)))]) nd)))
      have B31 := B28.same e2931
      have t31 := t28.trans (Stp.same e2931)
      generalize upd H31 dd (.xd [("at", .int ((ms.length + k : Nat)))]) = H32 at B31 t31
      clear B28 T28 e28 e29 e30 e31 nd t28 t29 t30 Sm Su e2931
      rw [hn]
      walk_at "s"
      refine w_iteN (fun z => absurd (by omega) z) (fun _ => ?_)
      walk_at "s"
      refine ⟨B31.t, fun H33 e33 T33 => ?_⟩
      have B33 := B31.ext e33 T33
      have t33 := t31.trans (Stp.ext e33)
      refine w_tref ?_
      walk_at "s"
      refine fun q3 m3 => ?_
      have o3 := B33.d.off m3
      have s3 : Same H33 _ := Same.newT (o := .dK []) m3
      have u3 : upd H33 q3 (.dK []) q3 = some (.dK []) := upd_same
      generalize upd H33 q3 (.dK []) = H34 at s3 u3
      have B34 := B33.same s3
      walk_at "s"
      refine ⟨show 5 ≤ sizeLine by decide +kernel, fun q4 m4 => ?_⟩
      have o4 := B34.d.off m4
      have s4 : Same H34 _ := Same.newT (o := .lst [.non, .int 3, .str "0", .ref q3, .bl false]) m4
      have u4 : upd H34 q4 (.lst [.non, .int 3, .str "0", .ref q3, .bl false]) q4 = some (.lst [.non, .int 3, .str "0", .ref q3, .bl false]) := upd_same
      have u3 := s4 _ _ u3
      generalize upd H34 q4 (.lst [.non, .int 3, .str "0", .ref q3, .bl false]) = H35 at s4 u3 u4
      have B35 := B34.same s4
      have t35 := t33.trans (Stp.same (Same.trans s3 s4))
      walk_at "s"
      refine ⟨a, l, q4, _, rfl, B35.d, SqL.of u4, o4.1, o4.2, show 0 < 5 by decide, show 5 ≤ 2 ^ 24 by decide, fun y hy H36 D36 f36 => ?_⟩
      have B36 := B35.fr D36 f36
      have t36 := t35.trans (Stp.fr f36)
      obtain ⟨dy, hdy, by0⟩ := noLinks (K := K) hy (f36 _ _ u3 o3.1 o3.2)
      walk_at "s"
      refine ⟨.ref M, y, .list (dInts ms), dy, rfl, .dp (.lst (SqL.of ((tH.trans t36).lst eM M1 M2)) (dp_ints ms)), hdy, lms, ?_⟩
      rw [netD_links (.inl rfl) (by omega) mx (by0 _)]
      intro dd H37 e37 nd
      refine ⟨AA.InvalidNetwork, dd, _, rfl, rfl, hh, upd_same, ?_⟩
      have B37 := (B36.same e37).same (Same.newT (o := .xd [("at", .int ((ms.length + 0 : Nat)))]) nd)
      have t37 := t36.trans (Stp.same (Same.trans e37 (Same.newT (o := .xd [("at", .int ((ms.length + 0 : Nat)))]) nd)))
      generalize upd H37 dd (.xd [("at", .int ((ms.length + 0 : Nat)))]) = H38 at B37 t37
      rw [hn]
      walk_at "s"
      rw [Nat.add_zero, decide_eq_true rfl]
      exact q _ B37 (tH.trans t37)
end

end K04
set_option maxRecDepth 100000
set_option maxHeartbeats 4000000
set_option pp.maxSteps 300
namespace K04
open PySem L2 NL
local macro_rules | `(tactic| walk_at "s1") => `(tactic| with_reducible first
  | refine w_seq ?_ | refine w_asg ?_ | refine w_drop ?_ | refine w_ret ?_ | refine w_next ?_ | refine w_ifS ?_
  | refine w_c ?_ | refine w_op ?_ | refine w_un ?_ | refine w_test ?_ | refine w_B ?_ | refine w_bl ?_ | refine w_not ?_ | refine w_and ?_ | refine w_or ?_
  | refine w_andV ?_ | refine w_orV ?_ | refine w_notV ?_ | refine w_blP ?_ | refine w_if ?_ | refine w_nil ?_ | refine w_cons ?_ | refine w_call ?_ | refine w_callS ?_ | refine w_callW ?_
  | refine w_cb ?_ | refine w_tup ?_ | refine w_lst ?_ | refine w_par ?_ | refine w_two ?_ | refine w_addI ?_ | refine w_I0 ?_ | refine w_neg ?_ | refine w_eqI ?_ | refine w_neI ?_
  | refine w_absI ?_ | refine w_intI ?_ | refine w_sub ?_ | refine w_bm0 ?_ | refine w_bm ?_ | refine w_iteT ?_ | refine w_iteF ?_ | refine w_iteNF ?_ | refine w_iteNT ?_ | refine w_lcT ?_ | refine w_lcL ?_
  | refine w_ref ?_ | refine w_sl ?_ | refine w_npart ?_ | refine w_part ?_ | refine w_iv ?_ | refine w_rev ?_ | refine w_forL ?_ | refine w_forT ?_ | refine w_forR1 ?_ | refine w_one ?_ | refine w_g ?_
  | refine w_asgT ?_ | refine w_gcons ?_ | refine w_gnil ?_ | refine w_lcR1 ?_ | refine w_sFld ?_ | refine w_fldR ?_ | refine w_forEL ?_ | refine w_forET ?_ | refine w_lc2E ?_
  | refine w_var (by with_unfolding_all rfl) ?_)
local macro_rules | `(tactic| walk_at "s") => `(tactic| repeat (walk_at "s1"))

/-! ### _law_fifth_right -/
theorem perm_ints {ys : List V} {xs : List Int} (h : ys.Perm (xs.map V.int)) : ∃ ns : List Int, ys = ns.map V.int ∧ ns.Perm xs := by
  refine ⟨ys.map intV, ?_, ?_⟩
  · rw [List.map_map]
    refine (List.map_id ys).symm.trans (List.map_congr_left fun y hy => ?_)
    obtain ⟨i, _, rfl⟩ := List.mem_map.mp (h.mem_iff.mp hy)
    rfl
  · have := h.map intV
    rw [List.map_map] at this
    rw [show xs.map (intV ∘ V.int) = xs from (List.map_congr_left fun _ _ => rfl).trans (List.map_id xs)] at this
    exact this
/-- a star: its links, each way round -/
def Star (c : Int) (os : List Int) (ws : List (Int × Int)) : Prop := Paired (fun o w => w = (c, o) ∨ w = (o, c)) os ws
theorem star_hub {c : Int} : ∀ {os : List Int} {ws : List (Int × Int)}, Star c os ws → deg ws c = os.length
  | _, _, .nil => rfl
  | o :: os, w :: ws, .cons h p => by
    have ih := star_hub p
    unfold deg at ih ⊢
    rw [List.filter_cons]
    have b : (w.1 == c || w.2 == c) = true := by rcases h with rfl | rfl <;> simp
    rw [b, if_pos rfl, List.length_cons, List.length_cons, ih]
theorem star_leaf {c v : Int} (hv : v ≠ c) : ∀ {os : List Int} {ws : List (Int × Int)}, Star c os ws → deg ws v = (os.filter fun o => o == v).length
  | _, _, .nil => rfl
  | o :: os, w :: ws, .cons h p => by
    have ih := star_leaf hv p
    unfold deg at ih ⊢
    rw [List.filter_cons, List.filter_cons]
    have hcv : (c == v) = false := by simpa using fun z => hv z.symm
    have b : (w.1 == v || w.2 == v) = (o == v) := by rcases h with rfl | rfl <;> simp [hcv]
    rw [b]
    cases (o == v)
    · rw [if_neg Bool.false_ne_true, if_neg Bool.false_ne_true]
      exact ih
    · rw [if_pos rfl, if_pos rfl, List.length_cons, List.length_cons, ih]
theorem nodup_one {v : Int} : ∀ {os : List Int}, os.Nodup → (os.filter fun o => o == v).length ≤ 1
  | [], _ => Nat.zero_le _
  | o :: os, h => by
    rw [List.nodup_cons] at h
    rw [List.filter_cons]
    by_cases e : o = v
    · subst e
      have : (os.filter fun x => x == o) = [] := by
        rw [List.filter_eq_nil_iff]
        intro x hx hb
        have : x = o := by simpa using hb
        subst this
        exact h.1 hx
      rw [beq_self_eq_true, if_pos rfl, this]
      exact Nat.le_refl 1
    · rw [show (o == v) = false by simpa using e, if_neg Bool.false_ne_true]
      exact nodup_one h.2
theorem star_norm {c : Int} : ∀ {os : List Int} {ws : List (Int × Int)}, Star c os ws → (∀ o ∈ os, o ≠ c) → ws.map norm = os.map fun o => norm (c, o)
  | _, _, .nil, _ => rfl
  | o :: os, w :: ws, .cons h p, hn => by
    rw [List.map_cons, List.map_cons, star_norm p fun x hx => hn x (List.mem_cons_of_mem _ hx)]
    congr 1
    rcases h with rfl | rfl
    · rfl
    · rcases norm_swap (a := o) (b := c) with e | e
      · exact e
      · exact absurd e (hn o List.mem_cons_self)
theorem star_mem {c : Int} {os : List Int} {ws : List (Int × Int)} (h : Star c os ws) {w : Int × Int} (hw : w ∈ ws) : ∃ o ∈ os, w = (c, o) ∨ w = (o, c) := by
  obtain ⟨i, hi⟩ := List.getElem?_of_mem hw
  obtain ⟨o, ho, q⟩ := paired_get2 h hi
  exact ⟨o, List.mem_of_getElem? ho, q⟩
theorem star_wok {n : Nat} {c : Int} {os : List Int} {ws : List (Int × Int)} (h : Star c os ws) (hc : 0 ≤ c ∧ c < n) (ho : ∀ o ∈ os, 0 ≤ o ∧ o < n ∧ o ≠ c) (nd : os.Nodup) (l4 : os.length ≤ 4) : WOK n ws := by
  refine ⟨fun w hw => ?_, ?_, fun v hv => ?_⟩
  · obtain ⟨o, h1, h2⟩ := star_mem h hw
    have := ho o h1
    rcases h2 with rfl | rfl
    · exact ⟨hc.1, hc.2, this.1, this.2.1, fun z => this.2.2 z.symm⟩
    · exact ⟨this.1, this.2.1, hc.1, hc.2, this.2.2⟩
  · rw [star_norm h fun o h1 => (ho o h1).2.2]
    unfold List.Nodup at nd ⊢
    rw [List.pairwise_map]
    refine List.Pairwise.imp_of_mem (fun {x y} mx my hne e => ?_) nd
    rcases norm_eq e with z | z
    · exact hne (Prod.mk.inj z).2
    · exact (ho x mx).2.2 (Prod.mk.inj z).2
  · exact Nat.le_trans (deg_le ws v) (by rw [← Paired.length h]; exact l4)
/-- the star, one link more between two leaves -/
theorem star_more {n : Nat} {c : Int} {os : List Int} {ws : List (Int × Int)} {u v : Int} (h : Star c os ws) (hc : 0 ≤ c ∧ c < n) (ho : ∀ o ∈ os, 0 ≤ o ∧ o < n ∧ o ≠ c) (nd : os.Nodup) (l4 : os.length ≤ 4) (hu : u ∈ os) (hv : v ∈ os) (ne : u ≠ v) : WOK n (ws ++ [(u, v)]) := by
  have w := star_wok h hc ho nd l4
  have a := ho u hu
  have b := ho v hv
  refine ⟨fun x hx => ?_, ?_, fun k hk => ?_⟩
  · rcases List.mem_append.mp hx with hx | hx
    · exact w.rng x hx
    · rw [List.mem_singleton.mp hx]
      exact ⟨a.1, a.2.1, b.1, b.2.1, ne⟩
  · rw [List.map_append, List.nodup_append]
    refine ⟨w.nd, by simp, fun x hx y hy => ?_⟩
    rw [List.mem_singleton.mp hy]
    rintro rfl
    rw [star_norm h fun o h1 => (ho o h1).2.2] at hx
    obtain ⟨o, h1, h2⟩ := List.mem_map.mp hx
    rcases norm_eq h2 with z | z
    · exact a.2.2 (Prod.mk.inj z).1.symm
    · exact b.2.2 (Prod.mk.inj z).1.symm
  · rw [deg_app]
    by_cases e : (k : Int) = c
    · have b1 : ((u == (k : Int)) || (v == (k : Int))) = false := by
        have h1 : ¬ u = k := fun z => a.2.2 (z.trans e)
        have h2 : ¬ v = k := fun z => b.2.2 (z.trans e)
        simp [h1, h2]
      rw [show (((u, v) : Int × Int).1 == (k : Int) || ((u, v) : Int × Int).2 == (k : Int)) = false from b1]
      have := w.dg k hk
      simpa using this
    · have h1 := star_leaf e h
      have h2 := nodup_one (v := (k : Int)) nd
      split <;> omega
/-- data that stays -/
def StbD (K : PySem.W.Frag) (a l : Addr) (H : Hp) (y : V) (d : PyData) : Prop := ∀ H', Stp a l H H' → Dp K H' y d
theorem StbD.stp {K : PySem.W.Frag} {a l : Addr} {H H' : Hp} {y : V} {d : PyData} (h : StbD K a l H y d) (e : Stp a l H H') : StbD K a l H' y d := fun H2 s => h H2 (e.trans s)
/-- a link handed in, as it stands -/
def LkD (a l Lk : Addr) (H : Hp) (y : V) (w : Int × Int) : Prop := ∃ t : Addr, y = .ref t ∧ (H t = some (.tup [.int w.1, .int w.2]) ∨ (H t = some (.lst [.int w.1, .int w.2]) ∧ t ≠ a ∧ t ≠ l ∧ t ≠ Lk))
theorem LkD.same {a l Lk : Addr} {H H' : Hp} {y : V} {w : Int × Int} (h : LkD a l Lk H y w) (e : Same H H') : LkD a l Lk H' y w := by
  obtain ⟨t, rfl, h | ⟨h, h1⟩⟩ := h
  · exact ⟨t, rfl, .inl (e _ _ h)⟩
  · exact ⟨t, rfl, .inr ⟨e _ _ h, h1⟩⟩
theorem LkD.fr {a l Lk : Addr} {H H' : Hp} {y : V} {w : Int × Int} (h : LkD a l Lk H y w) (D : DealAt H a l) (f : Fr a l H H') : LkD a l Lk H' y w := by
  obtain ⟨t, rfl, h | ⟨h, h1⟩⟩ := h
  · exact ⟨t, rfl, .inl (D.keep f h fun _ z => by cases z)⟩
  · exact ⟨t, rfl, .inr ⟨f _ _ h h1.1 h1.2.1, h1⟩⟩
theorem LkD.put {a l Lk : Addr} {H : Hp} {y : V} {w : Int × Int} {xs : List V} {o : HO} (h : LkD a l Lk H y w) (e : H Lk = some (.lst xs)) : LkD a l Lk (upd H Lk o) y w := by
  obtain ⟨t, rfl, h | ⟨h, h1⟩⟩ := h
  · refine ⟨t, rfl, .inl ?_⟩
    rw [upd_ne ?_]
    · exact h
    · rintro rfl
      rw [e] at h
      cases h
  · exact ⟨t, rfl, .inr ⟨by rw [upd_ne h1.2.2]; exact h, h1⟩⟩
theorem LkD.stb {K : PySem.W.Frag} {a l Lk : Addr} {H : Hp} {y : V} {w : Int × Int} (h : LkD a l Lk H y w) (D : DealAt H a l) (n : Nat) (h0 : 0 ≤ w.1) (h1 : w.1 < n) (h2 : 0 ≤ w.2) (h3 : w.2 < n) (h4 : w.1 ≠ w.2) : ∃ d, StbD K a l H y d ∧ LD n d w := by
  obtain ⟨t, rfl, h | ⟨h, h5⟩⟩ := h
  · exact ⟨_, fun H' s => .tup (.inl (.inl (s.tup D h))) (.cons (.int _) (.cons (.int _) .nil)), link_ok (.inl rfl) h0 h1 h2 h3 h4⟩
  · exact ⟨_, fun H' s => .lst (SqL.of (s.lst h h5.1 h5.2.1)) (.cons (.int _) (.cons (.int _) .nil)), link_ok (.inr rfl) h0 h1 h2 h3 h4⟩
theorem lkd_all {K : PySem.W.Frag} {a l Lk : Addr} {H : Hp} {n : Nat} (D : DealAt H a l) : ∀ {ys : List V} {ws : List (Int × Int)}, Paired (fun y w => LkD a l Lk H y w) ys ws → (∀ w ∈ ws, 0 ≤ w.1 ∧ w.1 < (n : Int) ∧ 0 ≤ w.2 ∧ w.2 < (n : Int) ∧ w.1 ≠ w.2) → ∃ ds, Paired (fun y d => StbD K a l H y d) ys ds ∧ Paired (LD n) ds ws
  | _, _, .nil, _ => ⟨[], .nil, .nil⟩
  | y :: ys, w :: ws, .cons h p, r => by
    obtain ⟨ds, q1, q2⟩ := lkd_all D p fun x hx => r x (List.mem_cons_of_mem _ hx)
    obtain ⟨r0, r1, r2, r3, r4⟩ := r w List.mem_cons_self
    obtain ⟨d, h1, h2⟩ := h.stb (K := K) D n r0 r1 r2 r3 r4
    exact ⟨d :: ds, .cons h1 q1, .cons h2 q2⟩
theorem netD_good {dm dl : PyData} {ms : List Int} {rows : List (List Int)} (hd : dm = .list (dInts ms) ∨ dm = .tuple (dInts ms)) (h1 : 1 ≤ ms.length) (h : ∀ x ∈ ms, 0 ≤ x ∧ x < 4) (hr : rowsD ms.length dl = .inr rows) : netD dm dl = .inr (ms, rows) := by
  obtain ⟨e1, e2⟩ := modes_fit hd h1 h
  unfold netD
  rw [e1]
  show (match rowsD (elemsD dm).length dl with | .inl i => _ | .inr rows => _) = _
  rw [e2, dInts_len, hr]
  show Sum.inr (intsOf (dInts ms), rows) = _
  rw [intsOf_d]
theorem rowsD_of {n : Nat} {d : PyData} {ds : List PyData} (h : d = .list ds ∨ d = .tuple ds) : rowsD n d = goR n 0 (List.replicate n []) ds := by
  rcases h with rfl | rfl
  · unfold rowsD
    rw [show seqD (.list ds) = true from rfl, if_pos rfl]
    rfl
  · unfold rowsD
    rw [show seqD (.tuple ds) = true from rfl, if_pos rfl]
    rfl
theorem five {α : Type} {l : List α} (h : l.length = 5) : ∃ a b c d e, l = [a, b, c, d, e] := by
  match l, h with
  | [a, b, c, d, e], _ => exact ⟨a, b, c, d, e, rfl⟩
theorem paired_one {α γ : Type} {F : α → γ → Prop} {a : α} {b : γ} (h : Paired F [a] [b]) : F a b := by
  cases h with
  | cons h _ => exact h
/-- behind good links one that makes five -/
theorem go_fifth {n : Nat} {ds : List PyData} {d : PyData} {ws : List (Int × Int)} {w : Int × Int} {c : Int} (p : Paired (LD n) ds ws) (ok : WOK n ws) (hd : LD n d w) (hc : w.1 = c ∨ w.2 = c) (h4 : deg ws c = 4) : goR n 0 (List.replicate n []) (ds ++ [d]) = .inl ds.length := by
  obtain ⟨r, hr, T⟩ := go_ok (k := 0) (us := []) p (told0 n) ok
  rw [goR_append hr, Nat.zero_add]
  refine goR_none hd.1 ?_
  obtain ⟨a, b, _, pr, a0, a1, b0, b1, ne, _⟩ := link_pair hd.1
  have e := hd.2
  rw [pr] at e ⊢
  subst e
  obtain ⟨a, rfl⟩ : ∃ k : Nat, a = k := ⟨a.toNat, by omega⟩
  obtain ⟨b, rfl⟩ : ∃ k : Nat, b = k := ⟨b.toNat, by omega⟩
  rw [List.nil_append] at T
  refine step_full T (by omega) (by omega) (by omega) ?_
  rcases hc with h | h
  · left
    rw [show ((a : Nat) : Int) = c from h]
    exact h4
  · right
    rw [show ((b : Nat) : Int) = c from h]
    exact h4
theorem stb_all {K : PySem.W.Frag} {a l : Addr} {H H' : Hp} (e : Stp a l H H') : ∀ {ys : List V} {ds : List PyData}, Paired (fun y d => StbD K a l H y d) ys ds → DpAll K H' ys ds
  | _, _, .nil => .nil
  | _, _, .cons h p => .cons (h H' e) (stb_all e p)
section
variable {P : Program} {w : World} {K : PySem.W.Frag} {mg : Str → Option Value} {base : Heap} {AA : Ad} {c PM PL PF : Addr}
def spFifth (K : PySem.W.Frag) (PM PL PF : Addr) : Sp := fun vs H Q _ => ∃ (a l : Addr), vs = [.ref a] ∧ DT a l (TB3 PM PL PF) H ∧ ∀ H', DT a l (TB3 PM PL PF) H' → Q (.bl true) H'
theorem ok__law_fifth_right (T : Txt P K mg AA) (D : DefC K mg "_law_fifth_right" s__law_fifth_right ["_law_deal"] c) (TB : LamX.TabB base mg c PF) (hh : Heard K AA.InvalidNetwork AA.InvalidNetwork AA.NetError) (d1 : PM ≠ PF) (d2 : PL ≠ PF) :
    KeptG P w K mg base CX0 11 "_law_fifth_right" s__law_fifth_right ["_law_deal"] (spFifth K PM PL PF) := by
  have O_Network := ok_Network (w := w) (base := base) T
  have O__law_any := ok__law_any (w := w) (base := base) T
  have O__law_mixed := ok__law_mixedV (w := w) (base := base) T O__law_any
  refine keepGC D sc__law_fifth_right (fun vs H Q E h => ?_) (fun f A outer s H vs Q E hgd hr h => ?_)
  · obtain ⟨a, l, rfl, _⟩ := h
    rfl
  · obtain ⟨a, l, rfl, B, q⟩ := h
    refine ⟨_, (pss_cons (ps_asg (pe_tup (pa_cons (pk_call O__law_mixed (hr.mono (by decide)) (pa_cons (pv 0) (pa_cons (pe_lst (pa_cons pe_int (pa_cons pe_int (pa_cons pe_int (pa_cons pe_int (pa_cons pe_int (pa_cons pe_int pa_nil))))))) pa_nil))) (pa_cons (pe_lc (own := [("_law_turn", 3)]) (g := gName 3) (tt := tYes) (by rfl) sc__law_fifth_right.nd (pi_range1 rfl T.n_range (pa_cons pe_int pa_nil)) (blkOk_by (own := [("_law_turn", 3)]) (N := ["_law_deal", "_law_order", "_law_modes", "_law_turn", "_law_hub", "_law_links_here", "_law_other", "_law_four", "_law_spot", "_law_more"]) (sc := defScope s__law_fifth_right) (by decide +kernel)) (fun _ _ _ _ _ => (pg_name (i := 3) sc__law_fifth_right.nd rfl (by first | exact Or.inl rfl | exact Or.inr rfl))) (fun _ _ _ _ _ => pts_nil) (fun _ _ _ _ _ => (pk_call O__law_any (hr.mono (by decide)) (pa_cons (pv 0) (pa_cons pe_int pa_nil))))) pa_nil))) (pg_tup rfl (pgs_cons (pg_name (i := 1) sc__law_fifth_right.nd rfl (by first | exact Or.inl rfl | exact Or.inr rfl)) (pgs_cons (pg_name (i := 2) sc__law_fifth_right.nd rfl (by first | exact Or.inl rfl | exact Or.inr rfl)) pgs_nil))))
      (pss_cons (ps_asg (pe_tup (pa_cons (pe_ix ix_seq (pv 1) pe_int (fun _ _ => rfl)) (pa_cons (pe_lst pa_nil) pa_nil))) (pg_tup rfl (pgs_cons (pg_name (i := 4) sc__law_fifth_right.nd rfl (by first | exact Or.inl rfl | exact Or.inr rfl)) (pgs_cons (pg_name (i := 5) sc__law_fifth_right.nd rfl (by first | exact Or.inl rfl | exact Or.inr rfl)) pgs_nil))))
      (pss_cons (ps_for PassesOwn.never rfl (pi_list (pe_slice sl_any (pv 1) (po_some pe_int) po_none)) (pg_name (i := 6) sc__law_fifth_right.nd rfl (by first | exact Or.inl rfl | exact Or.inr rfl))
        (pss_one (ps_expr (pe_bm PySem.F.plainAttrs_list PySem.F.slot_list_append PySem.F.type_list_append mt_append (pv 5) (pa_cons (pe_ifExp (pt_cmpR (oEq (ru64 hr)) (pk_call O__law_any (hr.mono (by decide)) (pa_cons (pv 0) (pa_cons pe_int pa_nil))) pe_int (nomark _)) (pe_tup (pa_cons (pv 4) (pa_cons (pv 6) pa_nil))) (pe_lst (pa_cons (pv 6) (pa_cons (pv 4) pa_nil)))) pa_nil)))))
      (pss_cons (ps_par (i := 7) (j := 8) (by rfl) sc__law_fifth_right.nd rfl rfl (by decide) rfl rfl (pa_cons (pk_newL O_Network (hr.mono (by decide)) (pa_cons (pv 2) (pa_cons (pe_slice sl_any (pv 5) po_none (po_some pe_int)) pa_nil))) (pa_cons (pk_call O__law_any (hr.mono (by decide)) (pa_cons (pv 0) (pa_cons pe_int pa_nil))) pa_nil)) (by rfl))
      (pss_cons (ps_if (PW.pt (pw_or (pt_cmpR (oNe (ru64 hr)) (pe_callB cLen (by rfl) T.n_len PySem.boot_len (pa_cons (pe_fld (pv 7) rfl) pa_nil)) pe_int (nomark _)) (pw_or1 (pt_cmpR (oNe (ru64 hr)) (pk_lam (k := 8) T.d__law_refused sc__law_refused rfl (Or.inl rfl) (fun g cdg => gv__law_refused T) TB rfl (List.mem_cons.mpr (.inr (List.mem_cons.mpr (.inr (List.mem_cons.mpr (.inl rfl)))))) (tb3_F d1 d2) (hr.mono (by decide)) (LamX.lamS_by (sc := defScope s__law_fifth_right) (by decide +kernel)) (fun A outer s H E f c' hr => (pk_newX O_Network (takes_of rfl rfl rfl rfl) (hr.mono (by decide)) (pa_cons (pv 2) (pa_cons (pv 5) pa_nil))))) pe_int (nomark _)))))
        (pss_one (ps_ret pe_bl)) pss_nil)
      (pss_cons (ps_asg (pe_op oAdd (pe_op oAdd (pe_slice sl_any (pv 5) po_none (po_some pe_int)) (pe_slice sl_any (pe_lst (pa_cons (pe_lst (pa_cons (pe_ix ix_seq (pv 1) pe_int (fun _ _ => rfl)) (pa_cons (pe_ix ix_seq (pv 1) pe_int (fun _ _ => rfl)) pa_nil))) (pa_cons (pe_tup (pa_cons (pe_ix ix_seq (pv 1) pe_int (fun _ _ => rfl)) (pa_cons (pe_ix ix_seq (pv 1) pe_int (fun _ _ => rfl)) pa_nil))) pa_nil))) (po_some (pv 8)) (po_some (pe_op oAdd (pv 8) pe_int)))) (pe_slice sl_any (pv 5) (po_some pe_int) po_none)) (pg_name (i := 9) sc__law_fifth_right.nd rfl (by first | exact Or.inl rfl | exact Or.inr rfl)))
      (pss_one (ps_ret (pe_cmpR (oEq (ru64 hr)) (pk_lam (k := 8) T.d__law_refused sc__law_refused rfl (Or.inl rfl) (fun g cdg => gv__law_refused T) TB rfl (List.mem_cons.mpr (.inr (List.mem_cons.mpr (.inr (List.mem_cons.mpr (.inl rfl)))))) (tb3_F d1 d2) (hr.mono (by decide)) (LamX.lamS_by (sc := defScope s__law_fifth_right) (by decide +kernel)) (fun A outer s H E f c' hr => (pk_newX O_Network (takes_of rfl rfl rfl rfl) (hr.mono (by decide)) (pa_cons (pv 2) (pa_cons (pv 9) pa_nil))))) pe_int (nomark _)))))))))), ?_⟩
    walk_at "s"
    refine ⟨show 6 ≤ sizeLine by decide +kernel, fun p1 n1 => ?_⟩
    have o1 := B.d.off n1
    have s1 : Same H _ := Same.newT (o := .lst [.int 0, .int 1, .int 2, .int 3, .int 4, .int 5]) n1
    have u1 : upd H p1 (.lst [.int 0, .int 1, .int 2, .int 3, .int 4, .int 5]) p1 = some (.lst [.int 0, .int 1, .int 2, .int 3, .int 4, .int 5]) := upd_same
    generalize upd H p1 (.lst [.int 0, .int 1, .int 2, .int 3, .int 4, .int 5]) = H1 at s1 u1
    have B1 := B.same s1
    walk_at "s"
    refine ⟨a, l, p1, _, rfl, B1.d, .inl (SqL.of u1), fun x hx => ?_, by decide, fun R ys H2 D2 f2 nR pm eR => ?_⟩
    · simp only [List.mem_cons, List.not_mem_nil, or_false] at hx
      rcases hx with rfl | rfl | rfl | rfl | rfl | rfl <;> exact .int _
    have B2 := B1.fr D2 f2
    have oR : R ≠ a ∧ R ≠ l := B1.d.off nR
    obtain ⟨ns, rfl, pn⟩ := perm_ints (xs := [0, 1, 2, 3, 4, 5]) pm
    have nln : ns.length = 6 := pn.length_eq
    have ndn : ns.Nodup := pn.nodup_iff.mpr (by decide)
    have nrg : ∀ x ∈ ns, 0 ≤ x ∧ x < 6 := fun x hx => by
      have := pn.mem_iff.mp hx
      simp only [List.mem_cons, List.not_mem_nil, or_false] at this
      omega
    obtain ⟨hub, os, rfl⟩ : ∃ hub os, ns = hub :: os := by
      cases ns with
      | nil => cases nln
      | cons x xs => exact ⟨x, xs, rfl⟩
    have lo : os.length = 5 := by simpa using nln
    rw [List.nodup_cons] at ndn
    obtain ⟨hno, ndo⟩ := ndn
    have hc := nrg hub List.mem_cons_self
    have ho : ∀ o ∈ os, 0 ≤ o ∧ o < 6 ∧ o ≠ hub := fun o h => ⟨(nrg o (List.mem_cons_of_mem _ h)).1, (nrg o (List.mem_cons_of_mem _ h)).2, fun z => hno (z ▸ h)⟩
    clear s1 u1 n1 pm pn nln nrg f2 D2 o1 B1 nR
    walk_at "s"
    refine ⟨by decide, by decide, ?_⟩
    refine lc_rng_inv (fun M i H' => DealAt H' a l ∧ Fr a l H2 H' ∧ H2 M = none ∧ M ≠ a ∧ M ≠ l ∧ ∃ ms : List Int, H' M = some (.lst (ms.map V.int)) ∧ ms.length = i ∧ ∀ x ∈ ms, 0 ≤ x ∧ x < 4) (fun M nM => ?_) (fun _ => rfl) (fun M i H3 nM hi L => ?_) (fun M H3 nM L => ?_)
    · have o := B2.d.off nM
      exact ⟨B2.d.updN o.1 o.2, Fr.refl.updN nM, nM, o.1, o.2, [], upd_same, rfl, fun x h => by cases h⟩
    · obtain ⟨D3, f3, nH, o1, o2, ms, eM, lm, hm⟩ := L
      have hi6 : i < 6 := hi
      walk_at "s"
      refine ⟨a, l, 4, rfl, by decide, by decide, D3, fun v H4 v0 v1 D4 f4 => ?_⟩
      refine ⟨ms.map V.int, f4 _ _ eM o1 o2, lt_size (by rw [List.length_map]; omega), D4.updN o1 o2, (f3.trans f4).updN nH, nH, o1, o2, ms ++ [v], by rw [upd_same, List.map_append]; rfl, by rw [List.length_append, lm]; rfl, fun x hx => ?_⟩
      rcases List.mem_append.mp hx with hx | hx
      · exact hm x hx
      · rw [List.mem_singleton.mp hx]
        exact ⟨v0, v1⟩
    obtain ⟨D3, f3, nH, oM1, oM2, ms, eM, lm, hm⟩ := L
    have lm : ms.length = 6 := lm
    have B3 := B2.fr D3 f3
    have eR := f3 _ _ eR oR.1 oR.2
    clear D3 f3 nH nM B2
    walk_at "s"
    refine ⟨show 2 ≤ sizeLine by decide +kernel, fun p0 m0 => ?_⟩
    have s4 : Same H3 _ := Same.newT (o := .tup [.ref R, .ref M]) m0
    refine w_gtup (.inl (.inl upd_same)) rfl ?_
    generalize upd H3 p0 (.tup [.ref R, .ref M]) = H4 at s4
    have B4 := B3.same s4
    have eR := s4 _ _ eR
    have eM := s4 _ _ eM
    walk_at "s"
    refine w_ixL (SqL.of eR) (v := .int hub) (atN (i := 0) rfl) ?_
    walk_at "s"
    refine ⟨show 0 ≤ sizeLine by decide +kernel, fun Lk nLk => ?_⟩
    have oL := B4.d.off nLk
    have s5 : Same H4 _ := Same.newT (o := .lst []) nLk
    have kL : upd H4 Lk (.lst []) Lk = some (.lst []) := upd_same
    generalize upd H4 Lk (.lst []) = H5 at s5 kL
    walk_at "s"
    refine ⟨show 2 ≤ sizeLine by decide +kernel, fun p6 m6 => ?_⟩
    have s6 : Same H5 _ := Same.newT (o := .tup [.int hub, .ref Lk]) m6
    have kL := s6 _ _ kL
    refine w_gtup (.inl (.inl upd_same)) rfl ?_
    generalize upd H5 p6 (.tup [.int hub, .ref Lk]) = H6 at s6 kL
    have s46 := Same.trans s5 s6
    walk_at "s"
    refine w_slL (SqL.of (s46 _ _ eR)) (fun G nG => ?_)
    rw [show cutV ((hub :: os).map V.int) (some 1) none = os.map V.int from cut_from _ 1]
    have s7 : Same H6 _ := Same.newT (o := .lst (os.map V.int)) nG
    have kG : upd H6 G (.lst (os.map V.int)) G = some (.lst (os.map V.int)) := upd_same
    have nGL : G ≠ Lk := (ne_of_none kL nG).symm
    have oG : G ≠ a ∧ G ≠ l := (B4.same s46).d.off nG
    have kL := s7 _ _ kL
    generalize upd H6 G (.lst (os.map V.int)) = H7 at s7 kL kG
    have s47 := Same.trans s46 s7
    have B7 := B4.same s47
    clear s4 s5 s6 s7 m0 m6 nG B3
    walk_at "s"
    refine ⟨⟨_, SqL.of kG⟩, ?_⟩
    refine fgL (xs := os.map V.int) (fun j σ H' => DealAt H' a l ∧ Fr a l H4 H' ∧ H' G = some (.lst (os.map V.int)) ∧ (∃ v3 v6 v7 v8 v9 : Option V, σ = [some (.ref a), some (.ref R), some (.ref M), v3, some (.int hub), some (.ref Lk), v6, v7, v8, v9]) ∧
      ∃ (ls : List V) (ws : List (Int × Int)), H' Lk = some (.lst ls) ∧ Paired (fun y w => LkD a l Lk H' y w) ls ws ∧ Star hub (os.take j) ws) ⟨B7.d, Fr.same s47, kG, ⟨_, _, _, _, _, rfl⟩, [], [], kL, .nil, .nil⟩ (fun j σ H' _ q => SqL.of q.2.2.1) ?_ ?_
    · rintro j x σ H8 hj ⟨D8, f8, kG8, ⟨v3, v6, v7, v8, v9, rfl⟩, ls, ws, kL8, pl, st⟩
      obtain ⟨o, ho2, rfl⟩ : ∃ o, os[j]? = some o ∧ x = .int o := by
        rw [List.getElem?_map] at hj
        cases e : os[j]? with
        | none => rw [e] at hj; cases hj
        | some o => rw [e] at hj; exact ⟨o, rfl, (Option.some.inj hj).symm⟩
      have jl := (List.getElem?_eq_some_iff.mp ho2).1
      have lls : ls.length = j := by
        have h1 := Paired.length pl
        have h2 := Paired.length st
        rw [List.length_take] at h2
        omega
      walk_at "s"
      refine ⟨tyL kL8, ?_⟩
      walk_at "s"
      refine ⟨a, l, 2, rfl, by decide, by decide, D8, fun r H9 r0 r1 D9 f9 => ?_⟩
      have kL9 := f9 _ _ kL8 oL.1 oL.2
      have kG9 := f9 _ _ kG8 oG.1 oG.2
      have pl9 : Paired (fun y w => LkD a l Lk H9 y w) ls ws := Paired.mapP pl fun y w h => h.fr D8 f9
      have nl4 : H4 Lk = none := nLk
      -- the new link, appended
      have put : ∀ {t : Addr} {w : Int × Int} {H' : Hp}, Same H9 H' → LkD a l Lk H' (.ref t) w → (w = (hub, o) ∨ w = (o, hub)) → rAppend (.ref Lk) [.ref t] H' (fun _ H'' => ∃ (v3 v6 v7 v8 v9 : Option V), DealAt H'' a l ∧ Fr a l H4 H'' ∧ H'' G = some (.lst (os.map V.int)) ∧
          ∃ (ls : List V) (ws : List (Int × Int)), H'' Lk = some (.lst ls) ∧ Paired (fun y w => LkD a l Lk H'' y w) ls ws ∧ Star hub (os.take (j + 1)) ws) := fun {t w H'} e h hw => by
        have k' := e _ _ kL9
        refine w_append k' (lt_size (by omega)) ⟨none, none, none, none, none, (D9.same e).updN oL.1 oL.2, ((f8.trans f9).trans (Fr.same e)).updN nl4, by rw [upd_ne nGL]; exact e _ _ kG9, _, _, upd_same, paired_snoc (Paired.mapP pl9 fun y w q => (q.same e).put k') (h.put k'), ?_⟩
        rw [take_snoc ho2]
        exact paired_snoc st hw
      walk_at "s"
      refine w_iteD (fun hr0 => ?_) (fun hr0 => ?_)
      · walk_at "s"
        refine ⟨show 2 ≤ sizeLine by decide +kernel, fun t nt => ?_⟩
        walk_at "s"
        obtain ⟨l1, xs1, y1, e1, e2, e3, e4, e5⟩ := put (w := (hub, o)) (Same.newT (o := .tup [.int hub, .int o]) nt) ⟨t, rfl, .inl upd_same⟩ (.inl rfl)
        refine ⟨l1, xs1, y1, e1, e2, e3, e4, ?_⟩
        obtain ⟨_, _, _, _, _, c1, c2, c3, c4⟩ := e5
        exact ⟨c1, c2, c3, ⟨_, _, _, _, _, rfl⟩, c4⟩
      · walk_at "s"
        refine ⟨show 2 ≤ sizeLine by decide +kernel, fun t nt => ?_⟩
        walk_at "s"
        have ot := D9.off nt
        have otL : t ≠ Lk := (ne_of_none kL9 nt).symm
        obtain ⟨l1, xs1, y1, e1, e2, e3, e4, e5⟩ := put (w := (o, hub)) (Same.newT (o := .lst [.int o, .int hub]) nt) ⟨t, rfl, .inr ⟨upd_same, ot.1, ot.2, otL⟩⟩ (.inr rfl)
        refine ⟨l1, xs1, y1, e1, e2, e3, e4, ?_⟩
        obtain ⟨_, _, _, _, _, c1, c2, c3, c4⟩ := e5
        exact ⟨c1, c2, c3, ⟨_, _, _, _, _, rfl⟩, c4⟩
    · rintro σ H8 ⟨D8, f8, kG8, ⟨v3, v6, v7, v8, v9, rfl⟩, ls, ws, kL8, pl, st⟩
      rw [List.length_map, List.take_length] at st
      have B8 := B4.fr D8 f8
      have eM8 := f8 _ _ eM oM1 oM2
      have eR8 := f8 _ _ eR oR.1 oR.2
      clear D8 f8 kG8 s46 s47 kG kL B7 eM eR nLk
      walk_at "s"
      obtain ⟨x1, x2, x3, x4, x5, rfl⟩ := five lo
      have lws : ws.length = 5 := (Paired.length st).symm
      obtain ⟨w1, w2, w3, w4, w5, rfl⟩ := five lws
      have lls : ls.length = 5 := Paired.length pl
      obtain ⟨y1, y2, y3, y4, y5, rfl⟩ := five lls
      have rng : ∀ w ∈ [w1, w2, w3, w4, w5], 0 ≤ w.1 ∧ w.1 < ((6 : Nat) : Int) ∧ 0 ≤ w.2 ∧ w.2 < ((6 : Nat) : Int) ∧ w.1 ≠ w.2 := fun w hw => by
        obtain ⟨o, h1, h2⟩ := star_mem st hw
        have := ho o h1
        rcases h2 with rfl | rfl
        · exact ⟨hc.1, hc.2, this.1, this.2.1, fun z => this.2.2 z.symm⟩
        · exact ⟨this.1, this.2.1, hc.1, hc.2, this.2.2⟩
      obtain ⟨ds, sd, ld⟩ := lkd_all (K := K) B8.d pl rng
      have lds : ds.length = 5 := Paired.length ld
      obtain ⟨d1', d2', d3', d4', d5', rfl⟩ := five lds
      have st4 : Star hub [x1, x2, x3, x4] [w1, w2, w3, w4] := paired_take 4 st
      have s5 : w5 = (hub, x5) ∨ w5 = (x5, hub) := paired_one (F := fun (o : Int) (w : Int × Int) => w = (hub, o) ∨ w = (o, hub)) (paired_drop 4 st)
      have ld4 : Paired (LD (6 : Nat)) [d1', d2', d3', d4'] [w1, w2, w3, w4] := paired_take 4 ld
      have ld5 : LD (6 : Nat) d5' w5 := paired_one (paired_drop 4 ld)
      have sd4 : Paired (fun y d => StbD K a l H8 y d) [y1, y2, y3, y4] [d1', d2', d3', d4'] := paired_take 4 sd
      have sd5 : StbD K a l H8 y5 d5' := paired_one (paired_drop 4 sd)
      have ho4 : ∀ o ∈ [x1, x2, x3, x4], 0 ≤ o ∧ o < ((6 : Nat) : Int) ∧ o ≠ hub := fun o h => ho o (by simp only [List.mem_cons, List.not_mem_nil, or_false] at h ⊢; omega)
      have nd4 : [x1, x2, x3, x4].Nodup := by
        have := ndo
        rw [show [x1, x2, x3, x4, x5] = [x1, x2, x3, x4] ++ [x5] from rfl, List.nodup_append] at this
        exact this.1
      have ok4 : WOK 6 [w1, w2, w3, w4] := star_wok st4 hc ho4 nd4 (Nat.le_refl 4)
      have hub4 : deg [w1, w2, w3, w4] hub = 4 := star_hub st4
      have c5 : w5.1 = hub ∨ w5.2 = hub := by rcases s5 with rfl | rfl <;> simp
      have ne12 : x1 ≠ x2 := by
        rw [List.nodup_cons] at ndo
        exact fun z => ndo.1 (z ▸ List.mem_cons_self)
      have lms : (dInts ms).length ≤ 1000 := by rw [dInts_len]; omega
      clear pl lds lls lws lo
      refine w_slL (SqL.of kL8) (fun g1 h1 => ?_)
      rw [show cutV [y1, y2, y3, y4, y5] none (some 4) = [y1, y2, y3, y4] from cut_to _ 4]
      have s9 : Same H8 _ := Same.newT (o := .lst [y1, y2, y3, y4]) h1
      have k1 : upd H8 g1 (.lst [y1, y2, y3, y4]) g1 = some (.lst [y1, y2, y3, y4]) := upd_same
      generalize upd H8 g1 (.lst [y1, y2, y3, y4]) = H9 at s9 k1
      have B9 := B8.same s9
      walk_at "s"
      obtain ⟨r4, hr4, T4⟩ := go_ok (k := 0) (us := []) ld4 (told0 6) ok4
      refine ⟨.ref M, .ref g1, .list (dInts ms), .list [d1', d2', d3', d4'], rfl, .dp (.lst (SqL.of (s9 _ _ eM8)) (dp_ints ms)), .dp (.lst (SqL.of k1) (stb_all (Stp.same s9) sd4)), lms, ?_⟩
      rw [netD_good (.inl rfl) (by omega) hm (rows := r4) (by rw [rowsD_of (.inl rfl), lm]; exact hr4)]
      intro x rows' H10 e10 nx so na
      have len4 : (linksOf rows').length = 4 := links_len T4 ok4 so
      obtain ⟨dx, fs, tr, tm, tl, yr, yl, n1, n2, n3, n4, n5, n6, n7, n8, n9⟩ := na.ex
      have lyl : yl.length = 4 := by rw [← Paired.length n9, len4]
      have ox := B9.d.off nx
      have B10 := B9.same e10
      have t10 : Stp a l H8 H10 := Stp.same (Same.trans s9 e10)
      clear s9 k1 h1 e10 nx n5 n6 n7 n2 n3 so na n9
      walk_at "s"
      refine ⟨a, l, 2, rfl, by decide, by decide, B10.d, fun sp H11 sp0 sp1 D11 f11 => ?_⟩
      have B11 := B10.fr D11 f11
      have t11 : Stp a l H8 H11 := t10.trans (Stp.fr f11)
      have hx11 := f11 _ _ n1 ox.1 ox.2
      have n8 := B10.d.sqT f11 n8
      clear D11 f11 n1 t10
      walk_at "s"
      refine ⟨x, _, dx, _, .ref tl, rfl, hx11, T.K_Network.ic.cl, T.a_Network_links, n4, ?_⟩
      walk_at "s"
      refine w_lenT n8 ?_
      rw [lyl]
      walk_at "s"
      refine w_iteN (fun z => absurd rfl z) (fun _ => ?_)
      walk_at "s"
      refine ⟨B11.t, fun H12 e12 T12 => ?_⟩
      have B12 := B11.ext e12 T12
      have t12 : Stp a l H8 H12 := t11.trans (Stp.ext e12)
      refine w_tref ?_
      walk_at "s"
      refine ⟨.ref M, .ref Lk, .list (dInts ms), .list ([d1', d2', d3', d4'] ++ [d5']), rfl, .dp (.lst (SqL.of (t12.lst eM8 oM1 oM2)) (dp_ints ms)), .dp (.lst (SqL.of (t12.lst kL8 oL.1 oL.2)) (stb_all t12 sd)), lms, ?_⟩
      rw [netD_links (.inl rfl) (by omega) hm (i := 4) (by rw [rowsD_of (.inl rfl), lm]; exact go_fifth ld4 ok4 ld5 c5 hub4), lm]
      intro dd H13 e13 nd
      refine ⟨AA.InvalidNetwork, dd, _, rfl, rfl, hh, upd_same, ?_⟩
      have B13 := (B12.same e13).same (Same.newT (o := .xd [("at", .int ((6 + 4 : Nat)))]) nd)
      have t13 : Stp a l H8 (upd H13 dd (.xd [("at", .int ((6 + 4 : Nat)))])) := t12.trans (Stp.same (Same.trans e13 (Same.newT nd)))
      generalize upd H13 dd (.xd [("at", .int ((6 + 4 : Nat)))]) = H14 at B13 t13
      clear B12 T12 e12 t12 e13 nd B11 t11 hx11 n8
      walk_at "s"
      refine w_iteN (fun z => absurd rfl z) (fun _ => ?_)
      walk_at "s"
      refine w_slL (SqL.of (t13.lst kL8 oL.1 oL.2)) (fun g2 h2 => ?_)
      rw [show cutV [y1, y2, y3, y4, y5] none (some 4) = [y1, y2, y3, y4] from cut_to _ 4]
      have s15 : Same H14 _ := Same.newT (o := .lst [y1, y2, y3, y4]) h2
      have k2 : upd H14 g2 (.lst [y1, y2, y3, y4]) g2 = some (.lst [y1, y2, y3, y4]) := upd_same
      generalize upd H14 g2 (.lst [y1, y2, y3, y4]) = H15 at s15 k2
      have B15 := B13.same s15
      have eR15 : H15 R = some (.lst ((hub :: [x1, x2, x3, x4, x5]).map V.int)) := s15 _ _ (t13.lst eR8 oR.1 oR.2)
      walk_at "s"
      refine w_ixL (SqL.of eR15) (v := .int x1) rfl ?_
      walk_at "s"
      refine w_ixL (SqL.of eR15) (v := .int x2) rfl ?_
      walk_at "s"
      refine ⟨show 2 ≤ sizeLine by decide +kernel, fun g3 h3 => ?_⟩
      have o3 := B15.d.off h3
      have s16 : Same H15 _ := Same.newT (o := .lst [.int x1, .int x2]) h3
      have k3 : upd H15 g3 (.lst [.int x1, .int x2]) g3 = some (.lst [.int x1, .int x2]) := upd_same
      have k2 := s16 _ _ k2
      have eR16 := s16 _ _ eR15
      generalize upd H15 g3 (.lst [.int x1, .int x2]) = H16 at s16 k2 k3 eR16
      have B16 := B15.same s16
      walk_at "s"
      refine w_ixL (SqL.of eR16) (v := .int x2) rfl ?_
      walk_at "s"
      refine w_ixL (SqL.of eR16) (v := .int x1) rfl ?_
      walk_at "s"
      refine ⟨show 2 ≤ sizeLine by decide +kernel, fun g4 h4 => ?_⟩
      have s17 : Same H16 _ := Same.newT (o := .tup [.int x2, .int x1]) h4
      have k4 : upd H16 g4 (.tup [.int x2, .int x1]) g4 = some (.tup [.int x2, .int x1]) := upd_same
      have k2 := s17 _ _ k2
      have k3 := s17 _ _ k3
      generalize upd H16 g4 (.tup [.int x2, .int x1]) = H17 at s17 k2 k3 k4
      have B17 := B16.same s17
      walk_at "s"
      refine ⟨show 2 ≤ sizeLine by decide +kernel, fun g5 h5 => ?_⟩
      have s18 : Same H17 _ := Same.newT (o := .lst [.ref g3, .ref g4]) h5
      have k5 : upd H17 g5 (.lst [.ref g3, .ref g4]) g5 = some (.lst [.ref g3, .ref g4]) := upd_same
      have k2 := s18 _ _ k2
      have k3 := s18 _ _ k3
      have k4 := s18 _ _ k4
      generalize upd H17 g5 (.lst [.ref g3, .ref g4]) = H18 at s18 k2 k3 k4 k5
      have B18 := B17.same s18
      have t18 : Stp a l H8 H18 := t13.trans (Stp.same (Same.trans s15 (Same.trans s16 (Same.trans s17 s18))))
      clear s15 s16 s17 s18 B15 B16 B17 B13 t13 eR15 eR16 h2 h3 h4 h5
      -- the link more
      obtain ⟨yx, dx', wx, ecut, sx, lx, hwx⟩ : ∃ (yx : V) (dx' : PyData) (wx : Int × Int), cutV [V.ref g3, .ref g4] (some sp) (some (sp + 1)) = [yx] ∧ StbD K a l H18 yx dx' ∧ LD (6 : Nat) dx' wx ∧ (wx = (x1, x2) ∨ wx = (x2, x1)) := by
        have h1 := ho x1 (by simp)
        have h2 := ho x2 (by simp)
        rcases (by omega : sp = 0 ∨ sp = 1) with rfl | rfl
        · exact ⟨.ref g3, .list [.int x1, .int x2], (x1, x2), rfl, fun H' s => .lst (SqL.of (s.lst k3 o3.1 o3.2)) (.cons (.int _) (.cons (.int _) .nil)), link_ok (.inr rfl) h1.1 h1.2.1 h2.1 h2.2.1 ne12, .inl rfl⟩
        · exact ⟨.ref g4, .tuple [.int x2, .int x1], (x2, x1), rfl, fun H' s => .tup (.inl (.inl (s.tup B18.d k4))) (.cons (.int _) (.cons (.int _) .nil)), link_ok (.inl rfl) h2.1 h2.2.1 h1.1 h1.2.1 (Ne.symm ne12), .inr rfl⟩
      have okx : WOK 6 ([w1, w2, w3, w4] ++ [wx]) := by
        rcases hwx with rfl | rfl
        · exact star_more st4 hc ho4 nd4 (Nat.le_refl 4) (by simp) (by simp) ne12
        · exact star_more st4 hc ho4 nd4 (Nat.le_refl 4) (by simp) (by simp) (Ne.symm ne12)
      have hubx : deg ([w1, w2, w3, w4] ++ [wx]) hub = 4 := by
        have h1 := (ho x1 (by simp)).2.2
        have h2 := (ho x2 (by simp)).2.2
        rw [deg_app, hub4]
        rcases hwx with rfl | rfl <;> simp [h1, h2]
      walk_at "s"
      refine w_slL (SqL.of k5) (fun g6 h6 => ?_)
      rw [ecut]
      have s19 : Same H18 _ := Same.newT (o := .lst [yx]) h6
      have k6 : upd H18 g6 (.lst [yx]) g6 = some (.lst [yx]) := upd_same
      have k2 := s19 _ _ k2
      generalize upd H18 g6 (.lst [yx]) = H19 at s19 k2 k6
      walk_at "s"
      refine .inr (.inr ⟨g2, g6, _, _, rfl, rfl, k2, k6, show 5 ≤ sizeLine by decide +kernel, fun g7 h7 => ?_⟩)
      have s20 : Same H19 _ := Same.newT (o := .lst [y1, y2, y3, y4, yx]) h7
      have k7 : upd H19 g7 (.lst [y1, y2, y3, y4, yx]) g7 = some (.lst [y1, y2, y3, y4, yx]) := upd_same
      show tSl _ _ _ _ _ (upd H19 g7 (.lst [y1, y2, y3, y4, yx])) _
      generalize upd H19 g7 (.lst [y1, y2, y3, y4, yx]) = H20 at s20 k7
      have t20 : Stp a l H8 H20 := t18.trans (Stp.same (Same.trans s19 s20))
      walk_at "s"
      refine w_slL (SqL.of (t20.lst kL8 oL.1 oL.2)) (fun g8 h8 => ?_)
      rw [show cutV [y1, y2, y3, y4, y5] (some 4) none = [y5] from cut_from _ 4]
      have s21 : Same H20 _ := Same.newT (o := .lst [y5]) h8
      have k8 : upd H20 g8 (.lst [y5]) g8 = some (.lst [y5]) := upd_same
      have k7 := s21 _ _ k7
      generalize upd H20 g8 (.lst [y5]) = H21 at s21 k7 k8
      walk_at "s"
      refine .inr (.inr ⟨g7, g8, _, _, rfl, rfl, k7, k8, show 6 ≤ sizeLine by decide +kernel, fun W hW => ?_⟩)
      have s22 : Same H21 _ := Same.newT (o := .lst [y1, y2, y3, y4, yx, y5]) hW
      have kW : upd H21 W (.lst [y1, y2, y3, y4, yx, y5]) W = some (.lst [y1, y2, y3, y4, yx, y5]) := upd_same
      have oW := (B18.same (Same.trans s19 (Same.trans s20 s21))).d.off hW
      have s1822 := Same.trans s19 (Same.trans s20 (Same.trans s21 s22))
      have B22 := B18.same s1822
      have t22 : Stp a l H18 (upd H21 W (.lst [y1, y2, y3, y4, yx, y5])) := Stp.same s1822
      rw [show [y1, y2, y3, y4, yx] ++ [y5] = [y1, y2, y3, y4, yx, y5] from rfl]
      generalize upd H21 W (.lst [y1, y2, y3, y4, yx, y5]) = H22 at kW B22 t22
      walk_at "s"
      refine ⟨B22.t, fun H23 e23 T23 => ?_⟩
      have B23 := B22.ext e23 T23
      have tx : Stp a l H18 H23 := t22.trans (Stp.ext e23)
      have t23 : Stp a l H8 H23 := t18.trans tx
      refine w_tref ?_
      walk_at "s"
      have dW : DpAll K H23 [y1, y2, y3, y4, yx, y5] (([d1', d2', d3', d4'] ++ [dx']) ++ [d5']) := dp_app (dp_app (stb_all t23 sd4) (.cons (sx H23 tx) .nil)) (.cons (sd5 H23 t23) .nil)
      have ldx : Paired (LD (6 : Nat)) ([d1', d2', d3', d4'] ++ [dx']) ([w1, w2, w3, w4] ++ [wx]) := paired_snoc ld4 lx
      refine ⟨.ref M, .ref W, .list (dInts ms), .list (([d1', d2', d3', d4'] ++ [dx']) ++ [d5']), rfl, .dp (.lst (SqL.of (t23.lst eM8 oM1 oM2)) (dp_ints ms)), .dp (.lst (SqL.of ((Stp.ext (a := a) (l := l) e23).lst kW oW.1 oW.2)) dW), lms, ?_⟩
      rw [netD_links (.inl rfl) (by omega) hm (i := 5) (by rw [rowsD_of (.inl rfl), lm]; exact go_fifth ldx okx ld5 c5 hubx), lm]
      intro dd H24 e24 nd
      refine ⟨AA.InvalidNetwork, dd, _, rfl, rfl, hh, upd_same, ?_⟩
      have B24 := (B23.same e24).same (Same.newT (o := .xd [("at", .int ((6 + 5 : Nat)))]) nd)
      generalize upd H24 dd (.xd [("at", .int ((6 + 5 : Nat)))]) = H25 at B24
      walk_at "s"
      exact q _ B24
end

end K04
set_option maxRecDepth 100000
set_option maxHeartbeats 4000000
set_option pp.maxSteps 300
namespace K04
open PySem L2 NL
local macro_rules | `(tactic| walk_at "s1") => `(tactic| with_reducible first
  | refine w_seq ?_ | refine w_asg ?_ | refine w_drop ?_ | refine w_ret ?_ | refine w_next ?_ | refine w_ifS ?_
  | refine w_c ?_ | refine w_op ?_ | refine w_un ?_ | refine w_test ?_ | refine w_B ?_ | refine w_bl ?_ | refine w_not ?_ | refine w_and ?_ | refine w_or ?_
  | refine w_andV ?_ | refine w_orV ?_ | refine w_notV ?_ | refine w_blP ?_ | refine w_if ?_ | refine w_nil ?_ | refine w_cons ?_ | refine w_call ?_ | refine w_callS ?_ | refine w_callW ?_
  | refine w_cb ?_ | refine w_tup ?_ | refine w_lst ?_ | refine w_par ?_ | refine w_two ?_ | refine w_addI ?_ | refine w_I0 ?_ | refine w_neg ?_ | refine w_eqI ?_ | refine w_neI ?_
  | refine w_absI ?_ | refine w_intI ?_ | refine w_sub ?_ | refine w_bm0 ?_ | refine w_bm ?_ | refine w_iteT ?_ | refine w_iteF ?_ | refine w_iteNF ?_ | refine w_iteNT ?_ | refine w_lcT ?_ | refine w_lcL ?_
  | refine w_ref ?_ | refine w_sl ?_ | refine w_npart ?_ | refine w_part ?_ | refine w_iv ?_ | refine w_rev ?_ | refine w_forL ?_ | refine w_forT ?_ | refine w_forR1 ?_ | refine w_one ?_ | refine w_g ?_
  | refine w_asgT ?_ | refine w_gcons ?_ | refine w_gnil ?_ | refine w_lcR1 ?_ | refine w_sFld ?_ | refine w_fldR ?_ | refine w_forEL ?_ | refine w_forET ?_ | refine w_lc2E ?_
  | refine w_var (by with_unfolding_all rfl) ?_)
local macro_rules | `(tactic| walk_at "s") => `(tactic| repeat (walk_at "s1"))

/-! ### law (k04) -/
section
variable {K : PySem.W.Frag} {σ : L2.St} {H : Hp} {Q : VK} {te tl : TE} {vs : List Nat} {g : TG} {a : Addr} {xs : List V}
/-- a list made over a list, its items taken apart -/
def LcGoT (J : It) (g : TG) (te : TE) (vs : List Nat) (σ : L2.St) (H : Hp) (Q : VK) : Prop :=
    ∀ D, H D = none → ∃ W : Nat → Nat → Hp → Prop, (∃ m, W 0 m (upd H D (.lst []))) ∧ ∀ i m H, W i m H →
      (J.stop i H ∧ Q (.ref D) H) ∨ (J.go i H ∧ ∃ Nx : Hp → Prop, (∀ H', Nx H' → ∃ m', m' < m ∧ W (i + 1) m' H') ∧ ∀ x H', J.yld i H x H' → g x (wipe σ vs) H' fun σ2 H2 => wipe σ2 vs = wipe σ vs ∧ tYes σ2 H2 fun b H3 =>
        if b = true then te σ2 H3 fun y H4 => ∃ acc, H4 D = some (.lst acc) ∧ acc.length < sizeLine ∧ Nx (upd H4 D (.lst (acc ++ [y]))) else Nx H3)
theorem w_lcLT (h : tl σ H fun x H1 => ∃ a, x = .ref a ∧ (∃ xs, SqL K H1 a xs) ∧ LcGoT (Itl K a) g te vs σ H1 Q) : tLc (iList K tl) g tYes te vs σ H Q := h
theorem lc_tgt (Pv : Addr → Nat → Hp → Prop) (h0 : ∀ D, H D = none → Pv D 0 (upd H D (.lst []))) (hl : ∀ D i H', H D = none → Pv D i H' → SqL K H' a xs)
    (hs : ∀ D (i : Nat) x H', H D = none → xs[i]? = some x → Pv D i H' → g x (wipe σ vs) H' fun σ2 H2 => wipe σ2 vs = wipe σ vs ∧ tYes σ2 H2 fun b H3 =>
        if b = true then te σ2 H3 fun y H4 => ∃ acc, H4 D = some (.lst acc) ∧ acc.length < sizeLine ∧ Pv D (i + 1) (upd H4 D (.lst (acc ++ [y]))) else Pv D (i + 1) H3)
    (hq : ∀ D H', H D = none → Pv D xs.length H' → Q (.ref D) H') : LcGoT (Itl K a) g te vs σ H Q := by
  intro D hD
  refine ⟨fun i m H' => m = xs.length - i ∧ i ≤ xs.length ∧ Pv D i H', ⟨_, rfl, Nat.zero_le _, h0 D hD⟩, ?_⟩
  rintro i m H' ⟨rfl, hi, p⟩
  have S := hl D i H' hD p
  by_cases h : i < xs.length
  · refine .inr ⟨⟨xs, xs[i], S, by simp [h]⟩, fun H2 => Pv D (i + 1) H2, fun H2 q => ⟨xs.length - (i + 1), by omega, rfl, h, q⟩, fun x H2 y => ?_⟩
    obtain ⟨rfl, y⟩ := y
    exact hs D i x _ hD (y xs S) p
  · have e : i = xs.length := by omega
    subst e
    exact .inl ⟨⟨xs, S, Nat.le_refl _⟩, hq D H' hD p⟩
end
/-- both ways go on alike -/
theorem w_iteR {c : Prop} [Decidable c] {tt : TT} {σ : L2.St} {H : Hp} {QT : Bool → Hp → Prop} (rest : ∀ H', Same H H' → QT false H') (h1 : ¬ c → (∀ H', Same H H' → QT false H') → tt σ H QT) : if (!decide c) = true then tt σ H QT else QT false H := by
  by_cases q : c
  · rw [if_neg (by simpa using q)]
    exact rest H (Same.refl H)
  · rw [if_pos (by simpa using q)]
    exact h1 q rest
theorem w_neSS {K : PySem.W.Frag} {H : Hp} {Q : VK} {x : Str} (h : Q (.bl false) H) : aNe K (.str x) (.str x) H Q := w_neS (by rw [decide_eq_true rfl]; exact h)
theorem Stp.sqT {K : PySem.W.Frag} {a l b : Addr} {H H' : Hp} {xs : List V} (s : Stp a l H H') (D : DealAt H a l) (h : SqT K H b xs) : SqT K H' b xs := by
  rcases h with (h | ⟨u, h⟩) | h
  · exact .inl (.inl (s.tup D h))
  · refine .inl (.inr ⟨u, s b _ h ?_ ?_ fun _ z => by cases z⟩)
    · obtain ⟨ne, ns, c, e1, e2, r⟩ := D
      rintro rfl
      rw [h] at e1
      cases e1
    · obtain ⟨ne, ns, c, e1, e2, r⟩ := D
      rintro rfl
      rw [h] at e2
      cases e2
  · exact .inr h
theorem NetAt.stp {K : PySem.W.Frag} {a l C x : Addr} {H H' : Hp} {ms : List Int} {rows : List (List Int)} (h : NetAt K C H x ms rows) (s : Stp a l H H') (D : DealAt H a l) : NetAt K C H' x ms rows := by
  obtain ⟨dx, fs, tr, tm, tl, yr, yl, h1, h2, h3, h4, h5, h6, h7, h8, h9⟩ := h.ex
  refine ⟨dx, fs, tr, tm, tl, yr, yl, s x _ h1 ?_ ?_ fun _ z => (by cases z), h2, h3, h4, s.tup D h5, Paired.mapP h6 fun r y q => ?_, s.sqT D h7, s.sqT D h8, s.pairs D h9⟩
  · obtain ⟨ne, ns, c, e1, e2, r⟩ := D
    rintro rfl
    rw [h1] at e1
    cases e1
  · obtain ⟨ne, ns, c, e1, e2, r⟩ := D
    rintro rfl
    rw [h1] at e2
    cases e2
  · obtain ⟨t, q1, q2⟩ := q
    exact ⟨t, q1, s.tup D q2⟩
theorem lst_keep {H : Hp} {D b : Addr} {xs : List V} {o u : HO} (e : H D = some (.lst xs)) (h : H b = some u) (n : ∀ xs, u ≠ .lst xs) : upd H D o b = some u := by
  rw [upd_ne ?_]
  · exact h
  · rintro rfl
    rw [e] at h
    exact n _ (Option.some.inj h).symm
theorem DT.put {a l D : Addr} {T : List (Addr × Str)} {H : Hp} {xs : List V} {o : HO} (x : DT a l T H) (e : H D = some (.lst xs)) (h1 : D ≠ a) (h2 : D ≠ l) : DT a l T (upd H D o) := by
  refine ⟨x.d.updN h1 h2, fun p hp => ?_⟩
  obtain ⟨ps, q1, q2, q3⟩ := x.t p hp
  refine ⟨ps, lst_keep e q1 (fun _ z => by cases z), q2, fun pos cv hc => ?_⟩
  obtain ⟨c, e2, q⟩ := q3 pos cv hc
  exact ⟨c, e2, lst_keep e q (fun _ z => by unfold LamX.CodeO at z; cases z)⟩
theorem sqT_put {K : PySem.W.Frag} {D b : Addr} {H : Hp} {xs ys : List V} {o : HO} (e : H D = some (.lst xs)) (h : SqT K H b ys) : SqT K (upd H D o) b ys := by
  rcases h with (h | ⟨u, h⟩) | h
  · exact .inl (.inl (lst_keep e h fun _ z => by cases z))
  · exact .inl (.inr ⟨u, lst_keep e h fun _ z => by cases z⟩)
  · exact .inr h
theorem pairs_put {D : Addr} {H : Hp} {xs ys : List V} {zs : List (Int × Int)} {o : HO} (e : H D = some (.lst xs)) (h : Paired (fun z y => PairAt H z y) zs ys) : Paired (fun z y => PairAt (upd H D o) z y) zs ys := Paired.mapP h fun z y q => by
  obtain ⟨t, q1, q2⟩ := q
  exact ⟨t, q1, lst_keep e q2 fun _ z => by cases z⟩
theorem NetAt.put {K : PySem.W.Frag} {C x D : Addr} {H : Hp} {ms : List Int} {rows : List (List Int)} {xs : List V} {o : HO} (h : NetAt K C H x ms rows) (e : H D = some (.lst xs)) : NetAt K C (upd H D o) x ms rows := by
  obtain ⟨dx, fs, tr, tm, tl, yr, yl, h1, h2, h3, h4, h5, h6, h7, h8, h9⟩ := h.ex
  refine ⟨dx, fs, tr, tm, tl, yr, yl, lst_keep e h1 (fun _ z => by cases z), h2, h3, h4, lst_keep e h5 (fun _ z => by cases z), Paired.mapP h6 fun r y q => ?_, sqT_put e h7, sqT_put e h8, pairs_put e h9⟩
  obtain ⟨t, q1, q2⟩ := q
  exact ⟨t, q1, lst_keep e q2 fun _ z => by cases z⟩
/-- a network as data: its modes, its links -/
def nD (ms : List Int) (zs : List (Int × Int)) : PyData := .tuple [.tuple (dInts ms), .tuple (zs.map pD)]
theorem okNet {ms : List Int} {zs : List (Int × Int)} (h1 : ∀ x ∈ ms, 0 ≤ x ∧ x < 4) (h2 : ms.length ≤ 9) (h3 : ∀ z ∈ zs, 0 ≤ z.1 ∧ z.1 < z.2 ∧ z.2 < (9 : Int)) (h4 : zs.length ≤ 36) : OkD 10000 3 (nD ms zs) := by
  have a : OkD 315 1 (.tuple (dInts ms)) := by
    refine (OkD.tup (w := 34) (p := 0) (ds := dInts ms) fun d hd => ?_).mono ?_ (Nat.le_refl _)
    · obtain ⟨i, hi, rfl⟩ := List.mem_map.mp hd
      have := h1 i hi
      exact OkD.int this.1 (by omega)
    · rw [dInts_len]
      omega
  have b : OkD 2556 2 (.tuple (zs.map pD)) := by
    refine (OkD.tup (w := 70) (p := 1) (ds := zs.map pD) fun d hd => ?_).mono ?_ (Nat.le_refl _)
    · obtain ⟨z, hz, rfl⟩ := List.mem_map.mp hd
      have := h3 z hz
      refine (OkD.tup (w := 34) (p := 0) (ds := [.int z.1, .int z.2]) fun d hd => ?_).mono (show 2 * (34 + 1) ≤ 70 by decide) (Nat.le_refl _)
      simp only [List.mem_cons, List.not_mem_nil, or_false] at hd
      rcases hd with rfl | rfl
      · exact OkD.int (by omega) (by omega)
      · exact OkD.int (by omega) (by omega)
    · rw [List.length_map]
      omega
  refine (OkD.tup (w := 2556) (p := 2) (ds := [.tuple (dInts ms), .tuple (zs.map pD)]) fun d hd => ?_).mono (show 2 * (2556 + 1) ≤ 10000 by decide) (Nat.le_refl _)
  simp only [List.mem_cons, List.not_mem_nil, or_false] at hd
  rcases hd with rfl | rfl
  · exact a.mono (by decide) (by decide)
  · exact b
/-- what is read of a network -/
theorem NetAt.rd {K : PySem.W.Frag} {C x : Addr} {H : Hp} {ms : List Int} {rows : List (List Int)} {zs : List (Int × Int)} (h : NetAt K C H x ms rows) (e : linksOf rows = zs) : ∃ (dx : Addr) (fs : List (Str × V)) (tm tl : Addr) (yl : List V), H x = some (.ins C dx fs) ∧ fs.lookup ("modes" : Str) = some (.ref tm) ∧ fs.lookup ("links" : Str) = some (.ref tl) ∧
    SqT K H tm (ms.map V.int) ∧ SqT K H tl yl ∧ Paired (fun z y => PairAt H z y) zs yl := by
  obtain ⟨dx, fs, tr, tm, tl, yr, yl, h1, h2, h3, h4, h5, h6, h7, h8, h9⟩ := h.ex
  exact ⟨dx, fs, tm, tl, yl, h1, h3, h4, h7, h8, by rw [← e]; exact h9⟩
theorem dp_net {K : PySem.W.Frag} {H : Hp} {p tm tl : Addr} {ms : List Int} {zs : List (Int × Int)} {yl : List V} (hp : H p = some (.tup [.ref tm, .ref tl])) (h1 : SqT K H tm (ms.map V.int)) (h2 : SqT K H tl yl) (h3 : Paired (fun z y => PairAt H z y) zs yl) : Dp K H (.ref p) (nD ms zs) :=
  .tup (.inl (.inl hp)) (.cons (.tup h1 (dp_ints ms)) (.cons (.tup h2 (dp_pairs h3)) .nil))
theorem pairs_back {H : Hp} : ∀ {zs : List (Int × Int)} {ys : List V}, Paired (fun z y => PairAt H z y) zs ys → ys.map (pairV H) = zs
  | _, _, .nil => rfl
  | _, _, .cons h p => by
    obtain ⟨t, rfl, ht⟩ := h
    rw [List.map_cons, pairV_at ht, pairs_back p]
section
variable {P : Program} {w : World} {K : PySem.W.Frag} {mg : Str → Option Value} {base : Heap} {AA : Ad} {PM PL PF : Addr}
def spLaw (K : PySem.W.Frag) (PM PL PF : Addr) : Sp := fun vs H Q _ => ∃ (p : Addr) (ns : List Int), vs = [.ref p] ∧ SqL K H p (ns.map V.int) ∧ H PM = some (.tbl #[]) ∧ H PL = some (.tbl #[]) ∧ H PF = some (.tbl #[]) ∧ ∀ H', Q (.bl true) H'
theorem ok_law (T : Txt P K mg AA) (Dl : Def K mg "law" s_law ["_law_script"])
    (O__law_modes_refused : KeptG P w K mg base CX0 11 "_law_modes_refused" s__law_modes_refused ["_law_deal", "_law_modes", "_law_links_here"] (spModesRef K PM PL PF))
    (O__law_links_refused : KeptG P w K mg base CX0 11 "_law_links_refused" s__law_links_refused ["_law_deal", "_law_modes", "_law_links_here"] (spLinksRef K PM PL PF))
    (O__law_fifth_right : KeptG P w K mg base CX0 11 "_law_fifth_right" s__law_fifth_right ["_law_deal"] (spFifth K PM PL PF)) :
    KeptG P w K mg base CX0 12 "law" s_law ["_law_script"] (spLaw K PM PL PF) := by
  have O_Network := ok_Network (w := w) (base := base) T
  have O_Network_eq := ok_Network_eq (w := w) (base := base) T
  have O__law_draw := ok__law_draw (w := w) (base := base) T
  have O__law_any := ok__law_any (w := w) (base := base) T
  have O__law_mixed := ok__law_mixedV (w := w) (base := base) T O__law_any
  have O__law_network := ok__law_network (w := w) (base := base) T O__law_any
  refine keepG Dl sc_law (fun vs H Q E h => ?_) (fun f cdv A outer s H vs Q E hgd hr h => ?_)
  · obtain ⟨p, ns, rfl, _⟩ := h
    rfl
  · obtain ⟨p, ns, rfl, S, tM, tL, tF, q⟩ := h
    refine ⟨_, (pss_cons (ps_asg (pk_call O__law_draw (hr.mono (by decide)) (pa_cons (pv 0) (pa_cons pe_int pa_nil))) (pg_name (i := 1) sc_law.nd rfl (by first | exact Or.inl rfl | exact Or.inr rfl)))
      (pss_cons (ps_for PassesOwn.never rfl (pi_range1 rfl T.n_range (pa_cons pe_int pa_nil)) (pg_name (i := 2) sc_law.nd rfl (by first | exact Or.inl rfl | exact Or.inr rfl))
        (pss_cons (ps_asg (pk_call O__law_network (hr.mono (by decide)) (pa_cons (pv 1) (pa_cons (pe_op oAdd pe_int (pk_call O__law_any (hr.mono (by decide)) (pa_cons (pv 1) (pa_cons pe_int pa_nil)))) (pa_cons (pe_op oAdd pe_int (pk_call O__law_any (hr.mono (by decide)) (pa_cons (pv 1) (pa_cons pe_int pa_nil)))) pa_nil)))) (pg_tup rfl (pgs_cons (pg_name (i := 3) sc_law.nd rfl (by first | exact Or.inl rfl | exact Or.inr rfl)) (pgs_cons (pg_name (i := 4) sc_law.nd rfl (by first | exact Or.inl rfl | exact Or.inr rfl)) pgs_nil))))
      (pss_cons (ps_setLc (i := 5) (own := [("_law_one", 6), ("_law_other", 7)]) (g := (gTup K 2 (gCons (gName 6) (gCons (gName 7) gNil)))) (tt := tYes) (by rfl) sc_law.nd rfl rfl (sw_true rfl rfl rfl (by decide +kernel)) (pi_list (pk_call O__law_mixed (hr.mono (by decide)) (pa_cons (pv 1) (pa_cons (pv 4) pa_nil)))) (blkOk_by (own := [("_law_one", 6), ("_law_other", 7)]) (N := ["_law_script", "_law_deal", "_law_turn", "_law_modes", "_law_links_here", "_law_handed", "_law_one", "_law_other", "_law_row", "_law_net", "_law_told"]) (sc := defScope s_law) (by decide +kernel)) (fun _ _ _ _ _ => (pg_tup rfl (pgs_cons (pg_name (i := 6) sc_law.nd rfl (by first | exact Or.inl rfl | exact Or.inr rfl)) (pgs_cons (pg_name (i := 7) sc_law.nd rfl (by first | exact Or.inl rfl | exact Or.inr rfl)) pgs_nil)))) (fun _ _ _ _ _ => pts_nil) (fun _ _ _ _ _ => (pe_ifExp (pt_cmpR (show OpR _ _ (aEq K) from (oEq (ru64 hr))) (pk_call O__law_any (hr.mono (by decide)) (pa_cons (pv 1) (pa_cons pe_int pa_nil))) pe_int (nomark _)) (pe_tup (pa_cons (pv 6) (pa_cons (pv 7) pa_nil))) (pe_lst (pa_cons (pv 7) (pa_cons (pv 6) pa_nil))))))
      (pss_cons (ps_par (i := 8) (j := 9) (by rfl) sc_law.nd rfl rfl (by decide) rfl rfl (pa_cons (pe_callTy cList (by rfl) T.n_list (by decide +kernel) (pa_cons (pv 3) pa_nil)) (pa_cons (pk_newL O_Network (hr.mono (by decide)) (pa_cons (pv 3) (pa_cons (pv 4) pa_nil))) pa_nil)) (by rfl))
      (pss_cons (ps_asg (pk_newWL (ks := ["links", "modes"]) (idx := [1, 0]) O_Network (fun _ _ _ _ _ _ us ws h1 h2 => match us, ws, h1, h2 with | [_], [_, _], _, _ => rfl) (hr.mono (by decide)) (pk_cons (pv 5) (pk_cons (pv 8) pk_nil))) (pg_name (i := 10) sc_law.nd rfl (by first | exact Or.inl rfl | exact Or.inr rfl)))
      (pss_cons (ps_expr (pe_bm PySem.F.plainAttrs_list PySem.F.slot_list_append PySem.F.type_list_append mt_append (pv 5) (pa_cons pe_non pa_nil)))
      (pss_cons (ps_asg (pe_op op_sub pe_int (pe_ix ix_seq (pv 8) pe_int (fun _ _ => rfl))) (pg_sub (pv 8) pe_int set_list))
      (pss_cons (ps_if (PW.pt (pw_or (pt_cmpR (oNe (ru64 hr)) (pe_callB (call_repr hgd (ru64 hr)) (by rfl) T.n_repr (by decide +kernel) (pa_cons (pe_tup (pa_cons (pe_fld (pv 10) rfl) (pa_cons (pe_fld (pv 10) rfl) pa_nil))) pa_nil)) (pe_callB (call_repr hgd (ru64 hr)) (by rfl) T.n_repr (by decide +kernel) (pa_cons (pe_tup (pa_cons (pe_callTy cTuple (by rfl) T.n_tuple (by decide +kernel) (pa_cons (pv 3) pa_nil)) (pa_cons (pe_callTy cTuple (by rfl) T.n_tuple (by decide +kernel) (pa_cons (pv 4) pa_nil)) pa_nil))) pa_nil)) (nomark _)) (pw_or (pt_not (pt_cmpR (op_ownEq O_Network_eq (hr.mono (by decide))) (pv 10) (pv 9) (nomark _))) (pw_or1 (pt_cmpR (op_ownNe O_Network_eq T.K_Network.ne T.K_Network.so (hr.mono (by decide))) (pv 10) (pv 9) (nomark _))))))
        (pss_one (ps_ret pe_bl)) pss_nil)
      (pss_cons (ps_if (PW.pt (pw_or (pt_cmpR (op_ownEq O_Network_eq (hr.mono (by decide))) (pv 10) (pe_tup (pa_cons (pe_callTy cTuple (by rfl) T.n_tuple (by decide +kernel) (pa_cons (pv 3) pa_nil)) (pa_cons (pe_callTy cTuple (by rfl) T.n_tuple (by decide +kernel) (pa_cons (pv 4) pa_nil)) pa_nil))) (nomark _)) (pw_or (pt_cmpR (op_ownEq O_Network_eq (hr.mono (by decide))) (pv 10) (pk_newL O_Network (hr.mono (by decide)) (pa_cons (pv 8) (pa_cons (pv 4) pa_nil))) (nomark _)) (pw_or1 (PW.pt (pw_and (pt_cmpR (oNe (ru64 hr)) (pv 4) (pe_lst pa_nil) (nomark _)) (pw_and1 (pt_cmpR (op_ownEq O_Network_eq (hr.mono (by decide))) (pv 10) (pk_newL O_Network (hr.mono (by decide)) (pa_cons (pv 3) (pa_cons (pe_slice sl_any (pv 4) (po_some pe_int) po_none) pa_nil))) (nomark _)))))))))
        (pss_one (ps_ret pe_bl)) pss_nil)
      (pss_cons (ps_if (PW.pt (pw_or (pt_not (pt_val (pk_callG O__law_modes_refused hgd (hr.mono (by decide)) (pa_cons (pv 1) (pa_cons (pv 3) (pa_cons (pv 4) pa_nil)))))) (pw_or1 (pt_not (pt_val (pk_callG O__law_links_refused hgd (hr.mono (by decide)) (pa_cons (pv 1) (pa_cons (pv 3) (pa_cons (pv 4) pa_nil)))))))))
        (pss_one (ps_ret pe_bl)) pss_nil)
      (pss_one (ps_if (pt_cmpR (oNe (ru64 hr)) (pe_callB (call_repr hgd (ru64 hr)) (by rfl) T.n_repr (by decide +kernel) (pa_cons (pe_tup (pa_cons (pe_fld (pv 9) rfl) (pa_cons (pe_fld (pv 9) rfl) pa_nil))) pa_nil)) (pe_callB (call_repr hgd (ru64 hr)) (by rfl) T.n_repr (by decide +kernel) (pa_cons (pe_tup (pa_cons (pe_callTy cTuple (by rfl) T.n_tuple (by decide +kernel) (pa_cons (pv 3) pa_nil)) (pa_cons (pe_callTy cTuple (by rfl) T.n_tuple (by decide +kernel) (pa_cons (pv 4) pa_nil)) pa_nil))) pa_nil)) (nomark _))
        (pss_one (ps_ret pe_bl)) pss_nil))))))))))))
      (pss_one (ps_ret (pk_callG O__law_fifth_right hgd (hr.mono (by decide)) (pa_cons (pv 1) pa_nil)))))), ?_⟩
    walk_at "s"
    refine ⟨p, ns, 4, rfl, S, by decide, by decide, fun a l H1 na nl D1 s1 => ?_⟩
    have B1 : DT a l (TB3 PM PL PF) H1 := ⟨D1, fun x hx => by
      simp only [List.mem_cons, List.not_mem_nil, or_false] at hx
      rcases hx with rfl | rfl | rfl
      · exact LamX.TabS.nil (s1 _ _ tM)
      · exact LamX.TabS.nil (s1 _ _ tL)
      · exact LamX.TabS.nil (s1 _ _ tF)⟩
    clear S tM tL tF s1 na nl D1
    walk_at "s"
    refine ⟨by decide, by decide, ?_⟩
    refine fgR (fun i σ H' => ∃ v0 v2 v3 v4 v5 v6 v7 v8 v9 v10 : Option V, σ = [v0, some (.ref a), v2, v3, v4, v5, v6, v7, v8, v9, v10] ∧ DT a l (TB3 PM PL PF) H') ⟨_, _, _, _, _, _, _, _, _, _, rfl, B1⟩ ?_ ?_
    · clear B1 H1
      rintro i σ H1 _ ⟨v0, v2, v3, v4, v5, v6, v7, v8, v9, v10, rfl, B1⟩
      walk_at "s"
      refine ⟨a, l, 4, rfl, by decide, by decide, B1.d, fun r1 H2 r10 r11 D2 f2 => ?_⟩
      have B2 := B1.fr D2 f2
      walk_at "s"
      refine ⟨a, l, 9, rfl, by decide, by decide, B2.d, fun r2 H3 r20 r21 D3 f3 => ?_⟩
      have B3 := B2.fr D3 f3
      clear D2 f2 D3 f3 B1 B2
      obtain ⟨k, ek⟩ : ∃ k : Nat, 1 + r1 = k := ⟨(1 + r1).toNat, by omega⟩
      obtain ⟨n, en⟩ : ∃ n : Nat, 1 + r2 = n := ⟨(1 + r2).toNat, by omega⟩
      have n9 : n ≤ 9 := by omega
      have n1 : 1 ≤ n := by omega
      walk_at "s"
      rw [ek, en]
      refine ⟨a, l, k, n, rfl, B3.d, by omega, by omega, n1, n9, fun p M L ms zs H4 hp nM eM lm hm neML ok pw K4 => ?_⟩
      have B4 := B3.fr K4.d K4.f
      have oM : M ≠ a ∧ M ≠ l := B3.d.off nM
      obtain ⟨ys, eL, pr⟩ := K4.ex
      have oL : L ≠ a ∧ L ≠ l := ⟨K4.o1, K4.o2⟩
      have zl : zs.length ≤ 36 := by
        have := len_deg (n := n) (zs := zs) (fun z hz => by have := ok.rng z hz; omega) ok.dg
        omega
      have lys : ys.length = zs.length := (Paired.length pr).symm
      clear K4 nM B3
      refine w_gtup (.inl (.inl hp)) rfl ?_
      walk_at "s"
      refine w_lcLT (K := K) ?_
      walk_at "s"
      refine ⟨a, l, L, ys, rfl, B4.d, .inl (SqL.of eL), fun x hx => ?_, by omega, fun F zf H5 D5 f5 nF pm eF => ?_⟩
      · obtain ⟨j, hj⟩ := List.getElem?_of_mem hx
        obtain ⟨z, _, t, rfl, ht⟩ := paired_get2 pr hj
        exact .pair ht
      have B5 := B4.fr D5 f5
      have oF : F ≠ a ∧ F ≠ l := B4.d.off nF
      have t5 : Stp a l H4 H5 := Stp.fr f5
      -- the mixed links
      have hy : ∀ y ∈ zf, PairAt H5 (pairV H5 y) y := fun y hy => by
        obtain ⟨j, hj⟩ := List.getElem?_of_mem (pm.mem_iff.mp hy)
        obtain ⟨z, _, h⟩ := paired_get2 pr hj
        obtain ⟨t, rfl, ht⟩ := t5.pair B4.d h
        rw [pairV_at ht]
        exact ⟨t, rfl, ht⟩
      have pmz : (zf.map (pairV H5)).Perm zs := by
        rw [← pairs_back (t5.pairs B4.d pr)]
        exact pm.map _
      refine ⟨F, rfl, ⟨_, SqL.of eF⟩, ?_⟩
      generalize hzz : zf.map (pairV H5) = zm at pmz
      have lzf : zf.length = zs.length := by rw [pm.length_eq, lys]
      refine lc_tgt (xs := zf) (fun D i H' => DealAt H' a l ∧ Fr a l H5 H' ∧ H5 D = none ∧ D ≠ a ∧ D ≠ l ∧ ∃ (ls : List V) (ws : List (Int × Int)), H' D = some (.lst ls) ∧ Paired (fun y w => LkD a l D H' y w) ls ws ∧ Paired (fun (z : Int × Int) w => w = z ∨ w = (z.2, z.1)) (zm.take i) ws)
        (fun D nD => ?_) (fun D i H' nD L => SqL.of (L.2.1 _ _ eF oF.1 oF.2)) (fun D j x H6 nD hj L => ?_) (fun D H6 nD L => ?_)
      · have o := B5.d.off nD
        exact ⟨B5.d.updN o.1 o.2, Fr.refl.updN nD, nD, o.1, o.2, [], [], upd_same, .nil, .nil⟩
      · obtain ⟨D6, f6, _, oD1, oD2, ls, ws, eD, pl, pz⟩ := L
        have hz : zm[j]? = some (pairV H5 x) := by rw [← hzz, List.getElem?_map, hj]; rfl
        have hxx := hy x (List.mem_of_getElem? hj)
        generalize pairV H5 x = z at hz hxx
        obtain ⟨t, rfl, ht⟩ := hxx
        have ht6 := B5.d.keep f6 ht fun _ z => by cases z
        have jl : j < zm.length := (List.getElem?_eq_some_iff.mp hz).1
        have zml : zm.length = zs.length := pmz.length_eq
        have lls : ls.length = j := by
          have h1 := Paired.length pl
          have h2 := Paired.length pz
          rw [List.length_take] at h2
          omega
        refine w_gtup (.inl (.inl ht6)) rfl ?_
        walk_at "s"
        refine ⟨rfl, ?_⟩
        refine w_yes ?_
        rw [if_pos rfl]
        walk_at "s"
        refine ⟨a, l, 2, rfl, by decide, by decide, D6, fun r H7 r0 r1 D7 f7 => ?_⟩
        have eD7 := f7 _ _ eD oD1 oD2
        have pl7 : Paired (fun y w => LkD a l D H7 y w) ls ws := Paired.mapP pl fun y w h => h.fr D6 f7
        have put : ∀ {t : Addr} {w : Int × Int} {H' : Hp}, Same H7 H' → LkD a l D H' (.ref t) w → (w = z ∨ w = (z.2, z.1)) → ∃ acc, H' D = some (.lst acc) ∧ acc.length < sizeLine ∧
            (DealAt (upd H' D (.lst (acc ++ [.ref t]))) a l ∧ Fr a l H5 (upd H' D (.lst (acc ++ [.ref t]))) ∧ H5 D = none ∧ D ≠ a ∧ D ≠ l ∧ ∃ (ls : List V) (ws : List (Int × Int)), upd H' D (.lst (acc ++ [.ref t])) D = some (.lst ls) ∧ Paired (fun y w => LkD a l D (upd H' D (.lst (acc ++ [.ref t]))) y w) ls ws ∧ Paired (fun (z : Int × Int) w => w = z ∨ w = (z.2, z.1)) (zm.take (j + 1)) ws) := fun {t w H'} e h hw => by
          have k' := e _ _ eD7
          refine ⟨ls, k', lt_size (by omega), (D7.same e).updN oD1 oD2, ((f6.trans f7).trans (Fr.same e)).updN nD, nD, oD1, oD2, _, _, upd_same, paired_snoc (Paired.mapP pl7 fun y w q => (q.same e).put k') (h.put k'), ?_⟩
          rw [take_snoc hz]
          exact paired_snoc pz hw
        walk_at "s"
        refine w_iteD (fun hr0 => ?_) (fun hr0 => ?_)
        · walk_at "s"
          refine ⟨show 2 ≤ sizeLine by decide +kernel, fun t nt => ?_⟩
          exact put (w := z) (Same.newT nt) ⟨t, rfl, .inl upd_same⟩ (.inl rfl)
        · walk_at "s"
          refine ⟨show 2 ≤ sizeLine by decide +kernel, fun t nt => ?_⟩
          have ot := D7.off nt
          exact put (w := (z.2, z.1)) (Same.newT nt) ⟨t, rfl, .inr ⟨upd_same, ot.1, ot.2, (ne_of_none eD7 nt).symm⟩⟩ (.inr rfl)
      obtain ⟨D6, f6, _, oD1, oD2, ls, ws, eD, pl, pz⟩ := L
      have zml : zm.length = zf.length := by rw [← hzz, List.length_map]
      rw [← zml, List.take_length] at pz
      have B6 := B5.fr D6 f6
      have t6 : Stp a l H4 H6 := t5.trans (Stp.fr f6)
      have neMD : M ≠ D := ne_of_none (t5.lst eM oM.1 oM.2) nD
      have neLD : L ≠ D := ne_of_none (t5.lst eL oL.1 oL.2) nD
      have lls : ls.length ≤ 36 := by
        have h1 := Paired.length pl
        have h2 := Paired.length pz
        have h3 := pmz.length_eq
        omega
      clear D6 f6 D5 f5 hy nD eF oF nF
      -- what was handed in
      have rngz : ∀ z ∈ zm, 0 ≤ z.1 ∧ z.1 < z.2 ∧ z.2 < (n : Int) := fun z h => ok.rng z (pmz.mem_iff.mp h)
      have wnorm : ∀ {zm : List (Int × Int)} {ws : List (Int × Int)}, Paired (fun (z : Int × Int) w => w = z ∨ w = (z.2, z.1)) zm ws → (∀ z ∈ zm, z.1 < z.2) → ws.map norm = zm ∧ ∀ w ∈ ws, w.1 ≠ w.2 := by
        intro zm ws h
        induction h with
        | nil => exact fun _ => ⟨rfl, fun w h => by cases h⟩
        | cons hw _ ih =>
          intro hz
          obtain ⟨e, ne⟩ := ih fun z h => hz z (List.mem_cons_of_mem _ h)
          have lt := hz _ List.mem_cons_self
          rcases hw with rfl | rfl
          · refine ⟨?_, fun w h => ?_⟩
            · rw [List.map_cons, e]
              congr 1
              unfold norm
              rw [if_pos lt]
            · rcases List.mem_cons.mp h with rfl | h
              · omega
              · exact ne w h
          · refine ⟨?_, fun w h => ?_⟩
            · rw [List.map_cons, e]
              congr 1
              unfold norm
              rw [if_neg (show ¬ (_ < _) by simp only; omega)]
            · rcases List.mem_cons.mp h with rfl | h
              · simp only
                omega
              · exact ne w h
      obtain ⟨nw, neq⟩ := wnorm pz fun z h => (rngz z h).2.1
      have pmw : (ws.map norm).Perm zs := by rw [nw]; exact pmz
      have okw : WOK n ws := links_wok ok pmw neq
      obtain ⟨ds, sd, ld⟩ := lkd_all (K := K) (n := n) B6.d pl okw.rng
      walk_at "s"
      have lms : (dInts ms).length ≤ 1000 := by rw [dInts_len]; omega
      have eM6 := t6.lst eM oM.1 oM.2
      have eL6 := t6.lst eL oL.1 oL.2
      have pr6 := t6.pairs B4.d pr
      refine ⟨M, _, rfl, .inl (SqL.of eM6), fun Rw nRw => ?_⟩
      have oRw := B6.d.off nRw
      have s7 : Same H6 _ := Same.newT (o := .lst (ms.map V.int)) nRw
      have kR : upd H6 Rw (.lst (ms.map V.int)) Rw = some (.lst (ms.map V.int)) := upd_same
      have neMR : M ≠ Rw := ne_of_none eM6 nRw
      have neLR : L ≠ Rw := ne_of_none eL6 nRw
      have neDR : D ≠ Rw := ne_of_none eD nRw
      generalize upd H6 Rw (.lst (ms.map V.int)) = H7 at s7 kR
      walk_at "s"
      obtain ⟨r0, hr0, T0⟩ := go_ok (k := 0) (us := []) (LinksOK.ld ok.rng) (told0 n) ok.wok
      have zn : (zs.map norm).Perm zs := by rw [norm_id fun z hz => (ok.rng z hz).2.1]
      refine ⟨.ref M, .ref L, .list (dInts ms), .list (zs.map pD), rfl, .dp (.lst (SqL.of (s7 _ _ eM6)) (dp_ints ms)), .dp (.lst (SqL.of (s7 _ _ eL6)) (dp_pairs (Paired.mapP pr6 fun z y q => q.same s7))), lms, ?_⟩
      rw [netD_good (.inl rfl) (by omega) hm (rows := r0) (by rw [rowsD_of (.inl rfl), lm]; exact hr0)]
      intro xN rN H8 e8 nxN soN naN
      have lkN : linksOf rN = zs := links_back T0 ok.wok soN zn pw
      have s68 := Same.trans s7 e8
      walk_at "s"
      obtain ⟨r1', hr1, T1⟩ := go_ok (k := 0) (us := []) ld (told0 n) okw
      refine ⟨rfl, rfl, .ref Rw, .ref D, .list (dInts ms), .list ds, rfl, .dp (.lst (SqL.of (e8 _ _ kR)) (dp_ints ms)), .dp (.lst (SqL.of (s68 _ _ eD)) (stb_all (Stp.same s68) sd)), lms, ?_⟩
      rw [netD_good (.inl rfl) (by omega) hm (rows := r1') (by rw [rowsD_of (.inl rfl), lm]; exact hr1)]
      intro xT rT H9 e9 nxT soT naT
      have lkT : linksOf rT = zs := links_back T1 okw soT pmw pw
      have s69 := Same.trans s68 e9
      have naN := naN.same e9
      have eM9 := s69 _ _ eM6
      have eL9 := s69 _ _ eL6
      have pr9 : Paired (fun z y => PairAt H9 z y) zs ys := Paired.mapP pr6 fun z y q => q.same s69
      have eD9 := s69 _ _ eD
      have kR9 := Same.trans e8 e9 _ _ kR
      have B9 := B6.same s69
      clear s7 s68 s69 e8 e9 kR nxN nxT soN soT T0 T1 hr0 hr1 sd ld pl eD eL6 eM6 pr6 B6 t6 t5 B5 B4 nRw pr eL eM
      walk_at "s"
      refine ⟨tyL eD9, ?_⟩
      walk_at "s"
      refine w_append eD9 (lt_size (by omega)) ?_
      have B10 := B9.put (o := .lst (ls ++ [.non])) eD9 oD1 oD2
      have naN := naN.put (o := .lst (ls ++ [.non])) eD9
      have naT := naT.put (o := .lst (ls ++ [.non])) eD9
      have pr10 := pairs_put (o := .lst (ls ++ [.non])) eD9 pr9
      have eM10 : upd H9 D (.lst (ls ++ [.non])) M = some (.lst (ms.map V.int)) := by rw [upd_ne neMD]; exact eM9
      have eL10 : upd H9 D (.lst (ls ++ [.non])) L = some (.lst ys) := by rw [upd_ne neLD]; exact eL9
      have kR10 : upd H9 D (.lst (ls ++ [.non])) Rw = some (.lst (ms.map V.int)) := by rw [upd_ne (Ne.symm neDR)]; exact kR9
      generalize upd H9 D (.lst (ls ++ [.non])) = H10 at B10 naN naT pr10 eM10 eL10 kR10
      clear B9 pr9 eM9 eL9 kR9 eD9 lls neMD neLD neDR oD1 oD2 pz
      obtain ⟨m0, mt, hms⟩ : ∃ m0 mt, ms = m0 :: mt := by
        cases ms with
        | nil => simp only [List.length_nil] at lm; omega
        | cons x xs => exact ⟨x, xs, rfl⟩
      have lmt : mt.length + 1 = n := by rw [← lm, hms]; rfl
      walk_at "s"
      refine w_ixL (SqL.of kR10) (v := .int m0) (by rw [hms]; exact atN (i := 0) rfl) ?_
      walk_at "s"
      refine w_setL (j := 0) kR10 ?_ ?_
      · unfold ixN
        rw [if_pos (by decide), if_pos (by rw [List.length_map]; omega)]
        rfl
      have eset : (ms.map V.int).set 0 (.int (3 - m0)) = ((3 - m0) :: mt).map V.int := by rw [hms]; rfl
      rw [eset]
      have B11 := B10.put (o := .lst (((3 - m0) :: mt).map V.int)) kR10 oRw.1 oRw.2
      have naN := naN.put (o := .lst (((3 - m0) :: mt).map V.int)) kR10
      have naT := naT.put (o := .lst (((3 - m0) :: mt).map V.int)) kR10
      have pr11 := pairs_put (o := .lst (((3 - m0) :: mt).map V.int)) kR10 pr10
      have eM11 : upd H10 Rw (.lst (((3 - m0) :: mt).map V.int)) M = some (.lst (ms.map V.int)) := by rw [upd_ne neMR]; exact eM10
      have eL11 : upd H10 Rw (.lst (((3 - m0) :: mt).map V.int)) L = some (.lst ys) := by rw [upd_ne neLR]; exact eL10
      have kR11 : upd H10 Rw (.lst (((3 - m0) :: mt).map V.int)) Rw = some (.lst (((3 - m0) :: mt).map V.int)) := upd_same
      generalize upd H10 Rw (.lst (((3 - m0) :: mt).map V.int)) = H11 at B11 naN naT pr11 eM11 eL11 kR11
      clear B10 pr10 eM10 eL10 kR10 eset
      have okr := okNet hm (by omega) (fun z hz => by have := ok.rng z hz; omega) zl
      obtain ⟨dx, fs, tm, tl, yl, n1', n2, n3, n4, n5, n6⟩ := naT.rd lkT
      walk_at "s"
      refine ⟨xT, _, dx, _, .ref tm, rfl, n1', T.K_Network.ic.cl, T.a_Network_modes, n2, ?_⟩
      walk_at "s"
      refine ⟨xT, _, dx, _, .ref tl, rfl, n1', T.K_Network.ic.cl, T.a_Network_links, n3, ?_⟩
      walk_at "s"
      refine ⟨show 2 ≤ sizeLine by decide +kernel, fun c1 m1 => ?_⟩
      have s12 : Same H11 _ := Same.newT (o := .tup [.ref tm, .ref tl]) m1
      have u1 : upd H11 c1 (.tup [.ref tm, .ref tl]) c1 = some (.tup [.ref tm, .ref tl]) := upd_same
      generalize upd H11 c1 (.tup [.ref tm, .ref tl]) = H12 at s12 u1
      walk_at "s"
      refine w_rprO (dp_net u1 (same_t s12 n4) (same_t s12 n5) (Paired.mapP n6 fun z y q => q.same s12)) (okr.mono (Nat.le_refl _) (by decide)) (by decide) ?_
      walk_at "s"
      refine seq_tuple (.inl (SqL.of (s12 _ _ eM11))) (fun c2 H13 e13 S2 => ?_)
      have s13 := Same.trans s12 e13
      walk_at "s"
      refine seq_tuple (.inl (SqL.of (s13 _ _ eL11))) (fun c3 H14 e14 S3 => ?_)
      have s14 := Same.trans s13 e14
      walk_at "s"
      refine ⟨show 2 ≤ sizeLine by decide +kernel, fun c4 m4 => ?_⟩
      have s15 : Same H14 _ := Same.newT (o := .tup [.ref c2, .ref c3]) m4
      have u4 : upd H14 c4 (.tup [.ref c2, .ref c3]) c4 = some (.tup [.ref c2, .ref c3]) := upd_same
      generalize upd H14 c4 (.tup [.ref c2, .ref c3]) = H15 at s15 u4
      have s1115 := Same.trans s14 s15
      walk_at "s"
      refine w_rprO (dp_net u4 (same_t (Same.trans e14 s15) S2) (same_t s15 S3) (Paired.mapP pr11 fun z y q => q.same s1115)) (okr.mono (Nat.le_refl _) (by decide)) (by decide) ?_
      refine w_neSS ?_
      walk_at "s"
      have naT := naT.same s1115
      have naN := naN.same s1115
      have B15 := B11.same s1115
      have eM15 := s1115 _ _ eM11
      have eL15 := s1115 _ _ eL11
      have kR15 := s1115 _ _ kR11
      have pr15 : Paired (fun z y => PairAt H15 z y) zs ys := Paired.mapP pr11 fun z y q => q.same s1115
      have n1T := s1115 _ _ n1'
      clear s12 u1 e13 S2 s13 e14 S3 s14 s15 u4 s1115 m1 m4 n2 n3 n4 n5 n6 n1' B11 pr11 eM11 eL11 kR11
      obtain ⟨dxN, fsN, _, _, _, nN1, _⟩ := naN.rd lkN
      have eqTN : (decide (ms = ms) && decide (linksOf rT = linksOf rN)) = true := by rw [lkT, lkN, decide_eq_true rfl, decide_eq_true rfl]; rfl
      refine ⟨xT, dx, fs, _, rfl, n1T, .ins nN1, T.K_Network.nf, xT, .ref xN, ms, rT, rfl, naT, .inl ⟨xN, ms, rN, rfl, naN, _, rfl, ?_⟩⟩
      rw [eqTN]
      refine ⟨true, rfl, ?_⟩
      walk_at "s"
      refine ⟨xT, dx, fs, _, rfl, n1T, .ins nN1, T.K_Network.nf, xT, .ref xN, ms, rT, rfl, naT, .inl ⟨xN, ms, rN, rfl, naN, _, rfl, ?_⟩⟩
      rw [eqTN]
      refine ⟨false, rfl, ?_⟩
      walk_at "s"
      refine seq_tuple (.inl (SqL.of eM15)) (fun c2 H16 e16 S2 => ?_)
      walk_at "s"
      refine seq_tuple (.inl (SqL.of (e16 _ _ eL15))) (fun c3 H17 e17 S3 => ?_)
      have s17 := Same.trans e16 e17
      walk_at "s"
      refine ⟨show 2 ≤ sizeLine by decide +kernel, fun c4 m4 => ?_⟩
      have s18 : Same H17 _ := Same.newT (o := .tup [.ref c2, .ref c3]) m4
      have u4 : upd H17 c4 (.tup [.ref c2, .ref c3]) c4 = some (.tup [.ref c2, .ref c3]) := upd_same
      generalize upd H17 c4 (.tup [.ref c2, .ref c3]) = H18 at s18 u4
      have s1518 := Same.trans s17 s18
      have naT := naT.same s1518
      have naN := naN.same s1518
      have B18 := B15.same s1518
      have eM18 := s1518 _ _ eM15
      have eL18 := s1518 _ _ eL15
      have kR18 := s1518 _ _ kR15
      have pr18 : Paired (fun z y => PairAt H18 z y) zs ys := Paired.mapP pr15 fun z y q => q.same s1518
      have n1T := s1518 _ _ n1T
      clear e16 e17 S2 S3 s17 s18 s1518 m4 B15 eM15 eL15 kR15 pr15
      refine ⟨xT, dx, fs, _, rfl, n1T, .tup (.inl (.inl u4)), T.K_Network.nt, xT, .ref c4, ms, rT, rfl, naT, .inr ⟨c4, _, rfl, .inl (.inl u4), _, rfl, ?_⟩⟩
      refine ⟨false, rfl, ?_⟩
      walk_at "s"
      have hm2 : ∀ x ∈ (3 - m0) :: mt, 0 ≤ x ∧ x < 4 := fun x hx => by
        rcases List.mem_cons.mp hx with rfl | hx
        · have := hm m0 (by rw [hms]; exact List.mem_cons_self)
          omega
        · exact hm x (by rw [hms]; exact List.mem_cons_of_mem _ hx)
      have lm2 : ((3 - m0) :: mt).length = n := by rw [List.length_cons]; exact lmt
      obtain ⟨r0, hr0, T0⟩ := go_ok (k := 0) (us := []) (LinksOK.ld ok.rng) (told0 n) ok.wok
      refine ⟨.ref Rw, .ref L, .list (dInts ((3 - m0) :: mt)), .list (zs.map pD), rfl, .dp (.lst (SqL.of kR18) (dp_ints _)), .dp (.lst (SqL.of eL18) (dp_pairs pr18)), by rw [show elemsD (.list (dInts ((3 - m0) :: mt))) = dInts ((3 - m0) :: mt) from rfl, dInts_len, lm2]; omega, ?_⟩
      rw [netD_good (.inl rfl) (by omega) hm2 (rows := r0) (by rw [rowsD_of (.inl rfl), lm2]; exact hr0)]
      intro x2 rX H19 e19 nx2 so2 na2
      have naT := naT.same e19
      have naN := naN.same e19
      have B19 := B18.same e19
      have eM19 := e19 _ _ eM18
      have eL19 := e19 _ _ eL18
      have pr19 : Paired (fun z y => PairAt H19 z y) zs ys := Paired.mapP pr18 fun z y q => q.same e19
      have n1T := e19 _ _ n1T
      obtain ⟨dx2, fs2, _, _, _, nX1, _⟩ := na2.rd rfl
      have neX : (decide (ms = (3 - m0) :: mt) && decide (linksOf rT = linksOf rX)) = false := by
        rw [decide_eq_false, Bool.false_and]
        rw [hms]
        intro z
        have := (List.cons.inj z).1
        omega
      refine ⟨xT, dx, fs, _, rfl, n1T, .ins nX1, T.K_Network.nf, xT, .ref x2, ms, rT, rfl, naT, .inl ⟨x2, _, rX, rfl, na2, _, rfl, ?_⟩⟩
      rw [neX]
      refine ⟨false, rfl, ?_⟩
      clear B18 eM18 eL18 kR18 pr18 e19 nx2 so2 na2 nX1 neX hr0 T0
      walk_at "s"
      refine ⟨show 0 ≤ sizeLine by decide +kernel, fun c5 m5 => ?_⟩
      have s20 : Same H19 _ := Same.newT (o := .lst []) m5
      have u5 : upd H19 c5 (.lst []) c5 = some (.lst []) := upd_same
      generalize upd H19 c5 (.lst []) = H20 at s20 u5
      have naT := naT.same s20
      have naN := naN.same s20
      have B20 := B19.same s20
      have eM20 := s20 _ _ eM19
      have eL20 := s20 _ _ eL19
      have pr20 : Paired (fun z y => PairAt H20 z y) zs ys := Paired.mapP pr19 fun z y q => q.same s20
      have n1T := s20 _ _ n1T
      clear B19 eM19 eL19 pr19 s20 m5
      refine w_neNil (SqL.of eL20) (SqL.of u5) (fun x hx => ?_) ?_
      · obtain ⟨j, hj⟩ := List.getElem?_of_mem hx
        obtain ⟨z, _, t, rfl, ht⟩ := paired_get2 pr20 hj
        exact .pair ht
      walk_at "s"
      refine w_iteR (fun H21 e21 => ?_) (fun h0 rest => ?_)
      · have naN := naN.same e21
        have B21 := B20.same e21
        have eM21 := e21 _ _ eM20
        have eL21 := e21 _ _ eL20
        have pr21 : Paired (fun z y => PairAt H21 z y) zs ys := Paired.mapP pr20 fun z y q => q.same e21
        clear B20 eM20 eL20 pr20 naT n1T u5 e21
        refine w_iteF ?_
        walk_at "s"
        refine ⟨a, l, M, L, ms, zs, ys, rfl, B21, eM21, oM.1, oM.2, eL21, oL.1, oL.2, pr21, by omega, hm, fun H22 B22 t22 => ?_⟩
        have naN := naN.stp t22 B21.d
        have eM22 := t22.lst eM21 oM.1 oM.2
        have eL22 := t22.lst eL21 oL.1 oL.2
        have pr22 := t22.pairs B21.d pr21
        walk_at "s"
        refine ⟨a, l, M, L, ms, zs, ys, rfl, B22, eM22, oM.1, oM.2, eL22, oL.1, oL.2, pr22, by omega, by omega, by rw [lm]; exact ok, hm, fun H23 B23 t23 => ?_⟩
        have naN := naN.stp t23 B22.d
        have eM23 := t23.lst eM22 oM.1 oM.2
        have eL23 := t23.lst eL22 oL.1 oL.2
        have pr23 := t23.pairs B22.d pr22
        obtain ⟨dy, gs, tm, tl, yl, n1', n2, n3, n4, n5, n6⟩ := naN.rd lkN
        walk_at "s"
        refine ⟨xN, _, dy, _, .ref tm, rfl, n1', T.K_Network.ic.cl, T.a_Network_modes, n2, ?_⟩
        walk_at "s"
        refine ⟨xN, _, dy, _, .ref tl, rfl, n1', T.K_Network.ic.cl, T.a_Network_links, n3, ?_⟩
        walk_at "s"
        refine ⟨show 2 ≤ sizeLine by decide +kernel, fun c1 m1 => ?_⟩
        have s12 : Same H23 _ := Same.newT (o := .tup [.ref tm, .ref tl]) m1
        have u1 : upd H23 c1 (.tup [.ref tm, .ref tl]) c1 = some (.tup [.ref tm, .ref tl]) := upd_same
        generalize upd H23 c1 (.tup [.ref tm, .ref tl]) = H24 at s12 u1
        walk_at "s"
        refine w_rprO (dp_net u1 (same_t s12 n4) (same_t s12 n5) (Paired.mapP n6 fun z y q => q.same s12)) (okr.mono (Nat.le_refl _) (by decide)) (by decide) ?_
        walk_at "s"
        refine seq_tuple (.inl (SqL.of (s12 _ _ eM23))) (fun c2 H25 e25 S2 => ?_)
        have s13 := Same.trans s12 e25
        walk_at "s"
        refine seq_tuple (.inl (SqL.of (s13 _ _ eL23))) (fun c3 H26 e26 S3 => ?_)
        have s14 := Same.trans s13 e26
        walk_at "s"
        refine ⟨show 2 ≤ sizeLine by decide +kernel, fun c4 m4 => ?_⟩
        have s15 : Same H26 _ := Same.newT (o := .tup [.ref c2, .ref c3]) m4
        have u4 : upd H26 c4 (.tup [.ref c2, .ref c3]) c4 = some (.tup [.ref c2, .ref c3]) := upd_same
        generalize upd H26 c4 (.tup [.ref c2, .ref c3]) = H27 at s15 u4
        have s2327 := Same.trans s14 s15
        walk_at "s"
        refine w_rprO (dp_net u4 (same_t (Same.trans e26 s15) S2) (same_t s15 S3) (Paired.mapP pr23 fun z y q => q.same s2327)) (okr.mono (Nat.le_refl _) (by decide)) (by decide) ?_
        refine w_neSS ?_
        walk_at "s"
        exact ⟨_, _, _, _, _, _, _, _, _, _, rfl, B23.same s2327⟩
      · walk_at "s"
        refine w_slL (SqL.of eL20) (fun c6 m6 => ?_)
        rw [show cutV ys (some 1) none = ys.drop 1 from cut_from _ 1]
        have s21 : Same H20 _ := Same.newT (o := .lst (ys.drop 1)) m6
        have u6 : upd H20 c6 (.lst (ys.drop 1)) c6 = some (.lst (ys.drop 1)) := upd_same
        generalize upd H20 c6 (.lst (ys.drop 1)) = H21 at s21 u6
        walk_at "s"
        have okd : LinksOK n (zs.drop 1) := ⟨fun z hz => ok.rng z (List.mem_of_mem_drop hz), ok.nd.sublist (List.drop_sublist 1 zs), fun v hv => Nat.le_trans (by unfold deg; exact ((List.drop_sublist 1 zs).filter _).length_le) (ok.dg v hv)⟩
        obtain ⟨r0, hr0, T0⟩ := go_ok (k := 0) (us := []) (LinksOK.ld okd.rng) (told0 n) okd.wok
        refine ⟨.ref M, .ref c6, .list (dInts ms), .list ((zs.drop 1).map pD), rfl, .dp (.lst (SqL.of (s21 _ _ eM20)) (dp_ints _)), .dp (.lst (SqL.of u6) (dp_pairs (paired_drop 1 (Paired.mapP pr20 fun z y q => q.same s21)))), lms, ?_⟩
        rw [netD_good (.inl rfl) (by omega) hm (rows := r0) (by rw [rowsD_of (.inl rfl), lm]; exact hr0)]
        intro x2 rX H22 e22 nx2 so2 na2
        have s22 := Same.trans s21 e22
        have n1T := s22 _ _ n1T
        obtain ⟨dx2, fs2, _, _, _, nX1, _⟩ := na2.rd rfl
        have lX : (linksOf rX).length = (zs.drop 1).length := by
          have := links_len T0 okd.wok so2
          exact this
        have neX : (decide (ms = ms) && decide (linksOf rT = linksOf rX)) = false := by
          rw [decide_eq_true rfl, Bool.true_and, decide_eq_false]
          intro z
          have := congrArg List.length z
          rw [lkT, lX, List.length_drop] at this
          omega
        refine ⟨xT, dx, fs, _, rfl, n1T, .ins nX1, T.K_Network.nf, xT, .ref x2, ms, rT, rfl, naT.same s22, .inl ⟨x2, _, rX, rfl, na2, _, rfl, ?_⟩⟩
        rw [neX]
        refine ⟨false, rfl, ?_⟩
        exact rest H22 s22
    · rintro σ H' ⟨v0, v2, v3, v4, v5, v6, v7, v8, v9, v10, rfl, B'⟩
      walk_at "s"
      exact ⟨a, l, rfl, B', fun H2 _ => q H2⟩
end

end K04
set_option maxRecDepth 100000
set_option maxHeartbeats 4000000
namespace K04
open PySem L2 NL
abbrev PP : Program := PySem.Challenge.pw_handalong_k04_networks_kept_and_refused
theorem all_mk {w : World} {K : PySem.W.Frag} {h : Heap} {mg : Str → Option Value} {fa : Addr}
    {tokMOST_MODES : Tok}
    {tokMOST_NEIGHBOURS : Tok}
    {f0 : Addr} {oc0 kV0 dc0 pm0 ct0 : Value} {od0 an0 : Option Addr} {sl0 : Array (Option Value)}
    {cd0 : Value}
    {f1 : Addr} {oc1 kV1 dc1 pm1 ct1 : Value} {od1 an1 : Option Addr} {sl1 : Array (Option Value)}
    {cd1 : Value}
    {f2 : Addr} {oc2 kV2 dc2 pm2 ct2 : Value} {od2 an2 : Option Addr} {sl2 : Array (Option Value)}
    {cd2 : Value}
    {f3 : Addr} {oc3 kV3 dc3 pm3 ct3 : Value} {od3 an3 : Option Addr} {sl3 : Array (Option Value)}
    {cd3 : Value}
    {f4 : Addr} {oc4 kV4 dc4 pm4 ct4 : Value} {od4 an4 : Option Addr} {sl4 : Array (Option Value)}
    {cd4 : Value}
    {f5 : Addr} {oc5 kV5 dc5 pm5 ct5 : Value} {od5 an5 : Option Addr} {sl5 : Array (Option Value)}
    {cd5 : Value}
    {f6 : Addr} {oc6 kV6 dc6 pm6 ct6 : Value} {od6 an6 : Option Addr} {sl6 : Array (Option Value)}
    {cd6 : Value}
    {f7 : Addr} {oc7 kV7 dc7 pm7 ct7 : Value} {od7 an7 : Option Addr} {sl7 : Array (Option Value)}
    {cd7 : Value}
    {f8 : Addr} {oc8 kV8 dc8 pm8 ct8 : Value} {od8 an8 : Option Addr} {sl8 : Array (Option Value)}
    {cd8 : Value}
    {f9 : Addr} {oc9 kV9 dc9 pm9 ct9 : Value} {od9 an9 : Option Addr} {sl9 : Array (Option Value)}
    {cd9 : Value}
    {f10 : Addr} {oc10 kV10 dc10 pm10 ct10 : Value} {od10 an10 : Option Addr} {sl10 : Array (Option Value)}
    {cd10 : Value}
    {f11 : Addr} {oc11 kV11 dc11 pm11 ct11 : Value} {od11 an11 : Option Addr} {sl11 : Array (Option Value)}
    {cd11 : Value}
    {f12 : Addr} {oc12 kV12 dc12 pm12 ct12 : Value} {od12 an12 : Option Addr} {sl12 : Array (Option Value)}
    {cd12 : Value}
    {f13 : Addr} {oc13 kV13 dc13 pm13 ct13 : Value} {od13 an13 : Option Addr} {sl13 : Array (Option Value)}
    {cd13 : Value}
    {f14 : Addr} {oc14 kV14 dc14 pm14 ct14 : Value} {od14 an14 : Option Addr} {sl14 : Array (Option Value)}
    {cd14 : Value}
    {f15 : Addr} {oc15 kV15 dc15 pm15 ct15 : Value} {od15 an15 : Option Addr} {sl15 : Array (Option Value)}
    {cW0 P0 : Addr} {occ0 : Value} {odc0 : Option Addr} {slc0 : Array (Option Value)} {vsc0 : Array Value}
    {f16 : Addr} {oc16 kV16 dc16 pm16 ct16 : Value} {od16 an16 : Option Addr} {sl16 : Array (Option Value)}
    {cW1 P1 : Addr} {occ1 : Value} {odc1 : Option Addr} {slc1 : Array (Option Value)} {vsc1 : Array Value}
    {f17 : Addr} {oc17 kV17 dc17 pm17 ct17 : Value} {od17 an17 : Option Addr} {sl17 : Array (Option Value)}
    {cW2 P2 : Addr} {occ2 : Value} {odc2 : Option Addr} {slc2 : Array (Option Value)} {vsc2 : Array Value}
    {f18 : Addr} {oc18 kV18 dc18 pm18 ct18 : Value} {od18 an18 : Option Addr} {sl18 : Array (Option Value)}
    {cd18 : Value}
    {CNetError : Addr}
    {CInvalidNetwork : Addr}
    {CInvalidQuestion : Addr}
    {CNetwork : Addr}
    {IeInvalidNetwork cceInvalidNetwork cdaeInvalidNetwork NeInvalidNetwork : Addr} {nmeInvalidNetwork qeInvalidNetwork fileeInvalidNetwork : Str} {bseInvalidNetwork bmeInvalidNetwork subeInvalidNetwork : List Value} {sneInvalidNetwork : List Str} {abeInvalidNetwork : Bool} {coleInvalidNetwork : Option Bool} {ddeInvalidNetwork odeInvalidNetwork aneInvalidNetwork cddeInvalidNetwork cldeInvalidNetwork : Option Addr} {m0eInvalidNetwork m1eInvalidNetwork m2eInvalidNetwork m3eInvalidNetwork m5eInvalidNetwork : Option Value} {oceInvalidNetwork dceInvalidNetwork pmeInvalidNetwork cteInvalidNetwork ccleInvalidNetwork cleInvalidNetwork : Value} {osleInvalidNetwork ccseInvalidNetwork csleInvalidNetwork : Array (Option Value)} {vseInvalidNetwork : Array Value} {tfeInvalidNetwork : Tok}
    {IeInvalidQuestion cceInvalidQuestion cdaeInvalidQuestion NeInvalidQuestion : Addr} {nmeInvalidQuestion qeInvalidQuestion fileeInvalidQuestion : Str} {bseInvalidQuestion bmeInvalidQuestion subeInvalidQuestion : List Value} {sneInvalidQuestion : List Str} {abeInvalidQuestion : Bool} {coleInvalidQuestion : Option Bool} {ddeInvalidQuestion odeInvalidQuestion aneInvalidQuestion cddeInvalidQuestion cldeInvalidQuestion : Option Addr} {m0eInvalidQuestion m1eInvalidQuestion m2eInvalidQuestion m3eInvalidQuestion m5eInvalidQuestion : Option Value} {oceInvalidQuestion dceInvalidQuestion pmeInvalidQuestion cteInvalidQuestion ccleInvalidQuestion cleInvalidQuestion : Value} {osleInvalidQuestion ccseInvalidQuestion csleInvalidQuestion : Array (Option Value)} {vseInvalidQuestion : Array Value} {tfeInvalidQuestion : Tok}
    {mfNetwork0 : Addr} {mocNetwork0 mkVNetwork0 mdcNetwork0 mpmNetwork0 mctNetwork0 mcdNetwork0 : Value} {modNetwork0 manNetwork0 : Option Addr} {mslNetwork0 : Array (Option Value)}
    {mfNetwork1 : Addr} {mocNetwork1 mkVNetwork1 mdcNetwork1 mpmNetwork1 mctNetwork1 mcdNetwork1 : Value} {modNetwork1 manNetwork1 : Option Addr} {mslNetwork1 : Array (Option Value)}
    {mfNetwork2 : Addr} {mocNetwork2 mkVNetwork2 mdcNetwork2 mpmNetwork2 mctNetwork2 mcdNetwork2 : Value} {modNetwork2 manNetwork2 : Option Addr} {mslNetwork2 : Array (Option Value)}
    {mfNetwork3 : Addr} {mocNetwork3 mkVNetwork3 mdcNetwork3 mpmNetwork3 mctNetwork3 mcdNetwork3 : Value} {modNetwork3 manNetwork3 : Option Addr} {mslNetwork3 : Array (Option Value)}
    {mfNetwork4 : Addr} {mocNetwork4 mkVNetwork4 mdcNetwork4 mpmNetwork4 mctNetwork4 mcdNetwork4 : Value} {modNetwork4 manNetwork4 : Option Addr} {mslNetwork4 : Array (Option Value)}
    (X : K.In h) (G : h.Ns mainGlobals mg) (hfa : mg "law" = some (.ref fa))
    (z_abs : PySem.W.nsIn K mainGlobals "abs" = some none)
    (z_all : PySem.W.nsIn K mainGlobals "all" = some none)
    (z_bool : PySem.W.nsIn K mainGlobals "bool" = some none)
    (z_enumerate : PySem.W.nsIn K mainGlobals "enumerate" = some none)
    (z_int : PySem.W.nsIn K mainGlobals "int" = some none)
    (z_isinstance : PySem.W.nsIn K mainGlobals "isinstance" = some none)
    (z_len : PySem.W.nsIn K mainGlobals "len" = some none)
    (z_list : PySem.W.nsIn K mainGlobals "list" = some none)
    (z_max : PySem.W.nsIn K mainGlobals "max" = some none)
    (z_min : PySem.W.nsIn K mainGlobals "min" = some none)
    (z_range : PySem.W.nsIn K mainGlobals "range" = some none)
    (z_repr : PySem.W.nsIn K mainGlobals "repr" = some none)
    (z_sorted : PySem.W.nsIn K mainGlobals "sorted" = some none)
    (z_tuple : PySem.W.nsIn K mainGlobals "tuple" = some none)
    (q_MOST_MODES : PySem.W.nsIn K mainGlobals "MOST_MODES" = some (some (.int 4 tokMOST_MODES)))
    (q_MOST_NEIGHBOURS : PySem.W.nsIn K mainGlobals "MOST_NEIGHBOURS" = some (some (.int 4 tokMOST_NEIGHBOURS)))
    (a0 : PySem.W.nsIn K mainGlobals "_wall" = some (some (.ref f0)))
    (l0 : K.lookup f0 = some ⟨oc0, od0, .func (PySem.W.fnOf "_wall" "_wall" (defArgs s__wall) (defBody s__wall) (defScope s__wall) .none kV0 dc0 pm0 an0 cd0 ct0), sl0⟩)
    (cd_0 : PySem.W.codeIn K cd0 "_wall" = true)
    (k0 : PySem.W.keepIn K (.ref f0) = true)
    (a1 : PySem.W.nsIn K mainGlobals "is_integer" = some (some (.ref f1)))
    (l1 : K.lookup f1 = some ⟨oc1, od1, .func (PySem.W.fnOf "is_integer" "is_integer" (defArgs s_is_integer) (defBody s_is_integer) (defScope s_is_integer) .none kV1 dc1 pm1 an1 cd1 ct1), sl1⟩)
    (cd_1 : PySem.W.codeIn K cd1 "is_integer" = true)
    (k1 : PySem.W.keepIn K (.ref f1) = true)
    (a2 : PySem.W.nsIn K mainGlobals "is_number" = some (some (.ref f2)))
    (l2 : K.lookup f2 = some ⟨oc2, od2, .func (PySem.W.fnOf "is_number" "is_number" (defArgs s_is_number) (defBody s_is_number) (defScope s_is_number) .none kV2 dc2 pm2 an2 cd2 ct2), sl2⟩)
    (cd_2 : PySem.W.codeIn K cd2 "is_number" = true)
    (k2 : PySem.W.keepIn K (.ref f2) = true)
    (a3 : PySem.W.nsIn K mainGlobals "is_sequence" = some (some (.ref f3)))
    (l3 : K.lookup f3 = some ⟨oc3, od3, .func (PySem.W.fnOf "is_sequence" "is_sequence" (defArgs s_is_sequence) (defBody s_is_sequence) (defScope s_is_sequence) .none kV3 dc3 pm3 an3 cd3 ct3), sl3⟩)
    (cd_3 : PySem.W.codeIn K cd3 "is_sequence" = true)
    (k3 : PySem.W.keepIn K (.ref f3) = true)
    (a4 : PySem.W.nsIn K mainGlobals "is_index" = some (some (.ref f4)))
    (l4 : K.lookup f4 = some ⟨oc4, od4, .func (PySem.W.fnOf "is_index" "is_index" (defArgs s_is_index) (defBody s_is_index) (defScope s_is_index) .none kV4 dc4 pm4 an4 cd4 ct4), sl4⟩)
    (cd_4 : PySem.W.codeIn K cd4 "is_index" = true)
    (k4 : PySem.W.keepIn K (.ref f4) = true)
    (a5 : PySem.W.nsIn K mainGlobals "check_modes" = some (some (.ref f5)))
    (l5 : K.lookup f5 = some ⟨oc5, od5, .func (PySem.W.fnOf "check_modes" "check_modes" (defArgs s_check_modes) (defBody s_check_modes) (defScope s_check_modes) .none kV5 dc5 pm5 an5 cd5 ct5), sl5⟩)
    (cd_5 : PySem.W.codeIn K cd5 "check_modes" = true)
    (k5 : PySem.W.keepIn K (.ref f5) = true)
    (a6 : PySem.W.nsIn K mainGlobals "is_link" = some (some (.ref f6)))
    (l6 : K.lookup f6 = some ⟨oc6, od6, .func (PySem.W.fnOf "is_link" "is_link" (defArgs s_is_link) (defBody s_is_link) (defScope s_is_link) .none kV6 dc6 pm6 an6 cd6 ct6), sl6⟩)
    (cd_6 : PySem.W.codeIn K cd6 "is_link" = true)
    (k6 : PySem.W.keepIn K (.ref f6) = true)
    (a7 : PySem.W.nsIn K mainGlobals "made_rows" = some (some (.ref f7)))
    (l7 : K.lookup f7 = some ⟨oc7, od7, .func (PySem.W.fnOf "made_rows" "made_rows" (defArgs s_made_rows) (defBody s_made_rows) (defScope s_made_rows) .none kV7 dc7 pm7 an7 cd7 ct7), sl7⟩)
    (cd_7 : PySem.W.codeIn K cd7 "made_rows" = true)
    (k7 : PySem.W.keepIn K (.ref f7) = true)
    (a8 : PySem.W.nsIn K mainGlobals "_law_draw" = some (some (.ref f8)))
    (l8 : K.lookup f8 = some ⟨oc8, od8, .func (PySem.W.fnOf "_law_draw" "_law_draw" (defArgs s__law_draw) (defBody s__law_draw) (defScope s__law_draw) .none kV8 dc8 pm8 an8 cd8 ct8), sl8⟩)
    (cd_8 : PySem.W.codeIn K cd8 "_law_draw" = true)
    (k8 : PySem.W.keepIn K (.ref f8) = true)
    (a9 : PySem.W.nsIn K mainGlobals "_law_any" = some (some (.ref f9)))
    (l9 : K.lookup f9 = some ⟨oc9, od9, .func (PySem.W.fnOf "_law_any" "_law_any" (defArgs s__law_any) (defBody s__law_any) (defScope s__law_any) .none kV9 dc9 pm9 an9 cd9 ct9), sl9⟩)
    (cd_9 : PySem.W.codeIn K cd9 "_law_any" = true)
    (k9 : PySem.W.keepIn K (.ref f9) = true)
    (a10 : PySem.W.nsIn K mainGlobals "_law_of" = some (some (.ref f10)))
    (l10 : K.lookup f10 = some ⟨oc10, od10, .func (PySem.W.fnOf "_law_of" "_law_of" (defArgs s__law_of) (defBody s__law_of) (defScope s__law_of) .none kV10 dc10 pm10 an10 cd10 ct10), sl10⟩)
    (cd_10 : PySem.W.codeIn K cd10 "_law_of" = true)
    (k10 : PySem.W.keepIn K (.ref f10) = true)
    (a11 : PySem.W.nsIn K mainGlobals "_law_links" = some (some (.ref f11)))
    (l11 : K.lookup f11 = some ⟨oc11, od11, .func (PySem.W.fnOf "_law_links" "_law_links" (defArgs s__law_links) (defBody s__law_links) (defScope s__law_links) .none kV11 dc11 pm11 an11 cd11 ct11), sl11⟩)
    (cd_11 : PySem.W.codeIn K cd11 "_law_links" = true)
    (k11 : PySem.W.keepIn K (.ref f11) = true)
    (a12 : PySem.W.nsIn K mainGlobals "_law_network" = some (some (.ref f12)))
    (l12 : K.lookup f12 = some ⟨oc12, od12, .func (PySem.W.fnOf "_law_network" "_law_network" (defArgs s__law_network) (defBody s__law_network) (defScope s__law_network) .none kV12 dc12 pm12 an12 cd12 ct12), sl12⟩)
    (cd_12 : PySem.W.codeIn K cd12 "_law_network" = true)
    (k12 : PySem.W.keepIn K (.ref f12) = true)
    (a13 : PySem.W.nsIn K mainGlobals "_law_mixed" = some (some (.ref f13)))
    (l13 : K.lookup f13 = some ⟨oc13, od13, .func (PySem.W.fnOf "_law_mixed" "_law_mixed" (defArgs s__law_mixed) (defBody s__law_mixed) (defScope s__law_mixed) .none kV13 dc13 pm13 an13 cd13 ct13), sl13⟩)
    (cd_13 : PySem.W.codeIn K cd13 "_law_mixed" = true)
    (k13 : PySem.W.keepIn K (.ref f13) = true)
    (a14 : PySem.W.nsIn K mainGlobals "_law_refused" = some (some (.ref f14)))
    (l14 : K.lookup f14 = some ⟨oc14, od14, .func (PySem.W.fnOf "_law_refused" "_law_refused" (defArgs s__law_refused) (defBody s__law_refused) (defScope s__law_refused) .none kV14 dc14 pm14 an14 cd14 ct14), sl14⟩)
    (cd_14 : PySem.W.codeIn K cd14 "_law_refused" = true)
    (k14 : PySem.W.keepIn K (.ref f14) = true)
    (a15 : PySem.W.nsIn K mainGlobals "_law_modes_refused" = some (some (.ref f15)))
    (l15 : K.lookup f15 = some ⟨oc15, od15, .func (PySem.W.fnOf "_law_modes_refused" "_law_modes_refused" (defArgs s__law_modes_refused) (defBody s__law_modes_refused) (defScope s__law_modes_refused) .none kV15 dc15 pm15 an15 (.ref cW0) ct15), sl15⟩)
    (cd_15 : PySem.W.codeIn K (.ref cW0) "_law_modes_refused" = true)
    (k15 : PySem.W.keepIn K (.ref f15) = true)
    (xL0 : K.lookup cW0 = some ⟨occ0, odc0, .fields vsc0, slc0⟩)
    (vL0 : vsc0[11]? = some (.ref P0))
    (hL0 : PySem.W.codeHdIn K cW0 P0 = true)
    (a16 : PySem.W.nsIn K mainGlobals "_law_links_refused" = some (some (.ref f16)))
    (l16 : K.lookup f16 = some ⟨oc16, od16, .func (PySem.W.fnOf "_law_links_refused" "_law_links_refused" (defArgs s__law_links_refused) (defBody s__law_links_refused) (defScope s__law_links_refused) .none kV16 dc16 pm16 an16 (.ref cW1) ct16), sl16⟩)
    (cd_16 : PySem.W.codeIn K (.ref cW1) "_law_links_refused" = true)
    (k16 : PySem.W.keepIn K (.ref f16) = true)
    (xL1 : K.lookup cW1 = some ⟨occ1, odc1, .fields vsc1, slc1⟩)
    (vL1 : vsc1[11]? = some (.ref P1))
    (hL1 : PySem.W.codeHdIn K cW1 P1 = true)
    (a17 : PySem.W.nsIn K mainGlobals "_law_fifth_right" = some (some (.ref f17)))
    (l17 : K.lookup f17 = some ⟨oc17, od17, .func (PySem.W.fnOf "_law_fifth_right" "_law_fifth_right" (defArgs s__law_fifth_right) (defBody s__law_fifth_right) (defScope s__law_fifth_right) .none kV17 dc17 pm17 an17 (.ref cW2) ct17), sl17⟩)
    (cd_17 : PySem.W.codeIn K (.ref cW2) "_law_fifth_right" = true)
    (k17 : PySem.W.keepIn K (.ref f17) = true)
    (xL2 : K.lookup cW2 = some ⟨occ2, odc2, .fields vsc2, slc2⟩)
    (vL2 : vsc2[11]? = some (.ref P2))
    (hL2 : PySem.W.codeHdIn K cW2 P2 = true)
    (a18 : PySem.W.nsIn K mainGlobals "law" = some (some (.ref f18)))
    (l18 : K.lookup f18 = some ⟨oc18, od18, .func (PySem.W.fnOf "law" "law" (defArgs s_law) (defBody s_law) (defScope s_law) .none kV18 dc18 pm18 an18 cd18 ct18), sl18⟩)
    (cd_18 : PySem.W.codeIn K cd18 "law" = true)
    (k18 : PySem.W.keepIn K (.ref f18) = true)
    (geNetError : PySem.W.nsIn K mainGlobals "NetError" = some (some (.ref CNetError)))
    (geInvalidNetwork : PySem.W.nsIn K mainGlobals "InvalidNetwork" = some (some (.ref CInvalidNetwork)))
    (geInvalidQuestion : PySem.W.nsIn K mainGlobals "InvalidQuestion" = some (some (.ref CInvalidQuestion)))
    (geNetwork : PySem.W.nsIn K mainGlobals "Network" = some (some (.ref CNetwork)))
    (xLeInvalidNetwork : K.lookup CInvalidNetwork = some (excClassObj nmeInvalidNetwork qeInvalidNetwork CInvalidNetwork NeInvalidNetwork bseInvalidNetwork bmeInvalidNetwork true sneInvalidNetwork subeInvalidNetwork abeInvalidNetwork coleInvalidNetwork ddeInvalidNetwork m0eInvalidNetwork m1eInvalidNetwork m2eInvalidNetwork m3eInvalidNetwork m5eInvalidNetwork "ValueError.__new__"))
    (xVeInvalidNetwork : PySem.HandSPX.refsVE bmeInvalidNetwork = true)
    (saeInvalidNetwork : PySem.W.findIn K (.ref CInvalidNetwork) "__setattr__" = some (some (.builtin "object.__setattr__")))
    (exCeInvalidNetwork : PySem.W.subIn K (.ref CInvalidNetwork) (.type "BaseException") = some true)
    (tyCeInvalidNetwork : PySem.W.typeIn K (.ref CInvalidNetwork) = some (.type "type"))
    (kCeInvalidNetwork : PySem.W.keepIn K (.ref CInvalidNetwork) = true)
    (iCeInvalidNetwork : PySem.W.findIn K (.ref CInvalidNetwork) "__init__" = some (some (.ref IeInvalidNetwork)))
    (tIeInvalidNetwork : PySem.W.typeIn K (.ref IeInvalidNetwork) = some (.type "function"))
    (fneInvalidNetwork : K.lookup IeInvalidNetwork = some ⟨oceInvalidNetwork, odeInvalidNetwork, .func (PySem.W.ksFn "__init__" "InvalidNetwork.__init__" (defArgs si_InvalidNetwork) (defBody si_InvalidNetwork) (defScope si_InvalidNetwork) .none .none dceInvalidNetwork pmeInvalidNetwork aneInvalidNetwork (.ref cdaeInvalidNetwork) cteInvalidNetwork cceInvalidNetwork), osleInvalidNetwork⟩)
    (cdeInvalidNetwork : PySem.W.codeIn K (.ref cdaeInvalidNetwork) "InvalidNetwork.__init__" = true)
    (fleInvalidNetwork : K.lookup cdaeInvalidNetwork = some ⟨ccleInvalidNetwork, cddeInvalidNetwork, .fields vseInvalidNetwork, ccseInvalidNetwork⟩)
    (fveInvalidNetwork : vseInvalidNetwork[2]? = some (.str fileeInvalidNetwork tfeInvalidNetwork))
    (fPeInvalidNetwork : ((PP.main.file : Str) == fileeInvalidNetwork) = true)
    (ceeInvalidNetwork : K.lookup cceInvalidNetwork = some ⟨cleInvalidNetwork, cldeInvalidNetwork, .cell (some (.ref CInvalidNetwork)), csleInvalidNetwork⟩)
    (mreInvalidNetwork : PySem.W.mroIn K CInvalidNetwork (.ref CInvalidNetwork) = some true)
    (sieInvalidNetwork : PySem.W.ks_superIn K CInvalidNetwork CInvalidNetwork "__init__" = some (some (.builtin "ValueError.__init__")))
    (sveInvalidNetwork : PySem.W.subIn K (.ref CInvalidNetwork) (.type "ValueError") = some true)
    (noAteInvalidNetwork : PySem.W.findIn K (.ref CInvalidNetwork) "at" = some none)
    (hgeInvalidNetwork : PySem.W.findIn K (.ref CInvalidNetwork) "__getattribute__" = some (some (.builtin "BaseException.__getattribute__")))
    (hkeInvalidNetwork : PySem.W.findIn K (.ref CInvalidNetwork) "__getattr__" = some none)
    (hdeInvalidNetwork : PySem.W.hasDictIn K CInvalidNetwork = true)
    (haeInvalidNetwork : PySem.W.findIn K (.ref CInvalidNetwork) "__class__" = some (some (.builtin "object.__class__")))
    (hmeInvalidNetwork : PySem.W.mroIn K CInvalidNetwork (.type "object") = some true)
    (icleInvalidNetwork : PySem.W.isClsIn K CInvalidNetwork = true)
    (sCCeInvalidNetwork : PySem.W.subIn K (.ref CInvalidNetwork) (.ref CInvalidNetwork) = some true)
    (xLeInvalidQuestion : K.lookup CInvalidQuestion = some (excClassObj nmeInvalidQuestion qeInvalidQuestion CInvalidQuestion NeInvalidQuestion bseInvalidQuestion bmeInvalidQuestion true sneInvalidQuestion subeInvalidQuestion abeInvalidQuestion coleInvalidQuestion ddeInvalidQuestion m0eInvalidQuestion m1eInvalidQuestion m2eInvalidQuestion m3eInvalidQuestion m5eInvalidQuestion "ValueError.__new__"))
    (xVeInvalidQuestion : PySem.HandSPX.refsVE bmeInvalidQuestion = true)
    (saeInvalidQuestion : PySem.W.findIn K (.ref CInvalidQuestion) "__setattr__" = some (some (.builtin "object.__setattr__")))
    (exCeInvalidQuestion : PySem.W.subIn K (.ref CInvalidQuestion) (.type "BaseException") = some true)
    (tyCeInvalidQuestion : PySem.W.typeIn K (.ref CInvalidQuestion) = some (.type "type"))
    (kCeInvalidQuestion : PySem.W.keepIn K (.ref CInvalidQuestion) = true)
    (iCeInvalidQuestion : PySem.W.findIn K (.ref CInvalidQuestion) "__init__" = some (some (.ref IeInvalidQuestion)))
    (tIeInvalidQuestion : PySem.W.typeIn K (.ref IeInvalidQuestion) = some (.type "function"))
    (fneInvalidQuestion : K.lookup IeInvalidQuestion = some ⟨oceInvalidQuestion, odeInvalidQuestion, .func (PySem.W.ksFn "__init__" "InvalidQuestion.__init__" (defArgs si_InvalidQuestion) (defBody si_InvalidQuestion) (defScope si_InvalidQuestion) .none .none dceInvalidQuestion pmeInvalidQuestion aneInvalidQuestion (.ref cdaeInvalidQuestion) cteInvalidQuestion cceInvalidQuestion), osleInvalidQuestion⟩)
    (cdeInvalidQuestion : PySem.W.codeIn K (.ref cdaeInvalidQuestion) "InvalidQuestion.__init__" = true)
    (fleInvalidQuestion : K.lookup cdaeInvalidQuestion = some ⟨ccleInvalidQuestion, cddeInvalidQuestion, .fields vseInvalidQuestion, ccseInvalidQuestion⟩)
    (fveInvalidQuestion : vseInvalidQuestion[2]? = some (.str fileeInvalidQuestion tfeInvalidQuestion))
    (fPeInvalidQuestion : ((PP.main.file : Str) == fileeInvalidQuestion) = true)
    (ceeInvalidQuestion : K.lookup cceInvalidQuestion = some ⟨cleInvalidQuestion, cldeInvalidQuestion, .cell (some (.ref CInvalidQuestion)), csleInvalidQuestion⟩)
    (mreInvalidQuestion : PySem.W.mroIn K CInvalidQuestion (.ref CInvalidQuestion) = some true)
    (sieInvalidQuestion : PySem.W.ks_superIn K CInvalidQuestion CInvalidQuestion "__init__" = some (some (.builtin "ValueError.__init__")))
    (sveInvalidQuestion : PySem.W.subIn K (.ref CInvalidQuestion) (.type "ValueError") = some true)
    (noAteInvalidQuestion : PySem.W.findIn K (.ref CInvalidQuestion) "at" = some none)
    (hgeInvalidQuestion : PySem.W.findIn K (.ref CInvalidQuestion) "__getattribute__" = some (some (.builtin "BaseException.__getattribute__")))
    (hkeInvalidQuestion : PySem.W.findIn K (.ref CInvalidQuestion) "__getattr__" = some none)
    (hdeInvalidQuestion : PySem.W.hasDictIn K CInvalidQuestion = true)
    (haeInvalidQuestion : PySem.W.findIn K (.ref CInvalidQuestion) "__class__" = some (some (.builtin "object.__class__")))
    (hmeInvalidQuestion : PySem.W.mroIn K CInvalidQuestion (.type "object") = some true)
    (icleInvalidQuestion : PySem.W.isClsIn K CInvalidQuestion = true)
    (sCCeInvalidQuestion : PySem.W.subIn K (.ref CInvalidQuestion) (.ref CInvalidQuestion) = some true)
    (opgNetwork : PySem.W.plainGet K CNetwork Str.empty = true)
    (ohdNetwork : PySem.W.hasDictIn K CNetwork = true)
    (opoNetwork : PySem.W.plainOver K CNetwork = true)
    (osaNetwork : PySem.W.findIn K (.ref CNetwork) "__setattr__" = some (some (.builtin "object.__setattr__")))
    (ohaNetwork : PySem.W.findIn K (.ref CNetwork) "__class__" = some (some (.builtin "object.__class__")))
    (ohmNetwork : PySem.W.mroIn K CNetwork (.type "object") = some true)
    (omeNetwork : PySem.W.kitOne K (.ref CNetwork) (.ref CNetwork) = some true)
    (omkNetwork : PySem.W.makesIn K CNetwork = true)
    (okpNetwork : PySem.W.keepIn K (.ref CNetwork) = true)
    (oneNetwork : PySem.W.findIn K (.ref CNetwork) "__ne__" = some (some (.builtin "object.__ne__")))
    (osoNetwork : PySem.W.subIn K (.ref CNetwork) (.type "object") = some true)
    (onfNetwork : PySem.W.notFirst K CNetwork (.ref CNetwork) = true)
    (ontNetwork : PySem.W.notFirst K CNetwork (.type "tuple") = true)
    (oitNetwork : PySem.W.kitOne K (.type "tuple") (.ref CNetwork) = some false)
    (maNetwork0 : PySem.W.findIn K (.ref CNetwork) "__init__" = some (some (.ref mfNetwork0)))
    (miNetwork0 : PySem.W.isFn K (.ref mfNetwork0) = true)
    (mlNetwork0 : K.lookup mfNetwork0 = some ⟨mocNetwork0, modNetwork0, .func (PySem.W.fnOf "__init__" "Network.__init__" (defArgs s_Network___init__) (defBody s_Network___init__) (defScope s_Network___init__) .none mkVNetwork0 mdcNetwork0 mpmNetwork0 manNetwork0 mcdNetwork0 mctNetwork0), mslNetwork0⟩)
    (mcNetwork0 : PySem.W.codeIn K mcdNetwork0 "Network.__init__" = true)
    (mpNetwork0 : PySem.W.keepIn K (.ref mfNetwork0) = true)
    (maNetwork1 : PySem.W.findIn K (.ref CNetwork) "__eq__" = some (some (.ref mfNetwork1)))
    (miNetwork1 : PySem.W.isFn K (.ref mfNetwork1) = true)
    (mlNetwork1 : K.lookup mfNetwork1 = some ⟨mocNetwork1, modNetwork1, .func (PySem.W.fnOf "__eq__" "Network.__eq__" (defArgs s_Network___eq__) (defBody s_Network___eq__) (defScope s_Network___eq__) .none mkVNetwork1 mdcNetwork1 mpmNetwork1 manNetwork1 mcdNetwork1 mctNetwork1), mslNetwork1⟩)
    (mcNetwork1 : PySem.W.codeIn K mcdNetwork1 "Network.__eq__" = true)
    (mpNetwork1 : PySem.W.keepIn K (.ref mfNetwork1) = true)
    (maNetwork2 : PySem.W.findIn K (.ref CNetwork) "neighbours" = some (some (.ref mfNetwork2)))
    (miNetwork2 : PySem.W.isFn K (.ref mfNetwork2) = true)
    (mlNetwork2 : K.lookup mfNetwork2 = some ⟨mocNetwork2, modNetwork2, .func (PySem.W.fnOf "neighbours" "Network.neighbours" (defArgs s_Network_neighbours) (defBody s_Network_neighbours) (defScope s_Network_neighbours) .none mkVNetwork2 mdcNetwork2 mpmNetwork2 manNetwork2 mcdNetwork2 mctNetwork2), mslNetwork2⟩)
    (mcNetwork2 : PySem.W.codeIn K mcdNetwork2 "Network.neighbours" = true)
    (mpNetwork2 : PySem.W.keepIn K (.ref mfNetwork2) = true)
    (maNetwork3 : PySem.W.findIn K (.ref CNetwork) "view" = some (some (.ref mfNetwork3)))
    (miNetwork3 : PySem.W.isFn K (.ref mfNetwork3) = true)
    (mlNetwork3 : K.lookup mfNetwork3 = some ⟨mocNetwork3, modNetwork3, .func (PySem.W.fnOf "view" "Network.view" (defArgs s_Network_view) (defBody s_Network_view) (defScope s_Network_view) .none mkVNetwork3 mdcNetwork3 mpmNetwork3 manNetwork3 mcdNetwork3 mctNetwork3), mslNetwork3⟩)
    (mcNetwork3 : PySem.W.codeIn K mcdNetwork3 "Network.view" = true)
    (mpNetwork3 : PySem.W.keepIn K (.ref mfNetwork3) = true)
    (maNetwork4 : PySem.W.findIn K (.ref CNetwork) "site_views" = some (some (.ref mfNetwork4)))
    (miNetwork4 : PySem.W.isFn K (.ref mfNetwork4) = true)
    (mlNetwork4 : K.lookup mfNetwork4 = some ⟨mocNetwork4, modNetwork4, .func (PySem.W.fnOf "site_views" "Network.site_views" (defArgs s_Network_site_views) (defBody s_Network_site_views) (defScope s_Network_site_views) .none mkVNetwork4 mdcNetwork4 mpmNetwork4 manNetwork4 mcdNetwork4 mctNetwork4), mslNetwork4⟩)
    (mcNetwork4 : PySem.W.codeIn K mcdNetwork4 "Network.site_views" = true)
    (mpNetwork4 : PySem.W.keepIn K (.ref mfNetwork4) = true)
    (naNetworkrows : PySem.W.findIn K (.ref CNetwork) "rows" = some none)
    (naNetworkmodes : PySem.W.findIn K (.ref CNetwork) "modes" = some none)
    (naNetworklinks : PySem.W.findIn K (.ref CNetwork) "links" = some none)
    (sup : PySem.W.nsIn K mainGlobals "super" = some none)
    (any : PySem.W.nsIn K PySem.cStatics "thirdparty.any" = some none)
    (hn : PySem.W.specialIn K (.builtin "object.__class__") "__get__" = some (some (.builtin "getset_descriptor.__get__")))
    (ht : PySem.W.takesIn K (.builtin "object.__class__") = some true)
    (isnInvalidNetworkNetError : PySem.W.kitOne K (.ref CInvalidNetwork) (.ref CNetError) = some true)
    (tabs00 : h.get? P0 = some { cls := .none, data := .fields #[] }) (tabsK0 : K.lookup P0 = none)
    (tabs01 : h.get? P1 = some { cls := .none, data := .fields #[] }) (tabsK1 : K.lookup P1 = none)
    (tabs02 : h.get? P2 = some { cls := .none, data := .fields #[] }) (tabsK2 : K.lookup P2 = none)
    (df01 : P0 ≠ P1)
    (df02 : P0 ≠ P2)
    (df10 : P1 ≠ P0)
    (df12 : P1 ≠ P2)
    (df20 : P2 ≠ P0)
    (df21 : P2 ≠ P1) :
    LawG PySem.Challenge.rw_handalong_k04_networks_kept_and_refused w K CX0 12 63 "_law_script" mg fa h := by
  have D_wall : Def K mg "_wall" s__wall ["k"] := def_mk X G a0 l0 cd_0 k0 (fun _ _ _ _ _ _ us hl => match us, hl with | [_], _ => rfl)
  have Dis_integer : Def K mg "is_integer" s_is_integer ["value"] := def_mk X G a1 l1 cd_1 k1 (fun _ _ _ _ _ _ us hl => match us, hl with | [_], _ => rfl)
  have Dis_number : Def K mg "is_number" s_is_number ["value"] := def_mk X G a2 l2 cd_2 k2 (fun _ _ _ _ _ _ us hl => match us, hl with | [_], _ => rfl)
  have Dis_sequence : Def K mg "is_sequence" s_is_sequence ["value"] := def_mk X G a3 l3 cd_3 k3 (fun _ _ _ _ _ _ us hl => match us, hl with | [_], _ => rfl)
  have Dis_index : Def K mg "is_index" s_is_index ["value", "many"] := def_mk X G a4 l4 cd_4 k4 (fun _ _ _ _ _ _ us hl => match us, hl with | [_, _], _ => rfl)
  have Dcheck_modes : Def K mg "check_modes" s_check_modes ["modes"] := def_mk X G a5 l5 cd_5 k5 (fun _ _ _ _ _ _ us hl => match us, hl with | [_], _ => rfl)
  have Dis_link : Def K mg "is_link" s_is_link ["value", "many"] := def_mk X G a6 l6 cd_6 k6 (fun _ _ _ _ _ _ us hl => match us, hl with | [_, _], _ => rfl)
  have Dmade_rows : Def K mg "made_rows" s_made_rows ["many", "links"] := def_mk X G a7 l7 cd_7 k7 (fun _ _ _ _ _ _ us hl => match us, hl with | [_, _], _ => rfl)
  have D_law_draw : Def K mg "_law_draw" s__law_draw ["_law_script", "_law_salt"] := def_mk X G a8 l8 cd_8 k8 (fun _ _ _ _ _ _ us hl => match us, hl with | [_, _], _ => rfl)
  have D_law_any : Def K mg "_law_any" s__law_any ["_law_deal", "_law_bound"] := def_mk X G a9 l9 cd_9 k9 (fun _ _ _ _ _ _ us hl => match us, hl with | [_, _], _ => rfl)
  have D_law_of : Def K mg "_law_of" s__law_of ["_law_deal", "_law_some"] := def_mk X G a10 l10 cd_10 k10 (fun _ _ _ _ _ _ us hl => match us, hl with | [_, _], _ => rfl)
  have D_law_links : Def K mg "_law_links" s__law_links ["_law_deal", "_law_many"] := def_mk X G a11 l11 cd_11 k11 (fun _ _ _ _ _ _ us hl => match us, hl with | [_, _], _ => rfl)
  have D_law_network : Def K mg "_law_network" s__law_network ["_law_deal", "_law_kinds", "_law_many"] := def_mk X G a12 l12 cd_12 k12 (fun _ _ _ _ _ _ us hl => match us, hl with | [_, _, _], _ => rfl)
  have D_law_mixed : Def K mg "_law_mixed" s__law_mixed ["_law_deal", "_law_some"] := def_mk X G a13 l13 cd_13 k13 (fun _ _ _ _ _ _ us hl => match us, hl with | [_, _], _ => rfl)
  have D_law_refused : Def K mg "_law_refused" s__law_refused ["_law_work"] := def_mk X G a14 l14 cd_14 k14 (fun _ _ _ _ _ _ us hl => match us, hl with | [_], _ => rfl)
  have C_law_modes_refused : DefC K mg "_law_modes_refused" s__law_modes_refused ["_law_deal", "_law_modes", "_law_links_here"] cW0 := defC_mk X G a15 l15 cd_15 k15 (fun _ _ _ _ _ _ us hl => match us, hl with | [_, _, _], _ => rfl)
  have D_law_modes_refused := C_law_modes_refused.def
  have C_law_links_refused : DefC K mg "_law_links_refused" s__law_links_refused ["_law_deal", "_law_modes", "_law_links_here"] cW1 := defC_mk X G a16 l16 cd_16 k16 (fun _ _ _ _ _ _ us hl => match us, hl with | [_, _, _], _ => rfl)
  have D_law_links_refused := C_law_links_refused.def
  have C_law_fifth_right : DefC K mg "_law_fifth_right" s__law_fifth_right ["_law_deal"] cW2 := defC_mk X G a17 l17 cd_17 k17 (fun _ _ _ _ _ _ us hl => match us, hl with | [_], _ => rfl)
  have D_law_fifth_right := C_law_fifth_right.def
  have Dlaw : Def K mg "law" s_law ["_law_script"] := def_mk X G a18 l18 cd_18 k18 (fun _ _ _ _ _ _ us hl => match us, hl with | [_], _ => rfl)
  have EInvalidNetwork : ErrK PP K mg "InvalidNetwork" CInvalidNetwork := errK_mk (st := si_InvalidNetwork) X G geInvalidNetwork xLeInvalidNetwork xVeInvalidNetwork saeInvalidNetwork exCeInvalidNetwork tyCeInvalidNetwork kCeInvalidNetwork iCeInvalidNetwork tIeInvalidNetwork fneInvalidNetwork cdeInvalidNetwork fleInvalidNetwork fveInvalidNetwork fPeInvalidNetwork ceeInvalidNetwork mreInvalidNetwork sup any sieInvalidNetwork sveInvalidNetwork rfl noAteInvalidNetwork hgeInvalidNetwork hkeInvalidNetwork hdeInvalidNetwork haeInvalidNetwork hn ht hmeInvalidNetwork icleInvalidNetwork sCCeInvalidNetwork ⟨_, _, _, _, _, _, _, _, _, _, _, _, rfl, fun _ => ⟨_, rfl⟩, rfl, _, rfl, rfl⟩ (fun _ _ _ _ _ _ us hl => match us, hl with | [_, _], _ => rfl)
  have EInvalidQuestion : ErrK PP K mg "InvalidQuestion" CInvalidQuestion := errK_mk (st := si_InvalidQuestion) X G geInvalidQuestion xLeInvalidQuestion xVeInvalidQuestion saeInvalidQuestion exCeInvalidQuestion tyCeInvalidQuestion kCeInvalidQuestion iCeInvalidQuestion tIeInvalidQuestion fneInvalidQuestion cdeInvalidQuestion fleInvalidQuestion fveInvalidQuestion fPeInvalidQuestion ceeInvalidQuestion mreInvalidQuestion sup any sieInvalidQuestion sveInvalidQuestion rfl noAteInvalidQuestion hgeInvalidQuestion hkeInvalidQuestion hdeInvalidQuestion haeInvalidQuestion hn ht hmeInvalidQuestion icleInvalidQuestion sCCeInvalidQuestion ⟨_, _, _, _, _, _, _, _, _, _, _, _, rfl, fun _ => ⟨_, rfl⟩, rfl, _, rfl, rfl⟩ (fun _ _ _ _ _ _ us hl => match us, hl with | [_, _], _ => rfl)
  have KNetwork : ClsK K mg "Network" CNetwork := ⟨PySem.W.mg_of X G geNetwork, ⟨⟨opgNetwork, ohdNetwork, opoNetwork, osaNetwork⟩, ohaNetwork, hn, ht, ohmNetwork, omeNetwork⟩, omkNetwork, okpNetwork, oneNetwork, osoNetwork, onfNetwork, ontNetwork, oitNetwork⟩
  have MNetwork0 : MDef K CNetwork "__init__" "Network.__init__" s_Network___init__ ["self", "modes", "links"] := ⟨_, _, fun_mk (st := s_Network___init__) mlNetwork0 mcNetwork0 mpNetwork0, maNetwork0, miNetwork0, (fun_mk (st := s_Network___init__) mlNetwork0 mcNetwork0 mpNetwork0).binds (fun _ _ _ _ _ _ us hl => match us, hl with | [_, _, _], _ => rfl)⟩
  have MNetwork1 : MDef K CNetwork "__eq__" "Network.__eq__" s_Network___eq__ ["self", "other"] := ⟨_, _, fun_mk (st := s_Network___eq__) mlNetwork1 mcNetwork1 mpNetwork1, maNetwork1, miNetwork1, (fun_mk (st := s_Network___eq__) mlNetwork1 mcNetwork1 mpNetwork1).binds (fun _ _ _ _ _ _ us hl => match us, hl with | [_, _], _ => rfl)⟩
  have MNetwork2 : MDef K CNetwork "neighbours" "Network.neighbours" s_Network_neighbours ["self", "at"] := ⟨_, _, fun_mk (st := s_Network_neighbours) mlNetwork2 mcNetwork2 mpNetwork2, maNetwork2, miNetwork2, (fun_mk (st := s_Network_neighbours) mlNetwork2 mcNetwork2 mpNetwork2).binds (fun _ _ _ _ _ _ us hl => match us, hl with | [_, _], _ => rfl)⟩
  have MNetwork3 : MDef K CNetwork "view" "Network.view" s_Network_view ["self", "at"] := ⟨_, _, fun_mk (st := s_Network_view) mlNetwork3 mcNetwork3 mpNetwork3, maNetwork3, miNetwork3, (fun_mk (st := s_Network_view) mlNetwork3 mcNetwork3 mpNetwork3).binds (fun _ _ _ _ _ _ us hl => match us, hl with | [_, _], _ => rfl)⟩
  have MNetwork4 : MDef K CNetwork "site_views" "Network.site_views" s_Network_site_views ["self"] := ⟨_, _, fun_mk (st := s_Network_site_views) mlNetwork4 mcNetwork4 mpNetwork4, maNetwork4, miNetwork4, (fun_mk (st := s_Network_site_views) mlNetwork4 mcNetwork4 mpNetwork4).binds (fun _ _ _ _ _ _ us hl => match us, hl with | [_], _ => rfl)⟩
  have hhInvalidNetwork : Heard K CInvalidNetwork CInvalidNetwork CNetError := ⟨EInvalidNetwork.te, EInvalidNetwork.ec, isnInvalidNetworkNetError, EInvalidNetwork.noAt⟩
  have T : Txt PP K mg { NetError := CNetError, InvalidNetwork := CInvalidNetwork, InvalidQuestion := CInvalidQuestion, Network := CNetwork } :=
    { n_abs := PySem.W.mg_none_of X G z_abs,
      n_all := PySem.W.mg_none_of X G z_all,
      n_bool := PySem.W.mg_none_of X G z_bool,
      n_enumerate := PySem.W.mg_none_of X G z_enumerate,
      n_int := PySem.W.mg_none_of X G z_int,
      n_isinstance := PySem.W.mg_none_of X G z_isinstance,
      n_len := PySem.W.mg_none_of X G z_len,
      n_list := PySem.W.mg_none_of X G z_list,
      n_max := PySem.W.mg_none_of X G z_max,
      n_min := PySem.W.mg_none_of X G z_min,
      n_range := PySem.W.mg_none_of X G z_range,
      n_repr := PySem.W.mg_none_of X G z_repr,
      n_sorted := PySem.W.mg_none_of X G z_sorted,
      n_tuple := PySem.W.mg_none_of X G z_tuple,
      k_MOST_MODES := ⟨_, PySem.W.mg_of X G q_MOST_MODES⟩,
      k_MOST_NEIGHBOURS := ⟨_, PySem.W.mg_of X G q_MOST_NEIGHBOURS⟩,
      d__wall := D_wall,
      d_is_integer := Dis_integer,
      d_is_number := Dis_number,
      d_is_sequence := Dis_sequence,
      d_is_index := Dis_index,
      d_check_modes := Dcheck_modes,
      d_is_link := Dis_link,
      d_made_rows := Dmade_rows,
      d__law_draw := D_law_draw,
      d__law_any := D_law_any,
      d__law_of := D_law_of,
      d__law_links := D_law_links,
      d__law_network := D_law_network,
      d__law_mixed := D_law_mixed,
      d__law_refused := D_law_refused,
      d__law_modes_refused := D_law_modes_refused,
      d__law_links_refused := D_law_links_refused,
      d__law_fifth_right := D_law_fifth_right,
      c_NetError := PySem.W.mg_of X G geNetError,
      c_InvalidNetwork := PySem.W.mg_of X G geInvalidNetwork,
      c_InvalidQuestion := PySem.W.mg_of X G geInvalidQuestion,
      c_Network := PySem.W.mg_of X G geNetwork,
      x_InvalidNetwork := EInvalidNetwork,
      x_InvalidQuestion := EInvalidQuestion,
      K_Network := KNetwork,
      m_Network___init__ := MNetwork0,
      m_Network___eq__ := MNetwork1,
      m_Network_neighbours := MNetwork2,
      m_Network_view := MNetwork3,
      m_Network_site_views := MNetwork4,
      a_Network_rows := naNetworkrows,
      a_Network_modes := naNetworkmodes,
      a_Network_links := naNetworklinks }
  obtain ⟨fd, hb, hF⟩ := law_mk (P := PP) (cs := [(cW0, P0), (cW1, P1), (cW2, P2)]) (w := w) Dlaw hfa (fun _ _ _ _ _ _ _ => rfl) (fun base h1 h2 h3 => ok_law (w := w) (base := base) T Dlaw (ok__law_modes_refused (w := w) (base := base) T C_law_modes_refused (h3 _ List.mem_cons_self) hhInvalidNetwork df10 df20) (ok__law_links_refused (w := w) (base := base) T C_law_links_refused (h3 _ (List.mem_cons_of_mem _ List.mem_cons_self)) hhInvalidNetwork df01 df21) (ok__law_fifth_right (w := w) (base := base) T C_law_fifth_right (h3 _ (List.mem_cons_of_mem _ (List.mem_cons_of_mem _ List.mem_cons_self))) hhInvalidNetwork df02 df12))
  refine ⟨fd, [(cW0, P0), (cW1, P1), (cW2, P2)], _, fun p hp => ?_, hb, fun H a ns hl hbits ht hS => ?_, hF⟩
  · simp only [List.mem_cons, List.not_mem_nil, or_false] at hp
    rcases hp with rfl | rfl | rfl
    · exact ⟨tabs00, tabsK0, tab_mk X hL0⟩
    · exact ⟨tabs01, tabsK1, tab_mk X hL1⟩
    · exact ⟨tabs02, tabsK2, tab_mk X hL2⟩
  · exact ⟨a, ns, rfl, hS, ht _ List.mem_cons_self, ht _ (List.mem_cons_of_mem _ List.mem_cons_self), ht _ (List.mem_cons_of_mem _ (List.mem_cons_of_mem _ List.mem_cons_self)), fun _ => rfl⟩
end K04
open PySem PySem.W PyProof.Rows in
set_option maxRecDepth 100000 in
set_option maxHeartbeats 0 in
theorem PySem.Challenge.cw_handalong_k04_networks_kept_and_refused_holds : PySem.Challenge.rw_handalong_k04_networks_kept_and_refused.Holds := by
  w_on; o_law; k_head; (case hw => w_witness2)
  k_fill
  refine NL.walkGT (l := PySem.Challenge.rw_handalong_k04_networks_kept_and_refused) (n := 63) (k := 12) (x := "_law_script") (CX := L2.CX0) rfl (by decide) rfl ⟨rfl, by decide, by decide⟩ (fun w h Y => PySem.W.km_in_of Y) ?F (fun _ _ _ _ z => z)
  case F =>
    intro w mg fa h Y KX G hmg
    have hT8 := km_tabs_of Y
    refine' K04.all_mk KX G hmg ?z_abs ?z_all ?z_bool ?z_enumerate ?z_int ?z_isinstance ?z_len ?z_list ?z_max ?z_min ?z_range ?z_repr ?z_sorted ?z_tuple ?q_MOST_MODES ?q_MOST_NEIGHBOURS ?a0 ?l0 ?cd_0 ?k0 ?a1 ?l1 ?cd_1 ?k1 ?a2 ?l2 ?cd_2 ?k2 ?a3 ?l3 ?cd_3 ?k3 ?a4 ?l4 ?cd_4 ?k4 ?a5 ?l5 ?cd_5 ?k5 ?a6 ?l6 ?cd_6 ?k6 ?a7 ?l7 ?cd_7 ?k7 ?a8 ?l8 ?cd_8 ?k8 ?a9 ?l9 ?cd_9 ?k9 ?a10 ?l10 ?cd_10 ?k10 ?a11 ?l11 ?cd_11 ?k11 ?a12 ?l12 ?cd_12 ?k12 ?a13 ?l13 ?cd_13 ?k13 ?a14 ?l14 ?cd_14 ?k14 ?a15 ?l15 ?cd_15 ?k15 ?xL0 ?vL0 ?hL0 ?a16 ?l16 ?cd_16 ?k16 ?xL1 ?vL1 ?hL1 ?a17 ?l17 ?cd_17 ?k17 ?xL2 ?vL2 ?hL2 ?a18 ?l18 ?cd_18 ?k18 ?geNetError ?geInvalidNetwork ?geInvalidQuestion ?geNetwork ?xLeInvalidNetwork ?xVeInvalidNetwork ?saeInvalidNetwork ?exCeInvalidNetwork ?tyCeInvalidNetwork ?kCeInvalidNetwork ?iCeInvalidNetwork ?tIeInvalidNetwork ?fneInvalidNetwork ?cdeInvalidNetwork ?fleInvalidNetwork ?fveInvalidNetwork ?fPeInvalidNetwork ?ceeInvalidNetwork ?mreInvalidNetwork ?sieInvalidNetwork ?sveInvalidNetwork ?noAteInvalidNetwork ?hgeInvalidNetwork ?hkeInvalidNetwork ?hdeInvalidNetwork ?haeInvalidNetwork ?hmeInvalidNetwork ?icleInvalidNetwork ?sCCeInvalidNetwork ?xLeInvalidQuestion ?xVeInvalidQuestion ?saeInvalidQuestion ?exCeInvalidQuestion ?tyCeInvalidQuestion ?kCeInvalidQuestion ?iCeInvalidQuestion ?tIeInvalidQuestion ?fneInvalidQuestion ?cdeInvalidQuestion ?fleInvalidQuestion ?fveInvalidQuestion ?fPeInvalidQuestion ?ceeInvalidQuestion ?mreInvalidQuestion ?sieInvalidQuestion ?sveInvalidQuestion ?noAteInvalidQuestion ?hgeInvalidQuestion ?hkeInvalidQuestion ?hdeInvalidQuestion ?haeInvalidQuestion ?hmeInvalidQuestion ?icleInvalidQuestion ?sCCeInvalidQuestion ?opgNetwork ?ohdNetwork ?opoNetwork ?osaNetwork ?ohaNetwork ?ohmNetwork ?omeNetwork ?omkNetwork ?okpNetwork ?oneNetwork ?osoNetwork ?onfNetwork ?ontNetwork ?oitNetwork ?maNetwork0 ?miNetwork0 ?mlNetwork0 ?mcNetwork0 ?mpNetwork0 ?maNetwork1 ?miNetwork1 ?mlNetwork1 ?mcNetwork1 ?mpNetwork1 ?maNetwork2 ?miNetwork2 ?mlNetwork2 ?mcNetwork2 ?mpNetwork2 ?maNetwork3 ?miNetwork3 ?mlNetwork3 ?mcNetwork3 ?mpNetwork3 ?maNetwork4 ?miNetwork4 ?mlNetwork4 ?mcNetwork4 ?mpNetwork4 ?naNetworkrows ?naNetworkmodes ?naNetworklinks ?sup ?any ?hn ?ht ?isnInvalidNetworkNetError ?tabs00 ?tabsK0 ?tabs01 ?tabsK1 ?tabs02 ?tabsK2 ?df01 ?df02 ?df10 ?df12 ?df20 ?df21
    (case z_abs => k_is)
    (case z_all => k_is)
    (case z_bool => k_is)
    (case z_enumerate => k_is)
    (case z_int => k_is)
    (case z_isinstance => k_is)
    (case z_len => k_is)
    (case z_list => k_is)
    (case z_max => k_is)
    (case z_min => k_is)
    (case z_range => k_is)
    (case z_repr => k_is)
    (case z_sorted => k_is)
    (case z_tuple => k_is)
    (case q_MOST_MODES => k_is)
    (case q_MOST_NEIGHBOURS => k_is)
    (case a0 => k_is)
    (case l0 => k_is)
    (case cd_0 => k_is)
    (case k0 => k_is)
    (case a1 => k_is)
    (case l1 => k_is)
    (case cd_1 => k_is)
    (case k1 => k_is)
    (case a2 => k_is)
    (case l2 => k_is)
    (case cd_2 => k_is)
    (case k2 => k_is)
    (case a3 => k_is)
    (case l3 => k_is)
    (case cd_3 => k_is)
    (case k3 => k_is)
    (case a4 => k_is)
    (case l4 => k_is)
    (case cd_4 => k_is)
    (case k4 => k_is)
    (case a5 => k_is)
    (case l5 => k_is)
    (case cd_5 => k_is)
    (case k5 => k_is)
    (case a6 => k_is)
    (case l6 => k_is)
    (case cd_6 => k_is)
    (case k6 => k_is)
    (case a7 => k_is)
    (case l7 => k_is)
    (case cd_7 => k_is)
    (case k7 => k_is)
    (case a8 => k_is)
    (case l8 => k_is)
    (case cd_8 => k_is)
    (case k8 => k_is)
    (case a9 => k_is)
    (case l9 => k_is)
    (case cd_9 => k_is)
    (case k9 => k_is)
    (case a10 => k_is)
    (case l10 => k_is)
    (case cd_10 => k_is)
    (case k10 => k_is)
    (case a11 => k_is)
    (case l11 => k_is)
    (case cd_11 => k_is)
    (case k11 => k_is)
    (case a12 => k_is)
    (case l12 => k_is)
    (case cd_12 => k_is)
    (case k12 => k_is)
    (case a13 => k_is)
    (case l13 => k_is)
    (case cd_13 => k_is)
    (case k13 => k_is)
    (case a14 => k_is)
    (case l14 => k_is)
    (case cd_14 => k_is)
    (case k14 => k_is)
    (case a15 => k_is)
    (case l15 => k_is)
    (case cd_15 => k_is)
    (case k15 => k_is)
    (case xL0 => k_is)
    (case vL0 => rfl)
    (case hL0 => kernel_rfl)
    (case a16 => k_is)
    (case l16 => k_is)
    (case cd_16 => k_is)
    (case k16 => k_is)
    (case xL1 => k_is)
    (case vL1 => rfl)
    (case hL1 => kernel_rfl)
    (case a17 => k_is)
    (case l17 => k_is)
    (case cd_17 => k_is)
    (case k17 => k_is)
    (case xL2 => k_is)
    (case vL2 => rfl)
    (case hL2 => kernel_rfl)
    (case a18 => k_is)
    (case l18 => k_is)
    (case cd_18 => k_is)
    (case k18 => k_is)
    (case geNetError => k_is)
    (case geInvalidNetwork => k_is)
    (case geInvalidQuestion => k_is)
    (case geNetwork => k_is)
    (case xLeInvalidNetwork => k_is)
    (case xVeInvalidNetwork => rfl)
    (case saeInvalidNetwork => k_is)
    (case exCeInvalidNetwork => k_is)
    (case tyCeInvalidNetwork => k_is)
    (case kCeInvalidNetwork => k_is)
    (case iCeInvalidNetwork => k_is)
    (case tIeInvalidNetwork => k_is)
    (case fneInvalidNetwork => k_is)
    (case cdeInvalidNetwork => k_is)
    (case fleInvalidNetwork => k_is)
    (case fveInvalidNetwork => rfl)
    (case fPeInvalidNetwork => (first | rfl | decide +kernel))
    (case ceeInvalidNetwork => k_is)
    (case mreInvalidNetwork => k_is)
    (case sieInvalidNetwork => ks_is)
    (case sveInvalidNetwork => k_is)
    (case noAteInvalidNetwork => k_is)
    (case hgeInvalidNetwork => k_is)
    (case hkeInvalidNetwork => k_is)
    (case hdeInvalidNetwork => k_is)
    (case haeInvalidNetwork => k_is)
    (case hmeInvalidNetwork => k_is)
    (case icleInvalidNetwork => k_is)
    (case sCCeInvalidNetwork => k_is)
    (case xLeInvalidQuestion => k_is)
    (case xVeInvalidQuestion => rfl)
    (case saeInvalidQuestion => k_is)
    (case exCeInvalidQuestion => k_is)
    (case tyCeInvalidQuestion => k_is)
    (case kCeInvalidQuestion => k_is)
    (case iCeInvalidQuestion => k_is)
    (case tIeInvalidQuestion => k_is)
    (case fneInvalidQuestion => k_is)
    (case cdeInvalidQuestion => k_is)
    (case fleInvalidQuestion => k_is)
    (case fveInvalidQuestion => rfl)
    (case fPeInvalidQuestion => (first | rfl | decide +kernel))
    (case ceeInvalidQuestion => k_is)
    (case mreInvalidQuestion => k_is)
    (case sieInvalidQuestion => ks_is)
    (case sveInvalidQuestion => k_is)
    (case noAteInvalidQuestion => k_is)
    (case hgeInvalidQuestion => k_is)
    (case hkeInvalidQuestion => k_is)
    (case hdeInvalidQuestion => k_is)
    (case haeInvalidQuestion => k_is)
    (case hmeInvalidQuestion => k_is)
    (case icleInvalidQuestion => k_is)
    (case sCCeInvalidQuestion => k_is)
    (case opgNetwork => k_is)
    (case ohdNetwork => k_is)
    (case opoNetwork => k_is)
    (case osaNetwork => k_is)
    (case ohaNetwork => k_is)
    (case ohmNetwork => k_is)
    (case omeNetwork => kit_is)
    (case omkNetwork => k_is)
    (case okpNetwork => k_is)
    (case oneNetwork => k_is)
    (case osoNetwork => k_is)
    (case onfNetwork => k_is)
    (case ontNetwork => k_is)
    (case oitNetwork => kit_is)
    (case maNetwork0 => k_is)
    (case miNetwork0 => k_is)
    (case mlNetwork0 => k_is)
    (case mcNetwork0 => k_is)
    (case mpNetwork0 => k_is)
    (case maNetwork1 => k_is)
    (case miNetwork1 => k_is)
    (case mlNetwork1 => k_is)
    (case mcNetwork1 => k_is)
    (case mpNetwork1 => k_is)
    (case maNetwork2 => k_is)
    (case miNetwork2 => k_is)
    (case mlNetwork2 => k_is)
    (case mcNetwork2 => k_is)
    (case mpNetwork2 => k_is)
    (case maNetwork3 => k_is)
    (case miNetwork3 => k_is)
    (case mlNetwork3 => k_is)
    (case mcNetwork3 => k_is)
    (case mpNetwork3 => k_is)
    (case maNetwork4 => k_is)
    (case miNetwork4 => k_is)
    (case mlNetwork4 => k_is)
    (case mcNetwork4 => k_is)
    (case mpNetwork4 => k_is)
    (case naNetworkrows => k_is)
    (case naNetworkmodes => k_is)
    (case naNetworklinks => k_is)
    (case sup => k_is)
    (case any => k_is)
    (case hn => k_is)
    (case ht => k_is)
    (case isnInvalidNetworkNetError => kit_is)
    (case tabs00 => exact hT8 _ (by k_mem))
    (case tabsK0 => first | k_is | kernel_rfl | rfl)
    (case tabs01 => exact hT8 _ (by k_mem))
    (case tabsK1 => first | k_is | kernel_rfl | rfl)
    (case tabs02 => exact hT8 _ (by k_mem))
    (case tabsK2 => first | k_is | kernel_rfl | rfl)
    (case df01 => decide)
    (case df02 => decide)
    (case df10 => decide)
    (case df12 => decide)
    (case df20 => decide)
    (case df21 => decide)
