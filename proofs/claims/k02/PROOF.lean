import PyProof.Rows.All
import Wide.All
import OpenK.AllK
import Wide.FinOn
import KE.DatumIndex
import HandS.ForMost
import HandS.ForExc
import HandS.Lambda
import HandS.ExcInit
import KE.KExcSuper
import HandS.ExcIs
import KE.KExcIs
import HandS.Wide
import HandS.Style
import HandS.TupAny
import HandS.Deep
import HandS.IsInst
import HandS.Conv
import HandS.Flow
import HandS.SortInts
import HandS.Defaults
import HandS.EndTab
import HandS.EndBits
import HandS.Dict
import KE.OsSorts
import PySem.Challenge.RW_handalong_k02_views_in_order
set_option Elab.async false
set_option linter.all false
set_option maxRecDepth 100000
set_option maxHeartbeats 2000000
/-! Guards: a promise of a def under which repr may be asked; repr of data of any depth. -/
namespace NL
open PySem PySem.Spec PyProof.Rows L2

/-- a promise kept wherever no repr is under way -/
structure FnG (P : Program) (w : World) (K : PySem.W.Frag) (mg : Str → Option Value) (base : Heap)
    (CX : CXT) (k : Nat) (f : Addr) (fd : FuncData) (ps : List Str) (sp : Sp) : Prop where
  lenG : ∀ vs H Q E, sp vs H Q E → vs.length = ps.length
  runG : ∀ (A : Around) (outer : List Env) (s : Shared) (H : Hp) (args : Args) (us : List Value)
    (vs : List V) (Q : VK) (E : XK), A.guards = some [] → Room k A → Env0 P w K mg base A outer s H →
      BindsTo s fd args (ps.zip us) → Vals vs us → sp vs H Q E →
      codeAny (model P w) A (.call (.ref f) args) (CR CX outer P w H s Q E) s

section
variable {P : Program} {w : World} {K : PySem.W.Frag} {mg : Str → Option Value} {base : Heap} {CX : CXT}
theorem FnG.ofOk {k f fd ps sp} (F : FnOk P w K mg base CX k f fd ps sp) : FnG P w K mg base CX k f fd ps sp :=
  ⟨F.len, fun A outer s H args us vs Q E _ => F.run A outer s H args us vs Q E⟩
theorem FnG.mono {j k f fd ps sp} (F : FnG P w K mg base CX j f fd ps sp) (h : j ≤ k) : FnG P w K mg base CX k f fd ps sp :=
  ⟨F.lenG, fun A outer s H args us vs Q E hg hr => F.runG A outer s H args us vs Q E hg (hr.mono h)⟩
/-- a def by its body, nothing let out -/
theorem okG {x qual : Str} {st : Stmt} {f : Addr} {fd : FuncData} {N ps : List Str} {k : Nat} {sp : Sp}
    (F : Fun K x qual st f fd) (S : FnScope N ps (defScope st)) (hlen : ∀ vs H Q E, sp vs H Q E → vs.length = ps.length)
    (hb : ∀ (cdv : Value) (A : Around) (outer : List Env) (s : Shared) (H : Hp) (vs : List V) (Q : VK) (E : XK),
      A.guards = some [] → Room k (A.deeper (envOfC qual (defScope st) s.heap.objs.size f cdv)) → sp vs H Q E →
      ∃ t, PSs (cxOf CX0 P w K mg base N qual (defScope st) f cdv A outer s H E).nox (defBody st) t ∧
        t { nx := fun _ H' => Q .non H', rt := Q } (start N vs) H) :
    FnG P w K mg base CX0 (k + 1) f fd ps sp := by
  obtain ⟨oc, od, kV, doc, pm, an, cdv, ct, osl, rfl, lk, hcd⟩ := F.ex
  refine ⟨hlen, fun A outer s H args us vs Q E hg hr e0 hbd r hsp => ?_⟩
  refine LamX.run_ofS lk hcd S hr e0 hbd r (hlen _ _ _ _ hsp) fun hr' => ?_
  obtain ⟨t, h, q⟩ := hb cdv A outer s H vs Q E hg hr' hsp
  exact ⟨t, h.nox, q⟩
/-- a def by its body, which may raise -/
theorem okGX {x qual : Str} {st : Stmt} {f : Addr} {fd : FuncData} {N ps : List Str} {k : Nat} {sp : Sp}
    (F : Fun K x qual st f fd) (S : FnScope N ps (defScope st)) (hlen : ∀ vs H Q E, sp vs H Q E → vs.length = ps.length)
    (hb : ∀ (cdv : Value) (A : Around) (outer : List Env) (s : Shared) (H : Hp) (vs : List V) (Q : VK) (E : XK),
      A.guards = some [] → Room k (A.deeper (envOfC qual (defScope st) s.heap.objs.size f cdv)) → sp vs H Q E →
      ∃ t, PSs (cxOf (L2.CX P w) P w K mg base N qual (defScope st) f cdv A outer s H E) (defBody st) t ∧
        t { nx := fun _ H' => Q .non H', rt := Q } (start N vs) H) :
    FnG P w K mg base (L2.CX P w) (k + 1) f fd ps sp := by
  obtain ⟨oc, od, kV, doc, pm, an, cdv, ct, osl, rfl, lk, hcd⟩ := F.ex
  refine ⟨hlen, fun A outer s H args us vs Q E hg hr e0 hbd r hsp => ?_⟩
  refine LamX.run_ofS lk hcd S hr e0 hbd r (hlen _ _ _ _ hsp) fun hr' => ?_
  exact hb cdv A outer s H vs Q E hg hr' hsp
end

section
variable {X : Cx} {CX : CXT} {k : Nat} {f : Addr} {fd : FuncData} {ps : List Str} {sp : Sp} {dvs : List V} {ds : List Value} {E : XK}
/-- the guarded callee runs -/
theorem run_fnG {pins : List (Addr × Obj)} {σ : L2.St} {H : Hp} {s : Shared} {Q : VK} {us : List Value} {vs : List V}
    (F : FnG X.prog X.w X.K X.mg X.base CX k f fd ps sp) (hgd : X.A.guards = some []) (hr : Room k X.A)
    (hb : Binds X.K fd ps ds) (hd : Vals dvs ds) (hx : Passes CX X E) (I : Inv X pins σ H s) (r : Vals vs us)
    (h : sp (vs ++ dvs) H Q E) : wpAny (model X.prog X.w) X.A (call (.ref f) us) (EP X pins σ Q) X.xe s := by
  have rr := r.append hd
  have hl : (us ++ ds).length = ps.length := rr.length.symm.trans (F.lenG _ _ _ _ h)
  have run := F.runG X.A X.stack s H ⟨us, []⟩ (us ++ ds) (vs ++ dvs) Q E hgd hr I.env0 (hb s us I.kIn hl) rr h
  refine wpAny_call (codeAny_mono run fun res s' hq => ?_)
  match res, hq with
  | .error e, hq => exact hx pins σ H s e s' I hq
  | .ok (.ret u), hq => exact I.after hq
/-- f(e, ..), f a guarded def -/
theorem pe_callG {x : Str} {p pos : Pos} {e : Expr} {es : List Expr} {t : TA}
    (F : FnG X.prog X.w X.K X.mg X.base CX k f fd ps sp) (hgd : X.A.guards = some []) (hr : Room k X.A) (hg : Gl X x)
    (hm : X.mg x = some (.ref f)) (hk : PySem.W.keepIn X.K (.ref f) = true) (hb : Binds X.K fd ps ds) (hd : Vals dvs ds)
    (hx : Passes CX X E) (ha : PA X (e :: es) t) (hdb : (x == ("__debug__" : Str)) = false := by decide)
    (he : starEach (e :: es) X.env = (false, eval e X.env) :: starEach es X.env := by rfl)
    (hpl : (backTo pos (starEach es X.env)).any (·.1) = false := by rfl) :
    PE X (.Call (.Name x p) (e :: es) [] pos) (tCall sp dvs E t) := by
  constructor
  intro pins s σ H Q I h
  refine wpAny_Call_Name_kw (ld_glob I hg hm ?_ hdb)
  have step := thn (Q' := fun us s1 => X.K.In s1.heap ∧ wpAny (model X.prog X.w) X.A (call (.ref f) us) (EP X pins σ Q) X.xe s1)
    (ha.run pos pins s σ H _ I h) fun us s1 ⟨vs, H1, I1, r, q⟩ => ⟨I1.kIn, run_fnG F hgd hr hb hd hx I1 r q⟩
  exact PySem.W.callWith_K (h₀ := X.base) I.ok.mod.kin hk step he hpl
end

/-! ### repr -/
def rRepr (K : PySem.W.Frag) : List V → Hp → VK → Prop := fun xs H Q => ∃ x d, xs = [x] ∧ Dp K H x d ∧
  d.showable = true ∧ d.hasDict = false ∧ d.depth ≤ 60 ∧ d.shown.length ≤ sizeLine ∧ Q (.str d.shown) H
section
variable {X : Cx}
theorem call_repr (hg : X.A.guards = some []) (hu : X.A.units + 64 < cLine) : CallR X (.builtin "repr") (rRepr X.K) := by
  intro pins s σ H xs us Q I r h
  obtain ⟨x, d, rfl, hd, hsh, hnd, hdp, hz, q⟩ := h
  obtain ⟨u, rfl, ru⟩ := vals1 r
  obtain ⟨as, R⟩ := Dp.reads I d x u hd ru
  cases hd with
  | non =>
    cases (show u = Value.none from ru)
    exact PySem.P.repr_of_none ⟨.str _, H, I.tok _, ⟨_, rfl⟩, q⟩
  | bl b =>
    cases (show u = Value.bool b from ru)
    exact PySem.P.repr_of_bool ⟨.str _, H, I.tok _, ⟨_, rfl⟩, q⟩
  | int i =>
    obtain ⟨t, rfl⟩ := ru
    exact PySem.P.repr_of_int (of_decide_eq_true hsh) ⟨.str _, H, I.tok _, ⟨_, rfl⟩, q⟩
  | str y =>
    obtain ⟨t, rfl⟩ := ru
    exact PySem.P.repr_of_str ⟨.str _, H, I.tok _, ⟨_, rfl⟩, q⟩ hz
  | lst h1 h2 =>
    rename_i a ys ds
    cases (show u = Value.ref a from ru)
    exact repr_of_reads' R hsh (fun e => by rw [hnd] at e; cases e) hg (by omega) (fun _ _ e => e)
      (fun h' tk0 tk hk => ⟨.str _, H, I.kept hk, ⟨_, rfl⟩, q⟩) hz
  | tup h1 h2 =>
    rename_i a ys ds
    cases (show u = Value.ref a from ru)
    exact repr_of_reads' R hsh (fun e => by rw [hnd] at e; cases e) hg (by omega) (fun _ _ e => e)
      (fun h' tk0 tk hk => ⟨.str _, H, I.kept hk, ⟨_, rfl⟩, q⟩) hz
end
end NL
set_option maxRecDepth 100000
set_option maxHeartbeats 2000000
/-! The end of a law by a guarded promise. -/
namespace NL
open PySem PySem.Spec PyProof.Rows L2

/-- what is tracked at the entry: the script alone, if it is no object of the module -/
structure AtEntry (K : PySem.W.Frag) (a : Addr) (ob : Obj) (xs : List V) (H : Hp) : Prop where
  one : ∀ b u, H b = some u → b = a ∧ u = .frz ob (.lst xs)
  own : ∀ u, H a = some u → K.lookup a = none
  red : SqL K H a xs

theorem entry_mk {K : PySem.W.Frag} {h : Heap} {a : Addr} {us : List Value} {xs : List V} (KX : K.In h)
    (ha : h.get? a = some { cls := .type "list", data := .seq us.toArray }) (r : Vals xs us) (hz : us.length ≤ sizeLine) :
    ∃ H : Hp, AtEntry K a { cls := .type "list", data := .seq us.toArray } xs H := by
  cases hk : K.lookup a with
  | some o =>
    have e := (KX a o hk).symm.trans ha
    cases e
    exact ⟨fun _ => none, fun b u e => (nomatch e), fun u e => (nomatch e),
      .inr ⟨_, us.toArray, _, hk, rfl, rfl, rfl, by simpa using hz, by simpa using r⟩⟩
  | none =>
    refine ⟨fun b => if b = a then some (.frz { cls := .type "list", data := .seq us.toArray } (.lst xs)) else none,
      fun b u e => ?_, fun _ _ => hk, .inl (.inr ⟨_, if_pos rfl⟩)⟩
    by_cases hb : b = a
    · have e' := (if_pos hb).symm.trans e
      exact ⟨hb, (Option.some.inj e').symm⟩
    · have e' := (if_neg hb).symm.trans e
      cases e'

theorem call_law {P : Program} {w : World} {K : PySem.W.Frag} {mg mb : Str → Option Value} {CX : CXT} {k : Nat} {fa a : Addr}
    {fd : FuncData} {x : Str} {sp : Sp} {s₁ : Shared} {us : List Value} {ns : List Int}
    (KX : K.In s₁.heap) (hns : s₁.heap.Ns mainGlobals mg) (hb : s₁.heap.Ns builtinsNs mb)
    (hbb : ∀ x : Str, x ≠ "__name__" → mb x = bootBuiltins x) (hlim : s₁.heap.NoLimit) (hg : s₁.gens = #[])
    (ha : s₁.heap.get? a = some { cls := .type "list", data := .seq us.toArray }) (hi : IntsAre us ns)
    (hl : ns.length ≤ sizeLine) (hr : Room k callerA)
    (F : ∀ base : Heap, K.In base → base.Ns mainGlobals mg → FnG P w K mg base CX k fa fd [x] sp)
    (hbind : ∀ (s : Shared) (u : Value), BindsTo s fd ⟨[u], []⟩ [(x, u)])
    (hsp : ∀ H : Hp, SqL K H a (ns.map V.int) → sp [.ref a] H (fun v _ => v = .bl true) fun _ _ _ => False)
    (hCX : ∀ H e s', CX [] H s₁ (fun _ _ _ => False) e s' → False) :
    codeAny (model P w) callerA (.call (.ref fa) ⟨[.ref a], []⟩)
      (fun r s' => r = .ok (.ret (.bool true)) ∧ OldK s₁.heap s'.heap ∧ s'.os = s₁.os ∧ AllBare s'.gens) s₁ := by
  have rv := vals_ints hi
  have hlu : us.length ≤ sizeLine := by
    rw [← hi.length] at hl
    exact hl
  obtain ⟨H, E⟩ := entry_mk KX ha rv hlu
  have still : ∀ {b : Addr} {o : Obj}, s₁.heap.get? b = some o → H b = none → (hidT s₁.heap H).get? b = some o := fun e n => hidT_get e n
  have noDict : ∀ {b : Addr} {o : Obj} {es : Array DictEntry} {ep : Nat}, s₁.heap.get? b = some o → o.data = .dict es ep → H b = none := by
    intro b o es ep e d
    match hb : H b with
    | none => rfl
    | some u =>
      obtain ⟨rfl, _⟩ := E.one b u hb
      rw [ha] at e
      cases e
      cases (show Data.seq us.toArray _ = Data.dict es ep from d)
  have ns' : ∀ {b : Addr} {m : Str → Option Value}, s₁.heap.Ns b m → (hidT s₁.heap H).Ns b m := by
    intro b m q
    obtain ⟨o, es, ep, e, d, r⟩ := q
    exact ⟨o, es, ep, still e (noDict e d), d, r⟩
  have KB : K.In (hidT s₁.heap H) := by
    intro b o e
    refine still (KX b o e) ?_
    match hb : H b with
    | none => rfl
    | some u =>
      obtain ⟨rfl, _⟩ := E.one b u hb
      rw [E.own u hb] at e
      cases e
  have lim' : (hidT s₁.heap H).NoLimit := by
    obtain ⟨mc, h1, h2⟩ := hlim
    exact ⟨mc, ns' h1, h2⟩
  have hok : HOk P w H s₁.heap := by
    intro b u e
    obtain ⟨rfl, rfl⟩ := E.one b u e
    exact ⟨ha, by rw [List.length_map]; exact hl, us, _, rv, ha⟩
  have e0 : Env0 P w K mg (hidT s₁.heap H) callerA [] s₁ H :=
    { frames := rfl, mod := ⟨KB, ns' hns, ⟨mb, ns' hb, hbb⟩, lim'⟩, bs := fun b o e => of_hidT e,
      bsz := Nat.le_of_eq (hidT_size _ _), funs := trivial, frf := fun b z => absurd (show b ∈ ([] : List Addr) from z) (by simp),
      hok := hok, bare := .of_eq hg }
  have run := (F _ KB (ns' hns)).runG callerA [] s₁ H ⟨[.ref a], []⟩ [.ref a] [.ref a] (fun v _ => v = .bl true) (fun _ _ _ => False)
    rfl hr e0 (hbind s₁ (.ref a)) (.cons rfl .nil) (hsp H E.red)
  refine codeAny_mono run fun res s' hq => ?_
  match res, hq with
  | .error e, hq => exact (hCX H e s' hq).elim
  | .ok (.ret u), hq =>
    obtain ⟨v, H', os, bare, un, hok', r', q⟩ := hq
    subst q
    obtain rfl : u = Value.bool true := r'
    refine ⟨rfl, OldK.of_keep fun b o e => ?_, os, bare⟩
    match hb : H b with
    | none => exact un.keep b o e hb (fun z => absurd (show b ∈ ([] : List Addr) from z) (by simp)) (by simp)
    | some u =>
      obtain ⟨rfl, rfl⟩ := E.one b u hb
      obtain ⟨e1, _⟩ := hok b _ hb
      obtain ⟨e2, _⟩ := hok' b _ (un.frzs b _ _ hb)
      rw [e] at e1
      cases e1
      exact e2

/-- the goal that k_head leaves, from a guarded promise of the law's def -/
theorem walkG {l : PySem.W.OpenLaw} {n k : Nat} {q : Program} {loose : List Str} {XP : (Str → Option Value) → Heap → Prop}
    {YP : World → Heap → Prop} {d : DefRec} {K : Params → PySem.W.Frag} {CX : CXT} {sp : PySem.W.Frag → Sp} {x : Str}
    (hn : l.most = some n) (hn2 : n ≤ sizeLine) (hdf : d.params.defaults = []) (hr : Room k callerA)
    (hY : ∀ (w : World) (h : Heap), YP w h → (K w.params).In h)
    (F : ∀ (w : World) (mg : Str → Option Value) (fa : Addr) (h : Heap), (K w.params).In h → h.Ns mainGlobals mg → mg d.name = some (.ref fa) →
      ∃ fd : FuncData, (∀ (s : Shared) (u : Value), BindsTo s fd ⟨[u], []⟩ [(x, u)]) ∧
        ∀ base : Heap, (K w.params).In base → base.Ns mainGlobals mg → FnG l.prog w (K w.params) mg base CX k fa fd [x] (sp (K w.params)))
    (hsp : ∀ (K : PySem.W.Frag) (H : Hp) (a : Addr) (ns : List Int), ns.length ≤ n → SqL K H a (ns.map V.int) →
      sp K [.ref a] H (fun v _ => v = .bl true) fun _ _ _ => False)
    (hCX : ∀ (H : Hp) (s : Shared) (e : Value) (s' : Shared), CX [] H s (fun _ _ _ => False) e s' → False) :
    PySem.W.WalkO q loose XP YP l.row.toRowW d [] (fun f vs => PySem.call f vs) := by
  refine Att.attach_call hn hdf fun w s₀ s₁ mg mb fa o pm cd doc a vs ns G Y ho hd hcd hmg hobj hints hlen hg => ?_
  obtain ⟨fd, hb, hF⟩ := F w mg fa _ (hY w _ Y) G.T.g hmg
  exact call_law (hY w _ Y) G.T.g G.T.b G.T.builtins G.T.nolimit hg hobj hints (Nat.le_trans hlen hn2) hr hF hb
    (fun H hS => hsp _ H a ns hlen hS) fun H e s' => hCX H s₁ e s'
end NL
set_option maxRecDepth 100000
set_option maxHeartbeats 4000000
/-! Own errors whose __init__ says super().__init__(text) and, mostly, self.at = at. -/
namespace NL
open PySem PySem.Spec PyProof.Rows PySem.W PySem.Calls

/-- super().__init__, bound, called with some text -/
theorem ve_bound {prog : Program} {w : World} {A : Around} {E : Value → Shared → Prop} {h : Heap} {g : Array GenState} {d : Drawn} {t : Nat} {os : OsState}
    {nm q : Str} {C N : Addr} {bs bm : List Value} {hdct : Bool} {sn : List Str} {sub : List Value} {ab : Bool} {col : Option Bool} {dd : Option Addr} {k0 k1 k2 k3 k5 : Option Value}
    {u e t0 : Addr} {rest : List Value} {Q : Value → Shared → Prop}
    (hC : h.get? C = some (excClassObj nm q C N bs bm hdct sn sub ab col dd k0 k1 k2 k3 k5 "ValueError.__new__"))
    (he : h.get? e = some (excObj C t0 none .none)) (hu : h.get? u = some (kxs_mw "ValueError.__init__" e)) (hz : rest.length ≤ sizeLine)
    (hq : ∀ h' t1, (∀ b o, b ≠ e → h.get? b = some o → h'.get? b = some o) → h'.get? e = some (excObj C t1 none .none) → Q .none ⟨h', g, d, t, os⟩) :
    wpAny (model prog w) A (call (.ref u) rest) Q E ⟨h, g, d, t, os⟩ := by
  have tests : (Value.type "method-wrapper" == Value.type "method" || Value.type "method-wrapper" == Value.type "builtin_function_or_method" ||
      Value.type "method-wrapper" == Value.type "method-wrapper") = true := by decide
  refine wpAny_call (codeAny_of_tree ?_)
  show wpAny _ A.in1 (callAny (.ref u) ⟨rest, []⟩) _ _ _
  simp only [callAny]
  refine wpAny_bind (wpAny_load hu ?_)
  simp only [kxs_mw, tests, if_true]
  refine KFB.if_so (by decide) ?_
  have FB := F.excBase_ValueError
  refine wpAny_bind (check_bound_init FB.toExcCallFacts hC he rfl ?_)
  refine wpAny_bind (wpAny_pure (wpAny_pure ?_))
  refine ⟨plainId_quiet FB.init.plain _, codeAny_builtin FB.initEntry ?_⟩
  refine exc_init_tree (cls := .ref C) (t0 := t0) (dv := none) (c2 := .none) (c3 := .none) (b4 := .bool false) he hz ?_
  intro h' k e1 _
  exact hq h' _ k e1

/-- the names of __init__(self, at) | __init__(self) -/
abbrev atScope : Scope := { kind := .function, names := [(PySem.Str.ofString "self", .local), (PySem.Str.ofString "at", .local),
  (PySem.Str.ofString "__class__", .free), (PySem.Str.ofString "super", .globalImplicit)], isGenerator := false, isCoroutine := false, more := [] }
abbrev noScope : Scope := { kind := .function, names := [(PySem.Str.ofString "self", .local),
  (PySem.Str.ofString "__class__", .free), (PySem.Str.ofString "super", .globalImplicit)], isGenerator := false, isCoroutine := false, more := [] }
/-- how super().__init__(text) is read, at its places -/
def SuperCall (msg : Str) (j : Nat) (p0 p1 p2 p3 p4 : Pos) : Prop := ∀ env : Env, ∃ pl : Sem Bool,
  eval (.Call (.Attribute (.Call (.Name "super" p0) [] [] p1) "__init__" p2) [.Constant (.str msg) j p3] [] p4) env = (do
    let ov ← attributeBase (.Call (.Name "super" p0) [] [] p1) "__init__" env (eval (.Call (.Name "super" p0) [] [] p1) env)
    standAt p2.atName
    let (f, first) ← holding [ov] (getMethod ov "__init__" pl)
    callWith p4 f first (backTo p4 (starEach [.Constant (.str msg) j p3] env)) [])
example : SuperCall "invalid question" 0 ⟨7, 8, 7, 13⟩ ⟨7, 8, 7, 15⟩ ⟨7, 8, 7, 24⟩ ⟨7, 25, 7, 43⟩ ⟨7, 8, 7, 44⟩ := fun _ => ⟨_, rfl⟩
/-- what the written part says of an error's class at C, its __init__ at fI, the cell of __class__ at cc, the code at cda -/
structure ErrF (P : Program) (K : Frag) (C fI cc cda : Addr) (qual : Str) (params : Arguments) (body : List Stmt) (scope : Scope) : Prop where
  ox : L2.OexC K C
  iC : findIn K (.ref C) "__init__" = some (some (.ref fI))
  tI : typeIn K (.ref fI) = some (.type "function")
  fn : ∃ oc od doc pm an ct osl, K.lookup fI = some ⟨oc, od, .func (ksFn "__init__" qual params body scope .none .none doc pm an (.ref cda) ct cc), osl⟩
  cd : codeIn K (.ref cda) qual = true
  fl : ∃ ccl cdd vs ccs file tf, K.lookup cda = some ⟨ccl, cdd, .fields vs, ccs⟩ ∧ vs[2]? = some (.str file tf) ∧ ((P.main.file : Str) == file) = true
  ce : ∃ cl cld csl, K.lookup cc = some ⟨cl, cld, .cell (some (.ref C)), csl⟩
  sub : mroIn K C (.ref C) = some true
  sup : nsIn K mainGlobals "super" = some none
  any : nsIn K cStatics "thirdparty.any" = some none
  si : ks_superIn K C C "__init__" = some (some (.builtin "ValueError.__init__"))
  sv : subIn K (.ref C) (.type "ValueError") = some true
  top : (P.main.scope.names.lookup ("super" : Str)).isSome = false

section
variable {P : Program} {w : World} {A : Around} {E : Value → Shared → Prop} {s : Shared} {K : Frag} {C fI cc cda : Addr} {qual : Str} {params : Arguments} {body : List Stmt} {scope : Scope} {mg : Str → Option Value}

theorem exprConst {M : Model} {env : Env} {x : Str} {j : Nat} {p pos : Pos} {Q : List Value → Shared → Prop} (h : ∀ t, Q [.str x t] { s with toks := s.toks + 1 }) :
    wpAny M A (spliced (backTo pos (starEach [.Constant (.str x) j p] env))) Q E s := by
  refine Calls.spliced_cons (wpAny_Constant_str (k := j) (pos := p) ?_)
  exact Calls.spliced_nil (h s.toks)

/-- the statement super().__init__(text) in the __init__ of a new error at x -/
theorem super_init {L x t0 : Addr} {m : Str → Option Value} {mb : Str → Option Value} {ar : Arg} {msg : Str} {j : Nat} {p0 p1 p2 p3 p4 p5 : Pos} {Q : Flow → Shared → Prop}
    (T : ErrF P K C fI cc cda qual params body scope) (X : K.In s.heap) (hns : s.heap.Ns L m) (hmx : m ar.arg = some (.ref x))
    (hg : s.heap.Ns mainGlobals mg) (hmg : mg "super" = none) (hb : s.heap.Ns builtinsNs mb) (hbb : mb "super" = bootBuiltins "super")
    (hx : s.heap.get? x = some (excObj C t0 none .none))
    (hp : (params.posonlyargs ++ params.args).head? = some ar) (hsc : (scope = atScope ∨ scope = noScope) ∧ ar.arg = "self")
    (he : SuperCall msg j p0 p1 p2 p3 p4)
    (hq : ∀ h' tk t1, (∀ b o, b ≠ x → s.heap.get? b = some o → h'.get? b = some o) → h'.get? x = some (excObj C t1 none .none) → Q .next { s with heap := h', toks := tk }) :
    PySem.wpAt (model P w) A (.func body (ksEnv qual scope L fI (.ref cda) cc))
      (exec (.Expr (.Call (.Attribute (.Call (.Name "super" p0) [] [] p1) "__init__" p2) [.Constant (.str msg) j p3] [] p4) p5) (ksEnv qual scope L fI (.ref cda) cc)) Q E s := by
  have hk : scope.kind = .function := by rcases hsc.1 with rfl | rfl <;> rfl
  have hka : scope.names.lookup ar.arg = some .local := by rw [hsc.2]; rcases hsc.1 with rfl | rfl <;> rfl
  have hks : scope.names.lookup ("super" : Str) = some .globalImplicit := by rcases hsc.1 with rfl | rfl <;> rfl
  have hkc : scope.names.lookup ("__class__" : Str) = some .free := by rcases hsc.1 with rfl | rfl <;> rfl
  obtain ⟨oc, od, doc, pm, an, ct, osl, hf⟩ := T.fn
  obtain ⟨ccl, cdd, vs, ccs, file, tf, hcode, hvs, hfile⟩ := T.fl
  obtain ⟨cl, cld, csl, hcell⟩ := T.ce
  obtain ⟨nm, q, N, bs, bm, sn, sub, ab, col, dd, k0, k1, k2, k3, k5, hC, hbm⟩ := T.ox.cls
  have hcl : clsIn K C = some { name := nm, bases := bs, mro := .ref C :: bm, ns := N, qualname := q, hasDict := true, slotNames := sn, subclasses := sub, abstract := ab, collection := col, hasDel := false } := by
    unfold clsIn
    rw [hC]
    all_goals rfl
  obtain ⟨hh, g, d, t, os⟩ := s
  have hCo := X _ _ hC
  have IA : InstAt hh x (excObj C t0 none .none) C none := ⟨hx, rfl, rfl, trivial⟩
  have hxC : x ≠ C := ks_ne X IA hcl
  obtain ⟨pl, he⟩ := he (ksEnv qual scope L fI (.ref cda) cc)
  refine ks_wpAt_Expr_any (hi := by rcases hsc.1 with rfl | rfl <;> rfl) (hs := by rcases hsc.1 with rfl | rfl <;> rfl) (ks_wpAt_MethodCall (he := he) (ks_wpAt_super_base (env := ksEnv qual scope L fI (.ref cda) cc) hks hkc (by decide) rfl (X _ _ hf) rfl hp rfl (X _ _ hcode) rfl hvs hfile T.top ?_))
  refine ks_loadName_global hk hks (loadGlobal_builtin (env := ksEnv qual scope L fI (.ref cda) cc) hg hmg hb (hbb.trans (by decide +kernel : bootBuiltins "super" = some (.type "super"))) ⟨rfl, ?_⟩)
  refine wpAny_loadName_free hk hkc rfl ⟨_, X _ _ hcell, rfl⟩ ?_
  refine wpAny_loadName_local hk hka hns hmx ?_
  refine ks_wpAny_isType_cls hCo rfl ⟨rfl, ?_⟩
  refine ks_wpAny_call_super hCo rfl hx rfl (fun c e => by cases e) (looks_mroIn X T.sub) (fun h' e k => ?_)
  have X' : K.In h' := X.keeps k
  have hsi := T.si
  unfold ks_superIn at hsi
  rw [hcl] at hsi
  have hx' := k _ _ hx
  have IA' : InstAt h' x (excObj C t0 none .none) C none := ⟨hx', rfl, rfl, trivial⟩
  have hI : Looks (model P w) h' (isInstance (.ref x) (.type "ValueError")) true := IA'.type.andThen (looks_subIn X' T.sv)
  refine kxs_getMethod kxs_ValueError e (looks_opaque X' T.any) (l₀ := .ref C :: bm) ?_ rfl X' hsi hI hxC (by decide) ?_
  · exact fun A Q E s k q => wpAny_bind ((looks_clsIn X' hcl) A _ E s k (wpAny_pure q))
  have hm : (h'.push (kxs_mw "ValueError.__init__" x)).get? h'.objs.size = some (kxs_mw "ValueError.__init__" x) := Heap.get?_push_at rfl rfl
  have kk : ∀ b o, hh.get? b = some o → (h'.push (kxs_mw "ValueError.__init__" x)).get? b = some o := fun b o z => Heap.get?_push_of_some _ (k _ _ z)
  show wpAny _ _ (callWith _ (.ref h'.objs.size) [] _ []) _ _ _
  refine kxs_callWith (i := "ValueError.__init__") (x := x) rfl ?_
  refine evalArgs_plain (exprConst fun tk => ⟨hm, ?_⟩)
  refine ve_bound (kk _ _ hCo) (kk _ _ hx) hm (by rw [sizeLine_eq]; show 1 ≤ 16777216; decide) fun h2 t1 k2 e2 => ?_
  exact hq h2 _ t1 (fun b o hb z => k2 b o hb (kk b o z)) e2
end
end NL
namespace NL
open PySem PySem.Spec PyProof.Rows L2
/-- __init__(self, at): the new error bears at -/
def spErr (C : Addr) : Sp := fun vs H Q _ => ∃ (a : Addr) (v : V), vs = [.ref a, v] ∧ H a = some (exo a C none) ∧
  ∀ d, H d = none → d ≠ a → Q .non (upd (upd H d (exd d [("at", v)])) a (exo a C (some d)))

theorem exo_eq {a C t : Addr} : PySem.W.excObj C t none .none = { cls := .ref C, dict := none, data := .fields #[.ref t, .none, .none, .none, .bool false, .none] } := rfl

section
variable {P : Program} {w : World} {K : PySem.W.Frag} {mg : Str → Option Value} {base : Heap} {C fI cc cda : Addr} {qual : Str} {params : Arguments} {fd : FuncData}
open PySem.W in
theorem err_init {k j : Nat} {ar : Arg} {msg : Str} {p0 p1 p2 p3 p4 p5 q1 q2 q3 q4 : Pos}
    (T : ErrF P K C fI cc cda qual params [.Expr (.Call (.Attribute (.Call (.Name "super" p0) [] [] p1) "__init__" p2) [.Constant (.str msg) j p3] [] p4) p5,
      .Assign [.Attribute (.Name "self" q1) "at" q2] (.Name "at" q3) q4] atScope)
    (hfd : ∃ doc pm an ct, fd = ksFn "__init__" qual params [.Expr (.Call (.Attribute (.Call (.Name "super" p0) [] [] p1) "__init__" p2) [.Constant (.str msg) j p3] [] p4) p5,
      .Assign [.Attribute (.Name "self" q1) "at" q2] (.Name "at" q3) q4] atScope .none .none doc pm an (.ref cda) ct cc ∧
      ∃ oc od osl, K.lookup fI = some ⟨oc, od, .func fd, osl⟩)
    (hp : (params.posonlyargs ++ params.args).head? = some ar) (har : ar.arg = "self")
    (he : SuperCall msg j p0 p1 p2 p3 p4) (noAt : findIn K (.ref C) "at" = some none) :
    FnOk P w K mg base CX0 (k + 1) fI fd ["self", "at"] (spErr C) := by
  obtain ⟨doc, pm, an, ct, rfl, oc, od, osl, hf⟩ := hfd
  refine ⟨fun vs H Q E h => ?_, fun A outer s H args us vs Q E hr e0 hb r hsp => ?_⟩
  · obtain ⟨a, v, rfl, _⟩ := h
    rfl
  obtain ⟨x, v, rfl, hx0, hq⟩ := hsp
  cases r with
  | cons r1 r2 =>
  rename_i u1 us1
  cases r2 with
  | cons r2 r3 =>
  rename_i u us2
  cases r3
  obtain rfl : u1 = Value.ref x := r1
  have KX : K.In s.heap := e0.mod.kin.keeps fun b o e => (e0.bs b o e).1
  have lim : s.heap.NoLimit := e0.mod.nolimit.keeps fun b o e => (e0.bs b o e).1
  have kb : ∀ {b m}, base.Ns b m → s.heap.Ns b m := fun {b m} q => q.keeps fun b o e => (e0.bs b o e).1
  obtain ⟨mb, hmb, hbb⟩ := e0.mod.blt
  obtain ⟨t0, hx⟩ := exo_at e0.hok hx0
  obtain ⟨nm, q, N, bs, bm, sn, sub, ab, col, dd, k0, k1, k2, k3, k5, hC, hbm⟩ := T.ox.cls
  have hcl : clsIn K C = some { name := nm, bases := bs, mro := .ref C :: bm, ns := N, qualname := q, hasDict := true, slotNames := sn, subclasses := sub, abstract := ab, collection := col, hasDel := false } := by
    unfold clsIn
    rw [hC]
    all_goals rfl
  refine ks_codeAny_call_defAt (binds := [("self", Value.ref x), ("at", u)]) hr.depth (KX _ _ hf) rfl lim (codeRec_of KX T.cd) rfl hb (show ∀ y ∈ atScope.names, y.2 ≠ .cell by decide)
    (fun y hy => by rcases List.mem_cons.mp hy with rfl | hy; · rfl
                    · rcases List.mem_cons.mp hy with rfl | hy; · rfl
                      · cases hy) (fun h₀ hns kp => ?_)
  have hxL : s.heap.objs.size ≠ x := Nat.ne_of_gt (Heap.lt_size hx)
  refine ks_wpAt_execs_cons (super_init (mg := mg) (mb := mb) T (KX.keeps kp) hns (by rw [har]; rfl) ((kb e0.mod.glob).keeps kp) (mg_none_of e0.mod.kin e0.mod.glob T.sup)
    ((kb hmb).keeps kp) (hbb _ (by decide)) (kp _ _ hx) hp ⟨.inl rfl, har⟩ he fun h1 tk t1 kq hx1 => ?_)
  show PySem.wpAt _ _ _ (execs _ _) _ _ _
  refine wpAt_of_wpAny (wpAny_execs_cons (plainObj_wpAny_Assign_Attribute ?_ (by rfl)))
  have hn1 : h1.Ns s.heap.objs.size (fun y => ([("self", Value.ref x), ("at", u)] : List (Str × Value)).reverse.lookup y) := by
    obtain ⟨oL, es, ep, hL, rr⟩ := hns
    exact ⟨oL, es, ep, kq _ _ hxL hL, rr⟩
  refine wpAny_Name (wpAny_loadName_local (v := u) rfl rfl hn1 rfl ?_) (by decide)
  refine wpAny_Name (wpAny_loadName_local (v := .ref x) rfl rfl hn1 rfl ?_) (by decide)
  have k1' : ∀ b o, b ≠ x → s.heap.get? b = some o → h1.get? b = some o := fun b o hb z => kq b o hb (kp b o z)
  have X1 : K.In h1 := fun b o z => by
    refine k1' b o ?_ (KX b o z)
    rintro rfl
    rw [e0.mod.kin b o z |> e0.bs b o |>.2] at hx0
    cases hx0
  refine set_plain X1 (ox := excObj C t1 none .none) (od := none) ⟨hx1, rfl, rfl, trivial⟩ T.ox.sa ?_
  refine PySem.HandSPX.exc_osa X1 hx1 hcl (show PySem.HandSPX.refsVE (.ref C :: bm) = true from hbm) rfl noAt (fun h3 tk3 dx k3 dn dne hx3 hn3 => ?_)
  refine wpAny_execs_nil ?_
  have keep : ∀ b o, b ≠ x → s.heap.get? b = some o → h3.get? b = some o := fun b o hb z => k3 b o hb (k1' b o hb z)
  have nx : ∀ {b : Addr}, H b = none → b ≠ x := fun {b} n z => by
    rw [z, hx0] at n
    cases n
  have ltd : ∀ {b : Addr} {o : Obj}, b ≠ x → s.heap.get? b = some o → b ≠ dx := fun {b o} hb z => Nat.ne_of_lt (Nat.lt_of_lt_of_le (Heap.lt_size (k1' b o hb z)) dn)
  have big : s.heap.objs.size < dx := Nat.lt_of_lt_of_le hn1.lt dn
  have hd : H dx = none := e0.hok.fresh (Nat.le_of_lt big)
  refine ⟨.non, _, rfl, e0.bare, ⟨fun b o z n _ _ => keep b o (nx n) z, fun b o z n _ _ => ⟨o.slots, keep b o (nx n) z⟩, fun b o z n _ => ?_, fun b o z _ => ?_,
    fun b xs z => ?_, fun b o v z => ?_, fun b ps z => ⟨#[], ?_⟩⟩, ?_, rfl, hq dx hd dne⟩
  · rw [upd_ne (nx n), upd_ne (ltd (nx n) z)]
    exact n
  · by_cases hb : b = x
    · exact ⟨_, by rw [hb]; exact hx3⟩
    · exact ⟨o, keep b o hb z⟩
  · rw [upd_ne (at_ne hx0 z exo_tup), upd_ne (ne_of_none z hd)]
    exact z
  · rw [upd_ne (at_ne hx0 z exo_frz), upd_ne (ne_of_none z hd)]
    exact z
  · rw [upd_ne (at_ne hx0 z exo_tbl), upd_ne (ne_of_none z hd), z]
    simp
  · intro b o z
    by_cases hb : b = x
    · subst hb
      rw [upd_same] at z
      cases z
      exact exo_ok hx3
    · rw [upd_ne hb] at z
      by_cases hbd : b = dx
      · subst hbd
        rw [upd_same] at z
        cases z
        exact exd_ok hn3 (relO_put (fs := []) r2 fun g => True.intro)
      · rw [upd_ne hbd] at z
        refine (e0.hok b o z).stay (fun c y hc zz => keep c y ?_ zz) (fun c hc => ?_) fun c xs hc => ?_
        · rcases hc with rfl | hc
          · exact hb
          · exact at_ne hx0 hc exo_own
        · rw [upd_ne (at_ne hx0 hc exo_own), upd_ne (ne_of_none hc hd)]
          exact hc
        · rw [upd_ne (at_ne hx0 hc exo_tup), upd_ne (ne_of_none hc hd)]
          exact hc
end
end NL
set_option maxRecDepth 100000
set_option maxHeartbeats 4000000
/-! Own errors raised, heard, looked at. -/
namespace NL
open PySem PySem.Spec PyProof.Rows L2

/-- an error's class as the def's of the text see it: its name x, its address C -/
structure ErrK (P : Program) (K : PySem.W.Frag) (mg : Str → Option Value) (x : Str) (C : Addr) : Prop where
  gC : mg x = some (.ref C)
  ox : OexC K C
  ini : ∃ fI fd, PySem.W.findIn K (.ref C) "__init__" = some (some (.ref fI)) ∧ PySem.W.typeIn K (.ref fI) = some (.type "function") ∧
    Binds K fd ["self", "at"] [] ∧ ∀ (w : World) (base : Heap), FnOk P w K mg base CX0 1 fI fd ["self", "at"] (spErr C)
  ec : ExcC K C
  noAt : PySem.W.findIn K (.ref C) "at" = some none
  te : PySem.W.exmOne K (.ref C) (.ref C) = some true

/-- X(e), the new error: it bears the value of e -/
def tMkErr (C : Addr) (ta : TA) : L2.St → Hp → XK → Prop := fun σ H Q => ta σ H fun vs H1 => ∃ v, vs = [v] ∧
  ∀ d, H1 d = none → Q (.ref C) (some d) (upd H1 d (.xd [("at", v)]))
section
variable {X : Cx} {x : Str} {C : Addr} {e : Expr} {ta : TA} {p pos : Pos}
theorem err_heap {H : Hp} {a d : Addr} {o1 o2 o3 o4 : HO} (ha : H a = none) (hd : H d = none) (ne : d ≠ a) :
    upd (L2.del (upd (upd (upd H a o1) d o2) a o3) a) d o4 = upd H d o4 := by
  funext b
  by_cases hbd : b = d
  · subst hbd
    rw [upd_same, upd_same]
  · rw [upd_ne hbd, upd_ne hbd]
    by_cases hba : b = a
    · subst hba
      rw [del_same, ha]
    · rw [del_ne hba, upd_ne hba, upd_ne hbd, upd_ne hba]
theorem pmk_err (T : ErrK X.prog X.K X.mg x C) (hr : Room 2 X.A) (ha : PA X [e] ta) (hg : Gl X x := by rfl)
    (hdb : (x == ("__debug__" : Str)) = false := by decide) (he : starEach [e] X.env = (false, eval e X.env) :: starEach [] X.env := by rfl)
    (hpl : (backTo pos (starEach [] X.env)).any (·.1) = false := by rfl) : PMk X (.Call (.Name x p) [e] [] pos) (tMkErr C ta) := by
  obtain ⟨fI, fd, i1, i2, i3, i4⟩ := T.ini
  intro pins s σ H Q I h
  have ha' : PA X [e] (fun σ H Q => ∃ Q0 : List V → Hp → Prop, ta σ H Q0 ∧ ∀ vs H1, Q0 vs H1 → Q vs H1) := by
    constructor
    intro pos pins s σ H Q I h
    obtain ⟨Q0, h, k⟩ := h
    exact thn (ha.run pos pins s σ H Q0 I h) fun us s1 ⟨vs, H1, I1, r, q⟩ => ⟨vs, H1, I1, r, k _ _ q⟩
  refine pmk_oex (x := x) (p := p) (pos := pos) (dvs := []) (ds := []) T.ox i1 i2 (i4 X.w X.base) hr i3 .nil pass0 hg T.gC ha' hdb he hpl pins s σ H Q I ?_
  refine ⟨_, h, fun vs H1 q => ?_⟩
  obtain ⟨v, rfl, q⟩ := q
  refine ⟨(show 1 ≤ 1000 by decide), fun a na => ?_⟩
  refine ⟨a, v, rfl, upd_same, fun d hd ne => ⟨rfl, d, [(("at" : Str), v)], upd_same, ?_, ?_, ?_⟩⟩
  · rw [upd_ne ne, upd_same]
  · rw [upd_ne ne] at hd
    exact hd
  · rw [upd_ne ne] at hd
    rw [err_heap na hd ne]
    exact q d hd
end

/-! ### in the suite that holds the error -/
def rIsErr (K : PySem.W.Frag) (a : Addr) (cls : Value) (d : Option Addr) : List V → Hp → VK → Prop := fun xs H Q =>
  ∃ (C : Addr) (c : V) (cv : Value) (b : Bool), xs = [.ref a, c] ∧ cls = .ref C ∧ ExcC K C ∧ (∀ u, RelV c u → u = cv) ∧
    PySem.W.kitOne K (.ref C) cv = some b ∧ (d = none ∨ ∃ dd fs, d = some dd ∧ H dd = some (.xd fs)) ∧ Q (.bl b) H
section
variable {X : Cx} {a : Addr} {cls : Value} {d : Option Addr} {oe : Obj} {pn : List (Addr × Obj)}
/-- the error as an instance -/
theorem err_inst {pins : List (Addr × Obj)} {σ : L2.St} {H : Hp} {s : Shared} {C : Addr} (hz : Zc cls d oe) (hf : ∃ vs, oe.data = .fields vs)
    (I : Inv (X.suite a ((a, oe) :: pn)) pins σ H s) (hc : cls = .ref C) (hd : d = none ∨ ∃ dd fs, d = some dd ∧ H dd = some (.xd fs)) :
    ∃ od, PySem.W.InstAt s.heap a oe C od := by
  obtain ⟨hget, _⟩ := I.pin (a, oe) (List.mem_append.mpr (.inl List.mem_cons_self))
  obtain ⟨vs, hv⟩ := hf
  obtain ⟨oc, od, oda, osl⟩ := oe
  obtain ⟨h1, h2⟩ := hz
  dsimp only at h1 h2 hv
  subst h1 h2 hv
  rcases hd with rfl | ⟨dd, fs, rfl, hdd⟩
  · exact ⟨none, hget, hc, rfl, trivial⟩
  · obtain ⟨mA, ⟨od, es, ep, ho, _⟩, _⟩ := (show ObjOk X.prog X.w H s.heap dd (.xd fs) from I.hok dd _ hdd)
    exact ⟨some od, hget, hc, rfl, ho⟩
theorem call_isErr (hz : Zc cls d oe) (hf : ∃ vs, oe.data = .fields vs) :
    CallR (X.suite a ((a, oe) :: pn)) (.builtin "isinstance") (rIsErr X.K a cls d) := by
  intro pins s σ H xs us Q I r h
  obtain ⟨C, c, cv, b, rfl, hc, EC, hcv, e, hd, q⟩ := h
  match us, r with
  | [u1, u2], .cons rx (.cons rt .nil) =>
    cases (show u1 = Value.ref a from rx)
    obtain rfl := hcv _ rt
    obtain ⟨od, J⟩ := err_inst hz hf I hc hd
    obtain ⟨cd, hcl, _⟩ := PySem.W.any_some EC.hd
    exact PySem.W.kia_one (PySem.W.kitx_exc (by rw [hcl]; rfl) EC.hg EC.hk EC.hs EC.ha EC.hn EC.ht EC.hm) I.kIn J e
      (fun z => nomatch z) fun tk => ⟨.bl b, H, I.kept (t' := tk) fun _ _ z => z, rfl, q⟩
/-- e.at, e the error that the suite holds -/
def tAt (K : PySem.W.Frag) (a : Addr) (cls : Value) (d : Option Addr) (te : TE) : TE := fun σ H Q => te σ H fun x H1 => x = .ref a ∧
  ∃ (C dd : Addr) (v : V), cls = .ref C ∧ d = some dd ∧ ExcC K C ∧ PySem.W.findIn K (.ref C) "at" = some none ∧ H1 dd = some (.xd [("at", v)]) ∧ Q v H1
theorem pe_at {e : Expr} {te : TE} {pos : Pos} (hz : Zc cls d oe) (hf : ∃ vs, oe.data = .fields vs) (he : PE (X.suite a ((a, oe) :: pn)) e te)
    (hb : attributeBase e "at" X.env (eval e X.env) = eval e X.env := by rfl) :
    PE (X.suite a ((a, oe) :: pn)) (.Attribute e "at" pos) (tAt X.K a cls d te) := by
  constructor
  intro pins s σ H Q I h
  refine attr_of hb (thn (he.run pins s σ H _ I h) fun u s1 hh => ?_)
  obtain ⟨x, H1, I1, rx, ex, C, dd, v, ec, ed, EC, noAt, ea, q⟩ := hh
  subst ex
  cases (show u = Value.ref a from rx)
  obtain ⟨mA, hns, hr⟩ := (show ObjOk X.prog X.w H1 s1.heap dd (.xd [(("at" : Str), v)]) from I1.hok dd _ ea)
  obtain ⟨od, ho, hl⟩ := lookIn_ns hns
  have l : List.lookup ("at" : Str) [(("at" : Str), v)] = some v := by simp [List.lookup]
  obtain ⟨u, hu, ru⟩ := RelO.some_of (v := v) (o := mA "at") (by rw [← l]; exact hr "at")
  obtain ⟨vs, hd⟩ := hf
  obtain ⟨ha, _⟩ := I1.pin (a, oe) (List.mem_append_left _ List.mem_cons_self)
  have J : PySem.W.InstAt s1.heap a oe C (some od) :=
    ⟨ha, hz.1.trans ec, by unfold PySem.W.notCls; rw [hd] <;> rfl, by rw [hz.2, ed]; exact ho⟩
  refine HandSPX.exc_get I1.kIn J EC.hg EC.hk EC.hs (PySem.W.findObj_own EC.hd noAt rfl (by rw [hl, hu])) (handed_of ru) ?_
  exact ⟨v, H1, I1.tok _, ru, q⟩
end
end NL
set_option maxRecDepth 100000
set_option maxHeartbeats 2000000
/-! Operators by all the kinds of their operands; readings step by step. -/
namespace NL
open PySem PySem.Spec PyProof.Rows L2

/-! ### one rule an operator -/
def aAdd (K : PySem.W.Frag) : R2 := fun x y H Q => rI0 (fun i j => .int (i + j)) x y H Q ∨ rCatA K x y H Q ∨ rCat x y H Q
def aMul : R2 := rI CMulW fun i j => .int (i * j)
def aMod : R2 := rI (fun _ j => j ≠ 0) fun i j => .int (i.fmod j)
/-- // by any divisor but 0 below 2 ^ 9000 -/
def CDivA (_ j : Int) : Prop := j ≠ 0 ∧ j.natAbs.log2 < 9000
def aDiv : R2 := rI CDivA fun i j => .int (i.fdiv j)
def aPow : R2 := rI CPow fun i j => .int (i ^ j.toNat)
def aEq (K : PySem.W.Frag) : R2 := fun x y H Q => rEq x y H Q ∨ rEqD K x y H Q
def aNe (K : PySem.W.Frag) : R2 := fun x y H Q => rNe x y H Q ∨ rNeD K x y H Q
def aIs : R2 := fun x y H Q => rIsB x y H Q ∨ (y = .non ∧ Q (.bl (decide (x = .non))) H)
def aNis : R2 := fun x y H Q => rNotB x y H Q ∨ (y = .non ∧ Q (.bl (!decide (x = .non))) H)
def aIn (K : PySem.W.Frag) : R2 := rInD K
def aNin (K : PySem.W.Frag) : R2 := rNotInD K
section
variable {X : Cx}
theorem oAdd : OpR X (binaryOp .Add) (aAdd X.K) := OpR.or op_add (OpR.or op_catA op_cat)
theorem oMul : OpR X (binaryOp .Mult) aMul := op_mulW
theorem oMod : OpR X (binaryOp .Mod) aMod := op_modN
theorem oDiv : OpR X (binaryOp .FloorDiv) aDiv := opI fun i j _ _ _ _ _ hc q => floordiv_int hc.1 q (.inl (PyProof.noPylong_of_log2 hc.2))
theorem oPow : OpR X (binaryOp .Pow) aPow := op_pow
theorem oEq (hu : X.A.units + 64 < cLine) : OpR X (compareOp .Eq) (aEq X.K) := OpR.or op_eq (op_eqD hu)
theorem oNe (hu : X.A.units + 64 < cLine) : OpR X (compareOp .NotEq) (aNe X.K) := OpR.or op_ne (op_neD hu)
theorem oIs : OpR X (compareOp .Is) aIs := OpR.or op_isBl op_isN
theorem oNis : OpR X (compareOp .IsNot) aNis := OpR.or op_notBl op_notN
theorem oIn (hu : X.A.units + 65 < cLine) : OpR X (compareOp .In) (aIn X.K) := op_inD hu
theorem oNin (hu : X.A.units + 65 < cLine) : OpR X (compareOp .NotIn) (aNin X.K) := op_notInD hu
end
def aLen (K : PySem.W.Frag) : List V → Hp → VK → Prop := fun xs H Q => ∃ p ys, xs = [.ref p] ∧ (SqL K H p ys ∨ SqT K H p ys) ∧ Q (.int ys.length) H
def aTuple (K : PySem.W.Frag) : List V → Hp → VK → Prop := fun xs H Q => ∃ p ys, xs = [.ref p] ∧
  ((SqL K H p ys ∧ ∀ l, H l = none → Q (.ref l) (upd H l (.tup ys))) ∨ (SqT K H p ys ∧ Q (.ref p) H))
def aList (K : PySem.W.Frag) : List V → Hp → VK → Prop := fun xs H Q => ∃ p ys, xs = [.ref p] ∧ (SqL K H p ys ∨ SqT K H p ys) ∧
  ∀ l, H l = none → Q (.ref l) (upd H l (.lst ys))
def aAbs : List V → Hp → VK → Prop := fun xs H Q => ∃ i, xs = [.int i] ∧ Q (.int (if i < 0 then -i else i)) H
def aInt : List V → Hp → VK → Prop := fun xs H Q => (∃ i, xs = [.int i] ∧ Q (.int i) H) ∨ ∃ k, xs = [.bl k] ∧ Q (.int (if k then 1 else 0)) H
def aMax (K : PySem.W.Frag) : List V → Hp → VK → Prop := fun xs H Q => (∃ i j, xs = [.int i, .int j] ∧ Q (.int (if j > i then j else i)) H) ∨ rMax K xs H Q
def aMin (K : PySem.W.Frag) : List V → Hp → VK → Prop := fun xs H Q => (∃ i j, xs = [.int i, .int j] ∧ Q (.int (if j < i then j else i)) H) ∨ rMin K xs H Q
def aStr : List V → Hp → VK → Prop := fun xs H Q => ∃ i, xs = [.int i] ∧ i.natAbs.log2 < 1920 ∧ Q (.str (toString i)) H
def aIsi (K : PySem.W.Frag) : List V → Hp → VK → Prop := fun xs H Q => rIsi K xs H Q ∨ rIsiT K xs H Q
section
variable {X : Cx}
theorem cLen : CallR X (.builtin "len") (aLen X.K) := call_len_seq
theorem cTuple : CallR X (.type "tuple") (aTuple X.K) := call_tuple_of
theorem cList : CallR X (.type "list") (aList X.K) := call_list_of
theorem cAbs : CallR X (.builtin "abs") aAbs := call_abs
theorem cInt : CallR X (.type "int") aInt := call_int1
theorem cMax (hc : X.calm = true) : CallR X (.builtin "max") (aMax X.K) := CallR.or (call_max2 hc) (cr_max hc)
theorem cMin (hc : X.calm = true) : CallR X (.builtin "min") (aMin X.K) := CallR.or (call_min2 hc) (cr_min hc)
theorem cStr : CallR X (.type "str") aStr := call_str_int
theorem cIsi : CallR X (.builtin "isinstance") (aIsi X.K) := CallR.or call_isi call_isiT
end

/-! ### readings, step by step -/
section
variable {K : PySem.W.Frag} {σ : L2.St} {H : Hp} {nx bk ct : L2.St → Hp → Prop} {rt Q : VK} {te ta tb : TE} {t u : TS} {tt tt2 : TT} {v x y : V} {i : Nat} {QT : Bool → Hp → Prop} {QA : List V → Hp → Prop} {tr : TA}
theorem w_seq (h : t ⟨u ⟨nx, rt, bk, ct⟩, rt, bk, ct⟩ σ H) : tSeq t u ⟨nx, rt, bk, ct⟩ σ H := h
theorem w_asg (h : te σ H fun v H1 => nx (σ.set i (some v)) H1) : tAsg te (gName i) ⟨nx, rt, bk, ct⟩ σ H := h
theorem w_drop (h : te σ H fun _ H1 => nx σ H1) : tDrop te ⟨nx, rt, bk, ct⟩ σ H := h
theorem w_ret (h : te σ H rt) : tRet te ⟨nx, rt, bk, ct⟩ σ H := h
theorem w_next (h : nx σ H) : tNext ⟨nx, rt, bk, ct⟩ σ H := h
theorem w_brk (h : bk σ H) : tBreak ⟨nx, rt, bk, ct⟩ σ H := h
theorem w_cont (h : ct σ H) : tCont ⟨nx, rt, bk, ct⟩ σ H := h
theorem w_ifS (h : tt σ H fun b H1 => if b = true then t ⟨nx, rt, bk, ct⟩ σ H1 else u ⟨nx, rt, bk, ct⟩ σ H1) : tIfS tt t u ⟨nx, rt, bk, ct⟩ σ H := h
theorem w_var (e : σ[i]? = some (some v)) (h : Q v H) : tVar i σ H Q := ⟨v, e, h⟩
theorem w_c (h : Q v H) : tC v σ H Q := h
theorem w_op {r : R2} (h : ta σ H fun x H1 => tb σ H1 fun y H2 => r x y H2 Q) : tOp r ta tb σ H Q := h
theorem w_un {r : V → Hp → VK → Prop} (h : ta σ H fun x H1 => r x H1 Q) : tUn r ta σ H Q := h
theorem w_test (h : te σ H fun x H' => ∃ k, x = .bl k ∧ QT k H') : tTest te σ H QT := h
theorem w_B (h : te σ H fun x H' => ∃ k, x = .bl k ∧ QT k H') : tB te σ H QT := h
theorem w_bl {b : Bool} (h : QT b H) : ∃ k, V.bl b = .bl k ∧ QT k H := ⟨b, rfl, h⟩
theorem w_not (h : tt σ H fun c H1 => QT (!c) H1) : tNot tt σ H QT := h
theorem w_and (h : tt σ H fun c H1 => if c = true then tt2 σ H1 QT else QT false H1) : tAnd tt tt2 σ H QT := h
theorem w_or (h : tt σ H fun c H1 => if c = true then QT true H1 else tt2 σ H1 QT) : tOr tt tt2 σ H QT := h
theorem w_andV (h : ta σ H fun x H1 => ∃ c, x = .bl c ∧ if c = true then tb σ H1 Q else Q (.bl false) H1) : tAndV ta tb σ H Q := h
theorem w_orV (h : ta σ H fun x H1 => ∃ c, x = .bl c ∧ if c = true then Q (.bl true) H1 else tb σ H1 Q) : tOrV ta tb σ H Q := h
theorem w_notV (h : ta σ H fun x H1 => ∃ c, x = .bl c ∧ Q (.bl (!c)) H1) : tNotV ta σ H Q := h
theorem w_blP {b : Bool} {P : Bool → Prop} (h : P b) : ∃ c, V.bl b = .bl c ∧ P c := ⟨b, rfl, h⟩
theorem w_if (h : tt σ H fun c H1 => if c = true then ta σ H1 Q else tb σ H1 Q) : tIf tt ta tb σ H Q := h
theorem w_nil (h : QA [] H) : tNil σ H QA := h
theorem w_cons (h : ta σ H fun x H1 => tr σ H1 fun xs H2 => QA (x :: xs) H2) : tCons ta tr σ H QA := h
theorem w_call {sp : Sp} {dvs : List V} {E : XK} (h : tr σ H fun vs H1 => sp (vs ++ dvs) H1 Q E) : tCall sp dvs E tr σ H Q := h
theorem w_callS {sp : Sp} {E : L2.St → XK} (h : tr σ H fun vs H1 => sp vs H1 Q (E σ)) : tCallS sp E tr σ H Q := h
theorem w_cb {r : List V → Hp → VK → Prop} (h : tr σ H fun vs H1 => r vs H1 Q) : tCB r tr σ H Q := h
theorem w_tup (h : tr σ H fun xs H1 => xs.length ≤ sizeLine ∧ ∀ p, H1 p = none → Q (.ref p) (upd H1 p (.tup xs))) : tTup tr σ H Q := h
theorem w_lst (h : tr σ H fun xs H1 => xs.length ≤ sizeLine ∧ ∀ p, H1 p = none → Q (.ref p) (upd H1 p (.lst xs))) : tLst tr σ H Q := h
theorem w_par {j : Nat} (h : tr σ H fun vs H1 => ∃ v w, vs = [v, w] ∧ nx ((σ.set i (some v)).set j (some w)) H1) : tPar i j tr ⟨nx, rt, bk, ct⟩ σ H := h
theorem w_two {v w : V} {P : V → V → Prop} (h : P v w) : ∃ a b, [v, w] = [a, b] ∧ P a b := ⟨v, w, rfl, h⟩
-- by values
theorem w_addI {i j : Int} (h : Q (.int (i + j)) H) : aAdd K (.int i) (.int j) H Q := .inl ⟨i, j, rfl, rfl, h⟩
theorem w_I0 {g : Int → Int → V} {i j : Int} (h : Q (g i j) H) : rI0 g (.int i) (.int j) H Q := ⟨i, j, rfl, rfl, h⟩
theorem w_mul {i j : Int} (c : CMulW i j) (h : Q (.int (i * j)) H) : aMul (.int i) (.int j) H Q := ⟨i, j, rfl, rfl, c, h⟩
theorem w_mod {i j : Int} (c : j ≠ 0) (h : Q (.int (i.fmod j)) H) : aMod (.int i) (.int j) H Q := ⟨i, j, rfl, rfl, c, h⟩
theorem w_div {i j : Int} (c : j ≠ 0) (l : j.natAbs.log2 < 9000) (h : Q (.int (i.fdiv j)) H) : aDiv (.int i) (.int j) H Q := ⟨i, j, rfl, rfl, ⟨c, l⟩, h⟩
theorem w_divP {i : Int} {b : Nat} {j : Int} (c : 0 < j) (hb : j.natAbs < 2 ^ b) (h0 : 0 < b) (h9 : b ≤ 9000) (h : Q (.int (i / j)) H) : aDiv (.int i) (.int j) H Q :=
  w_div (by omega) (Nat.lt_of_lt_of_le (PySem.Flt.log2_lt_of h0 hb) h9) (by rw [Int.fdiv_eq_ediv_of_nonneg i (by omega)]; exact h)
theorem w_pow {i j : Int} (c : CPow i j) (h : Q (.int (i ^ j.toNat)) H) : aPow (.int i) (.int j) H Q := ⟨i, j, rfl, rfl, c, h⟩
theorem w_neg {i : Int} (h : Q (.int (-i)) H) : rU (fun i => .int (-i)) (.int i) H Q := ⟨i, rfl, h⟩
theorem w_eq (c : scal x y = true) (h : Q (.bl (decide (x = y))) H) : aEq K x y H Q := .inl ⟨c, h⟩
theorem w_ne (c : scal x y = true) (h : Q (.bl (!decide (x = y))) H) : aNe K x y H Q := .inl ⟨c, h⟩
theorem w_eqI {i j : Int} (h : Q (.bl (decide (i = j))) H) : aEq K (.int i) (.int j) H Q := .inl ⟨rfl, by
  have e : decide (V.int i = V.int j) = decide (i = j) := by
    by_cases q : i = j
    · simp [q]
    · have n : ¬ V.int i = V.int j := fun z => q (V.int.inj z)
      simp [q]
  rw [e]
  exact h⟩
theorem w_neI {i j : Int} (h : Q (.bl (!decide (i = j))) H) : aNe K (.int i) (.int j) H Q := .inl ⟨rfl, by
  have e : decide (V.int i = V.int j) = decide (i = j) := by
    by_cases q : i = j
    · simp [q]
    · have n : ¬ V.int i = V.int j := fun z => q (V.int.inj z)
      simp [q]
  rw [e]
  exact h⟩
theorem w_absI {i : Int} (h : Q (.int (if i < 0 then -i else i)) H) : aAbs [.int i] H Q := ⟨i, rfl, h⟩
theorem w_intI {i : Int} (h : Q (.int i) H) : aInt [.int i] H Q := .inl ⟨i, rfl, h⟩
theorem w_lenL {p : Addr} {ys : List V} (e : SqL K H p ys) (h : Q (.int ys.length) H) : aLen K [.ref p] H Q := ⟨p, ys, rfl, .inl e, h⟩
theorem w_lenT {p : Addr} {ys : List V} (e : SqT K H p ys) (h : Q (.int ys.length) H) : aLen K [.ref p] H Q := ⟨p, ys, rfl, .inr e, h⟩
theorem w_ixL {p : Addr} {ys : List V} {i : Int} (e : SqL K H p ys) (a : atI ys i = some v) (h : Q v H) : rIx K (.ref p) (.int i) H Q := .inl ⟨p, ys, i, v, rfl, rfl, e, a, h⟩
theorem w_ixT {p : Addr} {ys : List V} {i : Int} (e : SqT K H p ys) (a : atI ys i = some v) (h : Q v H) : rIx K (.ref p) (.int i) H Q := .inr (.inl ⟨p, ys, i, v, rfl, rfl, e, a, h⟩)
theorem w_ite {c : Bool} {A B : Prop} (h1 : c = true → A) (h2 : c = false → B) : if c = true then A else B := by
  cases c
  · exact h2 rfl
  · exact h1 rfl
theorem w_iteD {c : Prop} [Decidable c] {A B : Prop} (h1 : c → A) (h2 : ¬ c → B) : if decide c = true then A else B := by
  by_cases q : c
  · rw [if_pos (decide_eq_true q)]; exact h1 q
  · rw [if_neg (by simpa using q)]; exact h2 q
theorem w_iteN {c : Prop} [Decidable c] {A B : Prop} (h1 : ¬ c → A) (h2 : c → B) : if (!decide c) = true then A else B := by
  by_cases q : c
  · rw [if_neg (by simpa using q)]; exact h2 q
  · rw [if_pos (by simpa using q)]; exact h1 q
theorem w_iteT {A B : Prop} (h : A) : if true = true then A else B := by rw [if_pos rfl]; exact h
theorem w_iteF {A B : Prop} (h : B) : if false = true then A else B := by rw [if_neg Bool.false_ne_true]; exact h
end
end NL
set_option maxRecDepth 100000
set_option maxHeartbeats 2000000
/-! Defs kept: where a def stands, what it promises; calls by that. -/
namespace NL
open PySem PySem.Spec PyProof.Rows L2

/-- the statement st of the text stands as the def x -/
def Def (K : PySem.W.Frag) (mg : Str → Option Value) (x : Str) (st : Stmt) (ps : List Str) : Prop :=
  ∃ f fd, Fun K x x st f fd ∧ mg x = some (.ref f) ∧ Binds K fd ps []
/-- the def x keeps its promise -/
def Kept (P : Program) (w : World) (K : PySem.W.Frag) (mg : Str → Option Value) (base : Heap) (CX : CXT) (k : Nat) (x : Str) (st : Stmt) (ps : List Str) (sp : Sp) : Prop :=
  ∃ f fd, Fun K x x st f fd ∧ mg x = some (.ref f) ∧ Binds K fd ps [] ∧ FnOk P w K mg base CX k f fd ps sp
def KeptG (P : Program) (w : World) (K : PySem.W.Frag) (mg : Str → Option Value) (base : Heap) (CX : CXT) (k : Nat) (x : Str) (st : Stmt) (ps : List Str) (sp : Sp) : Prop :=
  ∃ f fd, Fun K x x st f fd ∧ mg x = some (.ref f) ∧ Binds K fd ps [] ∧ FnG P w K mg base CX k f fd ps sp
section
variable {P : Program} {w : World} {K : PySem.W.Frag} {mg : Str → Option Value} {base : Heap} {x : Str} {st : Stmt} {N ps : List Str} {k : Nat} {sp : Sp}
theorem Kept.imp {CX : CXT} {sp' : Sp} (O : Kept P w K mg base CX k x st ps sp) (h : ∀ vs H Q E, sp' vs H Q E → sp vs H Q E) : Kept P w K mg base CX k x st ps sp' := by
  obtain ⟨f, fd, a, b, c, d⟩ := O
  exact ⟨f, fd, a, b, c, d.imp h⟩
theorem keep0 (D : Def K mg x st ps) (S : FnScope N ps (defScope st)) (len : ∀ vs H Q E, sp vs H Q E → vs.length = ps.length)
    (hb : ∀ (f : Addr) (cdv : Value) (A : Around) (outer : List Env) (s : Shared) (H : Hp) (vs : List V) (Q : VK) (E : XK), Room k (A.deeper (envOfC x (defScope st) s.heap.objs.size f cdv)) → sp vs H Q E →
      ∃ t, PSs (cxOf CX0 P w K mg base N x (defScope st) f cdv A outer s H E).nox (defBody st) t ∧ t { nx := fun _ H' => Q .non H', rt := Q } (start N vs) H) :
    Kept P w K mg base CX0 (k + 1) x st ps sp := by
  obtain ⟨f, fd, F, g, b⟩ := D
  exact ⟨f, fd, F, g, b, F.ok S len fun cdv A outer s H vs Q E hr h => hb f cdv A outer s H vs Q E hr h⟩
theorem keepX (D : Def K mg x st ps) (S : FnScope N ps (defScope st)) (len : ∀ vs H Q E, sp vs H Q E → vs.length = ps.length)
    (hb : ∀ (f : Addr) (cdv : Value) (A : Around) (outer : List Env) (s : Shared) (H : Hp) (vs : List V) (Q : VK) (E : XK), Room k (A.deeper (envOfC x (defScope st) s.heap.objs.size f cdv)) → sp vs H Q E →
      ∃ t, PSs (cxOf (L2.CX P w) P w K mg base N x (defScope st) f cdv A outer s H E) (defBody st) t ∧ t { nx := fun _ H' => Q .non H', rt := Q } (start N vs) H) :
    Kept P w K mg base (L2.CX P w) (k + 1) x st ps sp := by
  obtain ⟨f, fd, F, g, b⟩ := D
  exact ⟨f, fd, F, g, b, F.okX S len fun cdv A outer s H vs Q E hr h => hb f cdv A outer s H vs Q E hr h⟩
theorem keepG (D : Def K mg x st ps) (S : FnScope N ps (defScope st)) (len : ∀ vs H Q E, sp vs H Q E → vs.length = ps.length)
    (hb : ∀ (f : Addr) (cdv : Value) (A : Around) (outer : List Env) (s : Shared) (H : Hp) (vs : List V) (Q : VK) (E : XK), A.guards = some [] → Room k (A.deeper (envOfC x (defScope st) s.heap.objs.size f cdv)) → sp vs H Q E →
      ∃ t, PSs (cxOf CX0 P w K mg base N x (defScope st) f cdv A outer s H E).nox (defBody st) t ∧ t { nx := fun _ H' => Q .non H', rt := Q } (start N vs) H) :
    KeptG P w K mg base CX0 (k + 1) x st ps sp := by
  obtain ⟨f, fd, F, g, b⟩ := D
  exact ⟨f, fd, F, g, b, okG F S len fun cdv A outer s H vs Q E hg hr h => hb f cdv A outer s H vs Q E hg hr h⟩
end

section
variable {X : Cx} {k : Nat} {st : Stmt} {ps : List Str} {sp : Sp} {x : Str} {p pos : Pos} {e : Expr} {es : List Expr} {t : TA}
/-- f(e, ..) -/
theorem pk_call (O : Kept X.prog X.w X.K X.mg X.base CX0 k x st ps sp) (hr : Room k X.A) (ha : PA X (e :: es) t) (hg : Gl X x := by rfl) (hdb : (x == ("__debug__" : Str)) = false := by decide)
    (he : starEach (e :: es) X.env = (false, eval e X.env) :: starEach es X.env := by rfl) (hpl : (backTo pos (starEach es X.env)).any (·.1) = false := by rfl) :
    PE X (.Call (.Name x p) (e :: es) [] pos) (tCall sp [] E0 t) := by
  obtain ⟨f, fd, F, g, b, ok⟩ := O
  exact pe_call ok hr hg g F.kp b .nil pass0 ha hdb he hpl
/-- f(e, ..), f may raise, but not here -/
theorem pk_callL (O : Kept X.prog X.w X.K X.mg X.base (L2.CX X.prog X.w) k x st ps sp) (hr : Room k X.A) (ha : PA X (e :: es) t) (hg : Gl X x := by rfl) (hdb : (x == ("__debug__" : Str)) = false := by decide)
    (he : starEach (e :: es) X.env = (false, eval e X.env) :: starEach es X.env := by rfl) (hpl : (backTo pos (starEach es X.env)).any (·.1) = false := by rfl) :
    PE X (.Call (.Name x p) (e :: es) [] pos) (tCall sp [] E0 t) := by
  obtain ⟨f, fd, F, g, b, ok⟩ := O
  exact pe_call ok hr hg g F.kp b .nil passL ha hdb he hpl
/-- f(e, ..), what f raises is handed on -/
theorem pk_callX {E : XK} (O : Kept X.prog X.w X.K X.mg X.base (L2.CX X.prog X.w) k x st ps sp) (tk : Takes X (fun cls d _ H => E cls d H)) (hr : Room k X.A) (ha : PA X (e :: es) t) (hg : Gl X x := by rfl) (hdb : (x == ("__debug__" : Str)) = false := by decide)
    (he : starEach (e :: es) X.env = (false, eval e X.env) :: starEach es X.env := by rfl) (hpl : (backTo pos (starEach es X.env)).any (·.1) = false := by rfl) :
    PE X (.Call (.Name x p) (e :: es) [] pos) (tCall sp [] E t) := by
  obtain ⟨f, fd, F, g, b, ok⟩ := O
  exact pe_call ok hr hg g F.kp b .nil (passes_call tk fun _ _ _ _ h => h) ha hdb he hpl
/-- f(e, ..), a guarded def -/
theorem pk_callG (O : KeptG X.prog X.w X.K X.mg X.base CX0 k x st ps sp) (hgd : X.A.guards = some []) (hr : Room k X.A) (ha : PA X (e :: es) t) (hg : Gl X x := by rfl) (hdb : (x == ("__debug__" : Str)) = false := by decide)
    (he : starEach (e :: es) X.env = (false, eval e X.env) :: starEach es X.env := by rfl) (hpl : (backTo pos (starEach es X.env)).any (·.1) = false := by rfl) :
    PE X (.Call (.Name x p) (e :: es) [] pos) (tCall sp [] E0 t) := by
  obtain ⟨f, fd, F, g, b, ok⟩ := O
  exact pe_callG ok hgd hr hg g F.kp b .nil pass0 ha hdb he hpl
end

/-! ### keywords: the values by place -/
def pick {α : Type} (idx : List Nat) (xs : List α) : List α := idx.filterMap fun i => xs[i]?
theorem pick_vals {vs : List V} {us : List Value} (r : Vals vs us) : ∀ idx : List Nat, Vals (pick idx vs) (pick idx us)
  | [] => .nil
  | i :: idx => by
    have ih := pick_vals r idx
    unfold pick at ih ⊢
    cases h : vs[i]? with
    | none =>
      rw [List.filterMap_cons_none h, List.filterMap_cons_none (r.none_of h)]
      exact ih
    | some v =>
      obtain ⟨u, hu, ru⟩ := r.get h
      rw [List.filterMap_cons_some h, List.filterMap_cons_some hu]
      exact .cons ru ih
/-- f(e, .., k = v, ..): n positional values, then the keywords' ones; idx puts them into the parameters' order -/
def tCallW (n m : Nat) (idx : List Nat) (sp : Sp) (E : XK) (t tk : TA) : TE := fun σ H Q => t σ H fun vs H1 => tk σ H1 fun zs H2 =>
  vs.length = n ∧ zs.length = m ∧ sp (pick idx (vs ++ zs)) H2 Q E
section
variable {X : Cx} {CX : CXT} {k n : Nat} {st : Stmt} {ps ks : List Str} {sp : Sp} {x : Str} {p pos : Pos} {e : Expr} {es : List Expr} {kws : List Keyword} {t tk : TA} {E : XK} {f : Addr} {fd : FuncData} {idx : List Nat}
def KwB (fd : FuncData) (ps ks : List Str) (n : Nat) (idx : List Nat) : Prop := ∀ us ws : List Value, us.length = n → ws.length = ks.length → bindArgs fd ⟨us, ks.zip ws⟩ = pure (ps.zip (pick idx (us ++ ws)))
/-- the text's own parameters, all given -/
def KwS (x : Str) (st : Stmt) (ps ks : List Str) (n : Nat) (idx : List Nat) : Prop := ∀ (kV doc pm : Value) (an : Option Addr) (cdv ct : Value), KwB (PySem.W.fnOf x x (defArgs st) (defBody st) (defScope st) .none kV doc pm an cdv ct) ps ks n idx
theorem KwS.kwb (h : KwS x st ps ks n idx) {K : PySem.W.Frag} (F : Fun K x x st f fd) : KwB fd ps ks n idx := by
  obtain ⟨oc, od, kV, doc, pm, an, cdv, ct, osl, rfl, _⟩ := F.ex
  exact h kV doc pm an cdv ct
theorem run_fnW {pins : List (Addr × Obj)} {σ : L2.St} {H : Hp} {s : Shared} {Q : VK} {us ws : List Value} {vs zs : List V} (F : FnOk X.prog X.w X.K X.mg X.base CX k f fd ps sp) (hr : Room k X.A) (hb : KwB fd ps ks n idx) (hx : Passes CX X E)
    (I : Inv X pins σ H s) (r : Vals vs us) (rz : Vals zs ws) (l1 : vs.length = n) (l2 : zs.length = ks.length) (h : sp (pick idx (vs ++ zs)) H Q E) :
    wpAny (model X.prog X.w) X.A (call (.ref f) us (ks.zip ws)) (EP X pins σ Q) X.xe s := by
  have run := F.run X.A X.stack s H ⟨us, ks.zip ws⟩ (pick idx (us ++ ws)) _ Q E hr I.env0 (.of_eq (hb us ws (r.length.symm.trans l1) (rz.length.symm.trans l2))) (pick_vals (r.append rz) idx) h
  refine wpAny_call (codeAny_mono run fun res s' hq => ?_)
  match res, hq with
  | .error e, hq => exact hx pins σ H s e s' I hq
  | .ok (.ret u), hq => exact I.after hq
theorem pk_callW {CX : CXT} (O : Kept X.prog X.w X.K X.mg X.base CX k x st ps sp) (hx : Passes CX X E) (hb : KwS x st ps ks n idx) (hr : Room k X.A) (ha : PA X (e :: es) t) (hkw : PK X kws tk) (hg : Gl X x := by rfl)
    (hall : (backToKw pos (keywordEach kws X.env)).all (·.1.isSome) = true := by rfl) (hks : (backToKw pos (keywordEach kws X.env)).filterMap (·.1) = ks := by rfl)
    (hdb : (x == ("__debug__" : Str)) = false := by decide) (he : starEach (e :: es) X.env = (false, eval e X.env) :: starEach es X.env := by rfl)
    (hpl : ((backTo pos (starEach (e :: es) X.env)).any (·.1) || (backToKw pos (keywordEach kws X.env)).any (·.1.isNone)) = false := by rfl) :
    PE X (.Call (.Name x p) (e :: es) kws pos) (tCallW n ks.length idx sp E t tk) := by
  obtain ⟨f, fd, F, g, b, ok⟩ := O
  constructor
  intro pins s σ H Q I h
  refine wpAny_Call_Name_kw (ld_glob I hg g ?_ hdb)
  refine PySem.W.callWith_KW (h₀ := X.base) I.ok.mod.kin F.kp hall (thn (ha.run pos pins s σ H _ I h) fun us s1 hh => ?_) hpl he
  obtain ⟨vs, H1, I1, r, q⟩ := hh
  refine thn (hkw.run pos pins s1 σ H1 _ I1 q) fun ws s2 hh => ?_
  obtain ⟨zs, H2, I2, rz, l1, l2, q2⟩ := hh
  refine ⟨I2.kIn, ?_⟩
  rw [hks]
  exact run_fnW ok hr (hb.kwb F) hx I2 r rz l1 l2 q2
/-- f(k = v, ..) -/
theorem pk_callW0 {CX : CXT} (O : Kept X.prog X.w X.K X.mg X.base CX k x st ps sp) (hx : Passes CX X E) (hb : KwS x st ps ks 0 idx) (hr : Room k X.A) (hkw : PK X kws tk) (hg : Gl X x := by rfl)
    (hall : (backToKw pos (keywordEach kws X.env)).all (·.1.isSome) = true := by rfl) (hks : (backToKw pos (keywordEach kws X.env)).filterMap (·.1) = ks := by rfl)
    (hdb : (x == ("__debug__" : Str)) = false := by decide)
    (hpl : (backToKw pos (keywordEach kws X.env)).any (·.1.isNone) = false := by rfl) :
    PE X (.Call (.Name x p) [] kws pos) (tCallW 0 ks.length idx sp E tNil tk) := by
  obtain ⟨f, fd, F, g, b, ok⟩ := O
  constructor
  intro pins s σ H Q I h
  refine wpAny_Call_Name_kw (ld_glob I hg g ?_ hdb)
  refine PySem.W.callWith_KW0 (h₀ := X.base) I.ok.mod.kin F.kp hall (thn (hkw.run pos pins s σ H _ I h) fun ws s2 hh => ?_) hpl
  obtain ⟨zs, H2, I2, rz, l1, l2, q2⟩ := hh
  refine ⟨I2.kIn, ?_⟩
  rw [hks]
  exact run_fnW (us := []) (vs := []) ok hr (hb.kwb F) hx I2 .nil rz l1 l2 q2
end
end NL
set_option maxRecDepth 100000
set_option maxHeartbeats 2000000
namespace NL
open PySem PySem.Spec PyProof.Rows L2

section
variable {K : PySem.W.Frag} {σ : L2.St} {H : Hp} {nx bk ct : L2.St → Hp → Prop} {rt Q : VK} {te ta tb : TE} {t u : TS} {tt tt2 : TT} {v x y : V} {i : Nat} {QT : Bool → Hp → Prop} {QA : List V → Hp → Prop} {tr : TA}
theorem w_while {m : Nat} (W : Nat → L2.St → Hp → Prop) (h0 : W m σ H) (hs : ∀ m σ H, W m σ H → tt σ H fun b H1 => if b = true then
    ∃ N : L2.St → Hp → Prop, (∀ σ' H', N σ' H' → ∃ m', m' < m ∧ W m' σ' H') ∧ t ⟨N, rt, nx, N⟩ σ H1 else nx σ H1) : tWhile tt t ⟨nx, rt, bk, ct⟩ σ H := ⟨W, ⟨m, h0⟩, hs⟩
theorem w_go {m : Nat} {W : Nat → L2.St → Hp → Prop} (h : t ⟨fun σ' H' => ∃ m', m' < m ∧ W m' σ' H', rt, nx, fun σ' H' => ∃ m', m' < m ∧ W m' σ' H'⟩ σ H) :
    ∃ N : L2.St → Hp → Prop, (∀ σ' H', N σ' H' → ∃ m', m' < m ∧ W m' σ' H') ∧ t ⟨N, rt, nx, N⟩ σ H := ⟨_, fun _ _ h => h, h⟩
theorem w_bm0 {T : String} {r : V → List V → Hp → VK → Prop} (h : te σ H fun x H1 => tyV K T x H1 ∧ r x [] H1 Q) : tBM0 K T r te σ H Q := h
theorem w_bm {T : String} {r : V → List V → Hp → VK → Prop} (h : te σ H fun x H1 => tyV K T x H1 ∧ tr σ H1 fun xs H2 => r x xs H2 Q) : tBM K T r te tr σ H Q := h
theorem w_callW {n m : Nat} {idx : List Nat} {sp : Sp} {E : XK} {tk : TA} (h : tr σ H fun vs H1 => tk σ H1 fun zs H2 => vs.length = n ∧ zs.length = m ∧ sp (pick idx (vs ++ zs)) H2 Q E) : tCallW n m idx sp E tr tk σ H Q := h
theorem w_sub {T : TSet} (h : te σ H fun x H1 => ta σ H1 fun o H1 => tb σ H1 fun i H2 => T o i x H2 fun H3 => nx σ H3) : tAsg te (gSub ta tb T) ⟨nx, rt, bk, ct⟩ σ H := h
theorem tyL {l : Addr} {xs : List V} (h : H l = some (.lst xs)) : tyV K "list" (.ref l) H := .inl ⟨rfl, _, SqL.of h⟩
/-- isinstance against a built-in class -/
theorem w_isi {x : V} {T U : String} {b : Bool} (ty : TyX K H x (.type T)) (e : kitB T U = some b) (h : Q (.bl b) H) : aIsi K [x, .ty U] H Q :=
  .inl ⟨x, .ty U, _, _, b, rfl, .ty U, ty, kit_ty e, h⟩
end
theorem w_iteNF {A B : Prop} (h : A) : if (!false) = true then A else B := h
theorem w_iteNT {A B : Prop} (h : B) : if (!true) = true then A else B := by
  rw [if_neg (by decide)]
  exact h
theorem ty_same {K : PySem.W.Frag} {H H' : Hp} {x : V} {t : Value} (e : Same H H') (h : TyX K H x t) : TyX K H' x t := by
  cases h with
  | base h =>
    cases h with
    | non => exact .base .non
    | bl x => exact .base (.bl x)
    | int i => exact .base (.int i)
    | str x => exact .base (.str x)
    | flt x => exact .base (.flt x)
    | lst h => exact .base (.lst (e _ _ h))
    | frz h => exact .base (.frz (e _ _ h))
    | tup h => exact .base (.tup (e _ _ h))
    | dK h => exact .base (.dK (e _ _ h))
    | dT h => exact .base (.dT (e _ _ h))
    | ins h cl a b c d => exact .base (.ins (e _ _ h) cl a b c d)
  | byt b => exact .byt b
  | set h => exact .set (e _ _ h)
  | kList h c => exact .kList h c
  | kTuple h c => exact .kTuple h c
  | kDict h c => exact .kDict h c
  | fTuple h => exact .fTuple (e _ _ h)
  | fDict h => exact .fDict (e _ _ h)
section
variable {X : Cx}
theorem sl_any : SlR X (fun x lo hi H Q => rSlL X.K x lo hi H Q ∨ rSlA X.K x lo hi H Q) := SlR.or sl_list sl_tupA
end

/-! ### comprehensions whose element leaves what stands -/
section
variable {K : PySem.W.Frag} {σ : L2.St} {H : Hp} {Q : VK} {tl te : TE} {tt : TT} {vs : List Nat} {j : Nat} {a : Addr} {xs : List V}
theorem Same.newT {H : Hp} {p : Addr} {o : HO} (h : H p = none) : Same H (upd H p o) := fun b u e => by
  rw [upd_ne (ne_of_none e h)]
  exact e
theorem Same.putT {H H' : Hp} {p : Addr} {o : HO} (e : Same H H') (h : H p = none) : Same H (upd H' p o) := fun b u ha => by
  rw [upd_ne (ne_of_none ha h)]
  exact e b u ha
theorem same_t {K : PySem.W.Frag} {H H' : Hp} {a : Addr} {xs : List V} (e : Same H H') (h : SqT K H a xs) : SqT K H' a xs := by
  rcases h with (h | ⟨o, h⟩) | h
  · exact .inl (.inl (e _ _ h))
  · exact .inl (.inr ⟨o, e _ _ h⟩)
  · exact .inr h
theorem paired_snoc {α β : Type} {F : α → β → Prop} : ∀ {l1 : List α} {l2 : List β} {x : α} {y : β}, Paired F l1 l2 → F x y → Paired F (l1 ++ [x]) (l2 ++ [y])
  | _, _, _, _, .nil, h => .cons h .nil
  | _, _, _, _, .cons h t, k => .cons h (paired_snoc t k)
theorem take_snoc {α : Type} {l : List α} {i : Nat} {x : α} (h : l[i]? = some x) : l.take (i + 1) = l.take i ++ [x] := by
  rw [List.take_succ, h]
  rfl
/-- what a turn asks: x the item, the slots with it, any heap that kept what stood -/
def LcTurn (tt : TT) (te : TE) (R : V → V → Hp → Prop) (p : V → Bool) (H : Hp) (x : V) (σ2 : L2.St) : Prop :=
  ∀ H1, Same H H1 → ∀ Q : Bool → Hp → Prop, (∀ H2, Same H1 H2 → Q (p x) H2) → tt σ2 H1 Q
def LcElt (te : TE) (R : V → V → Hp → Prop) (H : Hp) (x : V) (σ2 : L2.St) : Prop :=
  ∀ H1, Same H H1 → ∀ Q : VK, (∀ y H2, Same H1 H2 → R x y H2 → Q y H2) → te σ2 H1 Q
structure LcAt (R : V → V → Hp → Prop) (H : Hp) (D : Addr) (zs : List V) (H' : Hp) : Prop where
  nw : H D = none
  sm : Same H H'
  at_ : ∃ ys, H' D = some (.lst ys) ∧ Paired (fun x y => R x y H') zs ys
theorem LcAt.turn {R : V → V → Hp → Prop} {p : V → Bool} {D : Addr} {zs : List V} {H' : Hp} {x : V} {σ2 : L2.St} {Nx : Hp → Prop} (mono : ∀ x y H1 H2, R x y H1 → (∀ b o, b ≠ D → H1 b = some o → H2 b = some o) → R x y H2)
    (L : LcAt R H D zs H') (hz : zs.length < sizeLine) (ht : LcTurn tt te R p H x σ2) (he : p x = true → LcElt te R H x σ2) (k1 : p x = true → ∀ H2, LcAt R H D (zs ++ [x]) H2 → Nx H2) (k2 : p x = false → ∀ H2, LcAt R H D zs H2 → Nx H2) :
    tt σ2 H' fun b H3 => if b = true then te σ2 H3 fun y H4 => ∃ acc, H4 D = some (.lst acc) ∧ acc.length < sizeLine ∧ Nx (upd H4 D (.lst (acc ++ [y]))) else Nx H3 := by
  obtain ⟨nw, sm, ys, e, pr⟩ := L
  have pm : ∀ {H1 H2 : Hp} {l1 l2 : List V}, Paired (fun x y => R x y H1) l1 l2 → (∀ b o, b ≠ D → H1 b = some o → H2 b = some o) → Paired (fun x y => R x y H2) l1 l2 := fun q s => Paired.mapP q fun a b r => mono a b _ _ r s
  refine ht H' sm _ fun H3 s3 => ?_
  cases hp : p x with
  | false =>
    rw [if_neg Bool.false_ne_true]
    exact k2 hp H3 ⟨nw, sm.trans s3, ys, s3 _ _ e, pm pr fun b o _ q => s3 b o q⟩
  | true =>
    rw [if_pos rfl]
    refine he hp H3 (sm.trans s3) _ fun y H4 s4 r => ?_
    have hl : ys.length < sizeLine := by
      have := Paired.length pr
      omega
    refine ⟨ys, s4 _ _ (s3 _ _ e), hl, k1 hp _ ⟨nw, Same.putT ((sm.trans s3).trans s4) nw, _, upd_same, ?_⟩⟩
    have far : ∀ b o, b ≠ D → H4 b = some o → upd H4 D (.lst (ys ++ [y])) b = some o := fun b o hb q => by
      rw [upd_ne hb]
      exact q
    exact paired_snoc (pm (pm (pm pr fun b o _ q => s3 b o q) fun b o _ q => s4 b o q) far) (mono _ _ _ _ r far)
/-- what the building of a list asks of its walk -/
def LcGo (J : It) (j : Nat) (tt : TT) (te : TE) (vs : List Nat) (σ : L2.St) (H : Hp) (Q : VK) : Prop :=
    ∀ D, H D = none → ∃ W : Nat → Nat → Hp → Prop, (∃ m, W 0 m (upd H D (.lst []))) ∧ ∀ i m H, W i m H →
      (J.stop i H ∧ Q (.ref D) H) ∨ (J.go i H ∧ ∃ Nx : Hp → Prop, (∀ H', Nx H' → ∃ m', m' < m ∧ W (i + 1) m' H') ∧ ∀ x H', J.yld i H x H' → gName j x (wipe σ vs) H' fun σ2 H2 => wipe σ2 vs = wipe σ vs ∧ tt σ2 H2 fun b H3 =>
        if b = true then te σ2 H3 fun y H4 => ∃ acc, H4 D = some (.lst acc) ∧ acc.length < sizeLine ∧ Nx (upd H4 D (.lst (acc ++ [y]))) else Nx H3)
theorem w_lcT (h : tl σ H fun x H1 => ∃ a, x = .ref a ∧ (∃ xs, SqT K H1 a xs) ∧ LcGo (Itt K a) j tt te vs σ H1 Q) : tLc (iTup K tl) (gName j) tt te vs σ H Q := h
theorem w_lcL (h : tl σ H fun x H1 => ∃ a, x = .ref a ∧ (∃ xs, SqL K H1 a xs) ∧ LcGo (Itl K a) j tt te vs σ H1 Q) : tLc (iList K tl) (gName j) tt te vs σ H Q := h
theorem w_ref {a : Addr} {P : Addr → Prop} (h : P a) : ∃ b, V.ref a = .ref b ∧ P b := ⟨a, rfl, h⟩
theorem lc_tup_rel (R : V → V → Hp → Prop) (p : V → Bool) (hS : SqT K H a xs) (hz : xs.length < sizeLine) (hw : ∀ x, wipe ((wipe σ vs).set j (some x)) vs = wipe σ vs)
    (mono : ∀ D, H D = none → ∀ x y H1 H2, R x y H1 → (∀ b o, b ≠ D → H1 b = some o → H2 b = some o) → R x y H2)
    (ht : ∀ x ∈ xs, LcTurn tt te R p H x ((wipe σ vs).set j (some x))) (he : ∀ x ∈ xs, p x = true → LcElt te R H x ((wipe σ vs).set j (some x)))
    (hq : ∀ D H', LcAt R H D (xs.filter p) H' → Q (.ref D) H') :
    LcGo (Itt K a) j tt te vs σ H Q := fun D hD =>
  lc_tup (K := K) (a := a) (xs := xs) (Qd := fun H' => Q (.ref D) H') (fun i H' => LcAt R H D ((xs.take i).filter p) H') ⟨hD, Same.newT hD, [], upd_same, .nil⟩ (fun i H' _ L => same_t L.sm hS)
    (fun i x H' hx L => ⟨hw x, L.turn (mono D hD) (Nat.lt_of_le_of_lt (Nat.le_trans (List.length_filter_le _ _) (List.length_take_le _ _)) (Nat.lt_of_lt_of_le (List.getElem?_eq_some_iff.mp hx).1 (Nat.le_of_lt hz))) (ht x (List.mem_of_getElem? hx)) (he x (List.mem_of_getElem? hx))
      (fun hp H2 L2 => by rw [take_snoc hx, List.filter_append, List.filter_cons, if_pos hp]; exact L2) (fun hp H2 L2 => by rw [take_snoc hx, List.filter_append, List.filter_cons, if_neg (by rw [hp]; decide)]; simpa using L2)⟩)
    (fun H' L => by rw [List.take_length] at L; exact hq D H' L)
theorem lc_lst_rel (R : V → V → Hp → Prop) (p : V → Bool) (hS : SqL K H a xs) (hz : xs.length < sizeLine) (hw : ∀ x, wipe ((wipe σ vs).set j (some x)) vs = wipe σ vs)
    (mono : ∀ D, H D = none → ∀ x y H1 H2, R x y H1 → (∀ b o, b ≠ D → H1 b = some o → H2 b = some o) → R x y H2)
    (ht : ∀ x ∈ xs, LcTurn tt te R p H x ((wipe σ vs).set j (some x))) (he : ∀ x ∈ xs, p x = true → LcElt te R H x ((wipe σ vs).set j (some x)))
    (hq : ∀ D H', LcAt R H D (xs.filter p) H' → Q (.ref D) H') :
    LcGo (Itl K a) j tt te vs σ H Q := fun D hD =>
  lc_list (K := K) (a := a) (xs := xs) (Qd := fun H' => Q (.ref D) H') (fun i H' => LcAt R H D ((xs.take i).filter p) H') ⟨hD, Same.newT hD, [], upd_same, .nil⟩ (fun i H' _ L => L.sm.seq hS)
    (fun i x H' hx L => ⟨hw x, L.turn (mono D hD) (Nat.lt_of_le_of_lt (Nat.le_trans (List.length_filter_le _ _) (List.length_take_le _ _)) (Nat.lt_of_lt_of_le (List.getElem?_eq_some_iff.mp hx).1 (Nat.le_of_lt hz))) (ht x (List.mem_of_getElem? hx)) (he x (List.mem_of_getElem? hx))
      (fun hp H2 L2 => by rw [take_snoc hx, List.filter_append, List.filter_cons, if_pos hp]; exact L2) (fun hp H2 L2 => by rw [take_snoc hx, List.filter_append, List.filter_cons, if_neg (by rw [hp]; decide)]; simpa using L2)⟩)
    (fun H' L => by rw [List.take_length] at L; exact hq D H' L)
theorem turn_yes {R : V → V → Hp → Prop} {x : V} {σ2 : L2.St} : LcTurn tYes te R (fun _ => true) H x σ2 := fun H1 _ Q q => q H1 (Same.refl H1)
theorem filter_true {α : Type} (l : List α) : l.filter (fun _ => true) = l := by
  induction l with
  | nil => rfl
  | cons a l ih => rw [List.filter_cons, if_pos rfl, ih]
/-- the elements are values that hang on the item alone -/
theorem paired_eq {f : V → V} : ∀ {xs ys : List V}, Paired (fun x y => y = f x) xs ys → ys = xs.map f
  | _, _, .nil => rfl
  | _, _, .cons h t => by rw [h, paired_eq t]; rfl
end
theorem ru64 {k : Nat} {A : Around} (r : Room k A) : A.units + 64 < cLine := r.units
theorem ru65 {k : Nat} {A : Around} (r : Room k A) : A.units + 65 < cLine := by
  have := r.un
  omega
end NL
set_option maxRecDepth 100000
set_option maxHeartbeats 2000000
/-! Loops over lists, slices, lists of ints as data; the deal of a law. -/
namespace NL
open PySem PySem.Spec PyProof.Rows L2

section
variable {K : PySem.W.Frag} {σ : L2.St} {H : Hp} {nx bk ct : L2.St → Hp → Prop} {rt Q : VK} {te ta tl : TE} {t u : TS} {v x y : V} {i : Nat} {D : Ends} {g : TG} {tr : TA} {a : Addr} {xs : List V}
theorem w_sl {r : V → Option Int → Option Int → Hp → VK → Prop} {tp tq : TO} (h : te σ H fun x H1 => tp σ H1 fun l H2 => tq σ H2 fun u H3 => r x l u H3 Q) : tSl r te tp tq σ H Q := h
theorem w_npart {Q : Option Int → Hp → Prop} (h : Q none H) : tNoPart σ H Q := h
theorem w_part {Q : Option Int → Hp → Prop} (h : te σ H fun x H1 => ∃ i, x = .int i ∧ Q (some i) H1) : tPart te σ H Q := h
theorem w_iv {j : Int} {P : Int → Prop} (h : P j) : ∃ i, V.int j = .int i ∧ P i := ⟨j, rfl, h⟩
theorem w_slL {lo hi : Option Int} (e : SqL K H a xs) (h : ∀ p, H p = none → Q (.ref p) (upd H p (.lst (cutV xs lo hi)))) : (rSlL K (.ref a) lo hi H Q ∨ rSlA K (.ref a) lo hi H Q) := .inl ⟨a, xs, rfl, e, h⟩
theorem w_rev (h : te σ H fun x H1 => ∃ a xs, x = .ref a ∧ SqL K H1 a xs ∧ ∀ p, H1 p = none → Q (.ref p) (upd H1 p (.lst xs.reverse))) : tRevL K te σ H Q := h
theorem w_rev1 (e : SqL K H a xs) (h : ∀ p, H p = none → Q (.ref p) (upd H p (.lst xs.reverse))) : ∃ b ys, V.ref a = .ref b ∧ SqL K H b ys ∧ ∀ p, H p = none → Q (.ref p) (upd H p (.lst ys.reverse)) := ⟨a, xs, rfl, e, h⟩
/-- what a loop asks of its walk -/
def ForGo (J : It) (g : TG) (tb : TS) (D : Ends) (σ : L2.St) (H : Hp) : Prop :=
  ∃ W : Nat → Nat → L2.St → Hp → Prop, (∃ m, W 0 m σ H) ∧ ∀ i m σ H, W i m σ H →
      (J.stop i H ∧ D.nx σ H) ∨ (J.go i H ∧ ∃ N : L2.St → Hp → Prop, (∀ σ' H', N σ' H' → ∃ m', m' < m ∧ W (i + 1) m' σ' H') ∧ ∀ x H', J.yld i H x H' → g x σ H' fun σ2 H2 => tb { D with nx := N, ct := N, bk := D.nx } σ2 H2)
theorem w_forL (h : tl σ H fun x H1 => ∃ a, x = .ref a ∧ (∃ xs, SqL K H1 a xs) ∧ ForGo (Itl K a) g t D σ H1) : tFor (iList K tl) g t D σ H := h
theorem w_forT (h : tl σ H fun x H1 => ∃ a, x = .ref a ∧ (∃ xs, SqT K H1 a xs) ∧ ForGo (Itt K a) g t D σ H1) : tFor (iTup K tl) g t D σ H := h
theorem w_forR1 (h : tr σ H fun vs H1 => ∃ j : Int, vs = [.int j] ∧ -(2 ^ 62) ≤ j ∧ j < 2 ^ 62 ∧ ForGo (Itr 0 j.toNat) g t D σ H1) : tFor (iRng1 tr) g t D σ H := h
theorem w_one {j : Int} {P : Int → Prop} (h : P j) : ∃ i, [V.int j] = [.int i] ∧ P i := ⟨j, rfl, h⟩
theorem fgL {g : TG} {tb : TS} (Pv : Nat → L2.St → Hp → Prop) (h0 : Pv 0 σ H) (hl : ∀ i σ H, i ≤ xs.length → Pv i σ H → SqL K H a xs)
    (hs : ∀ i x σ H, xs[i]? = some x → Pv i σ H → g x σ H fun σ2 H2 => tb ⟨Pv (i + 1), D.rt, D.nx, Pv (i + 1)⟩ σ2 H2) (hd : ∀ σ H, Pv xs.length σ H → D.nx σ H) : ForGo (Itl K a) g tb D σ H := for_list Pv h0 hl hs hd
theorem fgT {g : TG} {tb : TS} (Pv : Nat → L2.St → Hp → Prop) (h0 : Pv 0 σ H) (hl : ∀ i σ H, i ≤ xs.length → Pv i σ H → SqT K H a xs)
    (hs : ∀ i x σ H, xs[i]? = some x → Pv i σ H → g x σ H fun σ2 H2 => tb ⟨Pv (i + 1), D.rt, D.nx, Pv (i + 1)⟩ σ2 H2) (hd : ∀ σ H, Pv xs.length σ H → D.nx σ H) : ForGo (Itt K a) g tb D σ H := for_tup Pv h0 hl hs hd
theorem fgR {lo : Int} {n : Nat} {g : TG} {tb : TS} (Pv : Nat → L2.St → Hp → Prop) (h0 : Pv 0 σ H)
    (hs : ∀ i σ H, i < n → Pv i σ H → g (.int (lo + i)) σ H fun σ2 H2 => tb ⟨Pv (i + 1), D.rt, D.nx, Pv (i + 1)⟩ σ2 H2) (hd : ∀ σ H, Pv n σ H → D.nx σ H) : ForGo (Itr lo n) g tb D σ H := for_range Pv h0 hs hd
theorem w_g {P : L2.St → Hp → Prop} (h : P (σ.set i (some v)) H) : gName i v σ H P := h
theorem w_append {l : Addr} (e : H l = some (.lst xs)) (z : xs.length < sizeLine) (h : Q .non (upd H l (.lst (xs ++ [y])))) : rAppend (.ref l) [y] H Q := ⟨l, xs, y, rfl, rfl, e, z, h⟩
theorem w_pop {l : Addr} (e : H l = some (.lst xs)) (z : xs[xs.length - 1]? = some y) (h : Q y (upd H l (.lst xs.dropLast))) : tyV K "list" (.ref l) H ∧ rPop (.ref l) [] H Q := ⟨tyL e, l, xs, y, rfl, rfl, e, z, h⟩
theorem w_setL {l : Addr} {k : Int} {j : Nat} {N : Hp → Prop} (e : H l = some (.lst xs)) (z : ixN xs.length k = some j) (h : N (upd H l (.lst (xs.set j v)))) : rSetL (.ref l) (.int k) v H N := ⟨l, xs, k, j, rfl, rfl, e, z, h⟩
end

/-! ### ints as data -/
def dInts (ns : List Int) : List PyData := ns.map .int
section
variable {K : PySem.W.Frag} {H : Hp}
theorem dp_ints : ∀ ns : List Int, DpAll K H (ns.map V.int) (dInts ns)
  | [] => .nil
  | n :: ns => .cons (.int n) (dp_ints ns)
theorem lay_ints : ∀ ns : List Int, PyData.canLayAll0 (dInts ns) = true
  | [] => rfl
  | n :: ns => by
    show (PyData.canLay0 (.int n) && PyData.canLayAll0 (dInts ns)) = true
    rw [lay_ints ns]
    rfl
theorem dep_ints : ∀ ns : List Int, PyData.depthAll (dInts ns) = 0
  | [] => rfl
  | n :: ns => by
    show max (PyData.depth (.int n)) (PyData.depthAll (dInts ns)) = 0
    rw [dep_ints ns]
    rfl
theorem shp_list (ns : List Int) : SeqAt.shaped (.list (dInts ns)) = true := by
  unfold SeqAt.shaped
  rw [show PyData.canLay0 (.list (dInts ns)) = PyData.canLayAll0 (dInts ns) from rfl, lay_ints, show PyData.depth (.list (dInts ns)) = PyData.depthAll (dInts ns) + 1 from rfl, dep_ints]
  rfl
theorem shp_tup (ns : List Int) : SeqAt.shaped (.tuple (dInts ns)) = true := by
  unfold SeqAt.shaped
  rw [show PyData.canLay0 (.tuple (dInts ns)) = PyData.canLayAll0 (dInts ns) from rfl, lay_ints, show PyData.depth (.tuple (dInts ns)) = PyData.depthAll (dInts ns) + 1 from rfl, dep_ints]
  rfl
theorem eqv_ints : ∀ ns ms : List Int, PyData.eqvAll (dInts ns) (dInts ms) = decide (ns = ms)
  | [], [] => rfl
  | [], m :: ms => rfl
  | n :: ns, [] => rfl
  | n :: ns, m :: ms => by
    show ((n == m) && PyData.eqvAll (dInts ns) (dInts ms)) = _
    rw [eqv_ints ns ms]
    by_cases h : n = m
    · subst h
      by_cases h2 : ns = ms
      · subst h2
        simp
      · simp [h2]
    · simp [h]
theorem w_neL {x y : Addr} {ns ms : List Int} {Q : VK} (hx : SqL K H x (ns.map V.int)) (hy : SqL K H y (ms.map V.int)) (h : Q (.bl (!decide (ns = ms))) H) : aNe K (.ref x) (.ref y) H Q :=
  .inr ⟨.list (dInts ns), .list (dInts ms), .lst hx (dp_ints ns), .lst hy (dp_ints ms), shp_list ns, shp_list ms, by
    rw [show PyData.eqv (.list (dInts ns)) (.list (dInts ms)) = PyData.eqvAll (dInts ns) (dInts ms) from rfl, eqv_ints]
    exact h⟩
theorem w_eqT {x y : Addr} {ns ms : List Int} {Q : VK} (hx : SqT K H x (ns.map V.int)) (hy : SqT K H y (ms.map V.int)) (h : Q (.bl (decide (ns = ms))) H) : aEq K (.ref x) (.ref y) H Q :=
  .inr ⟨.tuple (dInts ns), .tuple (dInts ms), .tup hx (dp_ints ns), .tup hy (dp_ints ms), shp_tup ns, shp_tup ms, by
    rw [show PyData.eqv (.tuple (dInts ns)) (.tuple (dInts ms)) = PyData.eqvAll (dInts ns) (dInts ms) from rfl, eqv_ints]
    exact h⟩
end

/-! ### the deal -/
/-- the deal at a: its cells at l -/
structure DealAt (H : Hp) (a l : Addr) : Prop where
  ne : l ≠ a
  ex : ∃ (ns : List Int) (b : Int), H a = some (.lst [.ref l, .int b]) ∧ H l = some (.lst (ns.map V.int)) ∧ (∀ n ∈ ns, 0 ≤ n) ∧ ns.length ≤ 48 ∧ 0 ≤ b ∧ b < 2147483647
/-- all else stands as it stood -/
def Fr (a l : Addr) (H H' : Hp) : Prop := ∀ b o, H b = some o → b ≠ a → b ≠ l → H' b = some o
theorem Fr.refl {a l : Addr} {H : Hp} : Fr a l H H := fun _ _ e _ _ => e
theorem Fr.trans {a l : Addr} {H H1 H2 : Hp} (x : Fr a l H H1) (y : Fr a l H1 H2) : Fr a l H H2 := fun b o e h1 h2 => y b o (x b o e h1 h2) h1 h2
theorem Fr.same {a l : Addr} {H H1 : Hp} (x : Same H H1) : Fr a l H H1 := fun b o e _ _ => x b o e
theorem Fr.updA {a l : Addr} {H H1 : Hp} {o : HO} (x : Fr a l H H1) : Fr a l H (upd H1 a o) := fun b o e h1 h2 => by
  rw [upd_ne h1]
  exact x b o e h1 h2
theorem Fr.updL {a l : Addr} {H H1 : Hp} {o : HO} (x : Fr a l H H1) : Fr a l H (upd H1 l o) := fun b o e h1 h2 => by
  rw [upd_ne h2]
  exact x b o e h1 h2
theorem Fr.newT {a l p : Addr} {H H1 : Hp} {o : HO} (x : Fr a l H H1) (h : H1 p = none) : Fr a l H (upd H1 p o) := fun b o e h1 h2 => by
  have q := x b o e h1 h2
  rw [upd_ne (ne_of_none q h)]
  exact q
theorem DealAt.same {H H' : Hp} {a l : Addr} (d : DealAt H a l) (e : Same H H') : DealAt H' a l := by
  obtain ⟨ne, ns, b, h1, h2, h3⟩ := d
  exact ⟨ne, ns, b, e _ _ h1, e _ _ h2, h3⟩
theorem DealAt.keep {H H' : Hp} {a l c : Addr} {o : HO} (d : DealAt H a l) (f : Fr a l H H') (e : H c = some o) (ho : ∀ xs, o ≠ .lst xs) : H' c = some o := by
  obtain ⟨ne, ns, b, h1, h2, h3⟩ := d
  refine f c o e (fun z => ?_) (fun z => ?_)
  · subst z
    rw [e] at h1
    exact ho _ (Option.some.inj h1)
  · subst z
    rw [e] at h2
    exact ho _ (Option.some.inj h2)
theorem DealAt.sqT {K : PySem.W.Frag} {H H' : Hp} {a l c : Addr} {xs : List V} (d : DealAt H a l) (f : Fr a l H H') (h : SqT K H c xs) : SqT K H' c xs := by
  rcases h with (h | ⟨o, h⟩) | h
  · exact .inl (.inl (d.keep f h fun _ e => by cases e))
  · exact .inl (.inr ⟨o, d.keep f h fun _ e => by cases e⟩)
  · exact .inr h
theorem Fr.sqL {K : PySem.W.Frag} {H H' : Hp} {a l c : Addr} {xs : List V} (f : Fr a l H H') (h : SqL K H c xs) (n1 : c ≠ a) (n2 : c ≠ l) : SqL K H' c xs := by
  rcases h with (h | ⟨o, h⟩) | h
  · exact .inl (.inl (f _ _ h n1 n2))
  · exact .inl (.inr ⟨o, f _ _ h n1 n2⟩)
  · exact .inr h
theorem map_drop_last (ns : List Int) : (ns.map V.int).dropLast = (ns.dropLast).map V.int := by
  rw [List.map_dropLast]
theorem at_last {ns : List Int} (h : ns ≠ []) : atI (ns.map V.int) (-1) = some (.int (ns.getLast h)) := by
  have hp : 0 < ns.length := List.length_pos_iff.mpr h
  unfold atI ixN
  rw [List.length_map, if_neg (by omega), if_pos (by omega)]
  show (ns.map V.int)[(-1 + (ns.length : Int)).toNat]? = _
  rw [show (-1 + (ns.length : Int)).toNat = ns.length - 1 by omega, List.getElem?_map, ← List.getLast?_eq_getElem?, List.getLast?_eq_some_getLast h]
  rfl
theorem get_last {ns : List Int} (h : ns ≠ []) : (ns.map V.int)[(ns.map V.int).length - 1]? = some (.int (ns.getLast h)) := by
  rw [List.length_map, List.getElem?_map, ← List.getLast?_eq_getElem?, List.getLast?_eq_some_getLast h]
  rfl
theorem mem_drop_last {ns : List Int} {n : Int} (h : n ∈ ns.dropLast) : n ∈ ns := List.dropLast_subset ns h
theorem last_mem {ns : List Int} (h : ns ≠ []) : ns.getLast h ∈ ns := List.getLast_mem h
theorem none_same {H H' : Hp} {b : Addr} (e : Same H H') (h : H' b = none) : H b = none := by
  cases q : H b with
  | none => rfl
  | some o =>
    rw [e b o q] at h
    cases h
theorem cut_to (xs : List V) (n : Nat) : cutV xs none (some (n : Int)) = xs.take n := by
  unfold cutV
  show List.take (HT.sIx xs.length xs.length (some (n : Int)) - 0) (xs.drop 0) = _
  rw [List.drop_zero, Nat.sub_zero]
  have : HT.sIx xs.length xs.length (some (n : Int)) = min n xs.length := HT.sIx_nat _ _ _
  rw [this]
  rcases Nat.le_total n xs.length with h | h
  · rw [Nat.min_eq_left h]
  · rw [Nat.min_eq_right h, List.take_length, List.take_of_length_le h]
theorem abs_nat (i : Int) : (if i < 0 then -i else i) = ((i.natAbs : Nat) : Int) := by
  split <;> omega
/-- a number below n is drawn -/
def spAny : Sp := fun vs H Q _ => ∃ (a l : Addr) (n : Int), vs = [.ref a, .int n] ∧ 0 < n ∧ n < 2 ^ 100 ∧ DealAt H a l ∧ ∀ r H', 0 ≤ r → r < n → DealAt H' a l → Fr a l H H' → Q (.int r) H'
/-- one of some ints is drawn -/
def spOf (K : PySem.W.Frag) : Sp := fun vs H Q _ => ∃ (a l s : Addr) (xs : List V), vs = [.ref a, .ref s] ∧ DealAt H a l ∧ SqL K H s xs ∧ s ≠ a ∧ s ≠ l ∧ 0 < xs.length ∧ xs.length ≤ 2 ^ 24 ∧
  ∀ x ∈ xs, ∀ H', DealAt H' a l → Fr a l H H' → Q x H'
/-- the deal is laid -/
def spDraw (K : PySem.W.Frag) : Sp := fun vs H Q _ => ∃ (p : Addr) (ns : List Int) (z : Int), vs = [.ref p, .int z] ∧ SqL K H p (ns.map V.int) ∧ 0 ≤ z ∧ z < 10000 ∧
  ∀ a l H', H a = none → H l = none → DealAt H' a l → Same H H' → Q (.ref a) H'
end NL
set_option maxRecDepth 100000
set_option maxHeartbeats 2000000
/-! The end of a law by a guarded promise, its tables of code objects at hand; lambdas handed to a def that hears one error. -/
namespace NL
open PySem PySem.Spec PyProof.Rows L2

/-- the tables' places -/
abbrev tabs (cs : List (Addr × Addr)) : List Addr := cs.map (·.2)
/-- what is tracked at the entry: the script, if it is no object of the module, and the empty tables -/
structure AtEntryT (K : PySem.W.Frag) (a : Addr) (ob : Obj) (xs : List V) (cs : List (Addr × Addr)) (H : Hp) : Prop where
  one : ∀ b u, H b = some u → (b = a ∧ u = .frz ob (.lst xs)) ∨ (b ∈ tabs cs ∧ u = .tbl #[])
  tb : ∀ p ∈ cs, H p.2 = some (.tbl #[])
  own : ∀ u, H a = some u → K.lookup a = none
  red : SqL K H a xs
theorem entry_mkT {K : PySem.W.Frag} {h : Heap} {a : Addr} {us : List Value} {xs : List V} {cs : List (Addr × Addr)} (KX : K.In h)
    (ha : h.get? a = some { cls := .type "list", data := .seq us.toArray }) (r : Vals xs us) (hz : us.length ≤ sizeLine)
    (na : a ∉ tabs cs) : ∃ H : Hp, AtEntryT K a { cls := .type "list", data := .seq us.toArray } xs cs H := by
  obtain ⟨H0, E⟩ := entry_mk KX ha r hz
  refine ⟨fun b => if b ∈ tabs cs then some (.tbl #[]) else H0 b, fun b u e => ?_, fun p hp => ?_, fun u e => ?_, ?_⟩
  · by_cases hb : b ∈ tabs cs
    · have e' := (if_pos hb).symm.trans e
      exact .inr ⟨hb, (Option.some.inj e').symm⟩
    · have e' := (if_neg hb).symm.trans e
      exact .inl (E.one b u e')
  · exact if_pos (List.mem_map.mpr ⟨p, hp, rfl⟩)
  · exact E.own u ((if_neg na).symm.trans e)
  · have at_a : (fun b => if b ∈ tabs cs then some (HO.tbl #[]) else H0 b) a = H0 a := if_neg na
    rcases E.red with (q | ⟨o, q⟩) | q
    · exact .inl (.inl (at_a.trans q))
    · exact .inl (.inr ⟨o, at_a.trans q⟩)
    · exact .inr q

theorem call_lawT {P : Program} {w : World} {K : PySem.W.Frag} {mg mb : Str → Option Value} {CX : CXT} {k : Nat} {fa a : Addr} {cs : List (Addr × Addr)}
    {fd : FuncData} {x : Str} {sp : Sp} {s₁ : Shared} {us : List Value} {ns : List Int}
    (KX : K.In s₁.heap) (hns : s₁.heap.Ns mainGlobals mg) (hb : s₁.heap.Ns builtinsNs mb)
    (hbb : ∀ x : Str, x ≠ "__name__" → mb x = bootBuiltins x) (hlim : s₁.heap.NoLimit) (hg : s₁.gens = #[])
    (tabAt : ∀ p ∈ cs, s₁.heap.get? p.2 = some { cls := .none, data := .fields #[] }) (tabK : ∀ p ∈ cs, K.lookup p.2 = none)
    (heads : ∀ p ∈ cs, PySem.W.CodeHd s₁.heap p.1 p.2)
    (hbm : ∃ (bm : Addr) (ob : Obj), mg "__builtins__" = some (.ref bm) ∧ bm ≠ builtinsNs ∧ s₁.heap.get? bm = some ob ∧
      ob.cls = .type "module" ∧ ob.dict = some builtinsNs ∧ ob.data = .plain)
    (ha : s₁.heap.get? a = some { cls := .type "list", data := .seq us.toArray }) (hi : IntsAre us ns)
    (hl : ns.length ≤ sizeLine) (hr : Room k callerA)
    (F : ∀ base : Heap, K.In base → base.Ns mainGlobals mg → (∀ p ∈ cs, LamX.TabB base mg p.1 p.2) → FnG P w K mg base CX k fa fd [x] sp)
    (hbind : ∀ (s : Shared) (u : Value), BindsTo s fd ⟨[u], []⟩ [(x, u)])
    (hsp : ∀ H : Hp, (∀ p ∈ cs, H p.2 = some (.tbl #[])) → SqL K H a (ns.map V.int) → sp [.ref a] H (fun v _ => v = .bl true) fun _ _ _ => False)
    (hCX : ∀ H e s', CX [] H s₁ (fun _ _ _ => False) e s' → False) :
    codeAny (model P w) callerA (.call (.ref fa) ⟨[.ref a], []⟩)
      (fun r s' => r = .ok (.ret (.bool true)) ∧ OldK s₁.heap s'.heap ∧ s'.os = s₁.os ∧ AllBare s'.gens) s₁ := by
  have rv := vals_ints hi
  have hlu : us.length ≤ sizeLine := by
    rw [← hi.length] at hl
    exact hl
  have tabOf : ∀ b ∈ tabs cs, s₁.heap.get? b = some { cls := .none, data := .fields #[] } := by
    intro b hb
    obtain ⟨p, hp, rfl⟩ := List.mem_map.mp hb
    exact tabAt p hp
  have na : a ∉ tabs cs := by
    intro z
    have q := (tabOf a z).symm.trans ha
    have d : Data.fields #[] = Data.seq us.toArray _ := congrArg Obj.data (Option.some.inj q)
    cases d
  obtain ⟨H, E⟩ := entry_mkT (cs := cs) KX ha rv hlu na
  have still : ∀ {b : Addr} {o : Obj}, s₁.heap.get? b = some o → H b = none → (hidT s₁.heap H).get? b = some o := fun e n => hidT_get e n
  -- an object that is no sequence and no empty table is not tracked
  have free : ∀ {b : Addr} {o : Obj}, s₁.heap.get? b = some o → (∀ vs n, o.data ≠ .seq vs n) → o.data ≠ .fields #[] → H b = none := by
    intro b o e d1 d2
    match hb : H b with
    | none => rfl
    | some u =>
      rcases E.one b u hb with ⟨rfl, _⟩ | ⟨m, _⟩
      · cases e.symm.trans ha
        exact absurd rfl (d1 _ _)
      · cases e.symm.trans (tabOf b m)
        exact absurd rfl d2
  have ns' : ∀ {b : Addr} {m : Str → Option Value}, s₁.heap.Ns b m → (hidT s₁.heap H).Ns b m := by
    intro b m q
    obtain ⟨o, es, ep, e, d, r⟩ := q
    exact ⟨o, es, ep, still e (free e (fun vs n z => by rw [d] at z; cases z) fun z => by rw [d] at z; cases z), d, r⟩
  have KB : K.In (hidT s₁.heap H) := by
    intro b o e
    refine still (KX b o e) ?_
    match hb : H b with
    | none => rfl
    | some u =>
      rcases E.one b u hb with ⟨rfl, _⟩ | ⟨m, _⟩
      · rw [E.own u hb] at e
        cases e
      · obtain ⟨p, hp, rfl⟩ := List.mem_map.mp m
        rw [tabK p hp] at e
        cases e
  have lim' : (hidT s₁.heap H).NoLimit := by
    obtain ⟨mc, h1, h2⟩ := hlim
    exact ⟨mc, ns' h1, h2⟩
  have hok : HOk P w H s₁.heap := by
    intro b u e
    rcases E.one b u e with ⟨rfl, rfl⟩ | ⟨m, rfl⟩
    · exact ⟨ha, by rw [List.length_map]; exact hl, us, _, rv, ha⟩
    · exact tabOf b m
  have TB : ∀ p ∈ cs, LamX.TabB (hidT s₁.heap H) mg p.1 p.2 := by
    intro p hp
    have tp := tabAt p hp
    constructor
    · obtain ⟨o, vs, fl, tf, fg, tg, inF, tx, tt, e1, c1, c2, rest⟩ := heads p hp
      refine ⟨o, vs, fl, tf, fg, tg, inF, tx, tt, still e1 (free e1 (fun vs n z => ?_) fun z => ?_), c1, c2, rest⟩
      · rw [c2] at z
        cases z
      · rw [c2] at z
        cases z
        obtain ⟨r3, _⟩ := rest
        simp at r3
    · obtain ⟨bm, ob, b1, b2, b3, b4, b5, b6⟩ := hbm
      have nP : bm ≠ p.2 := by
        rintro rfl
        cases b3.symm.trans tp
        cases b6
      have nG : bm ≠ mainGlobals := by
        rintro rfl
        obtain ⟨o, es, ep, e, d, _⟩ := hns
        cases b3.symm.trans e
        cases b6.symm.trans d
      exact ⟨bm, ob, b1, b2, nG, nP, still b3 (free b3 (fun vs n z => by cases b6.symm.trans z) fun z => by cases b6.symm.trans z), b4, b5, b6⟩
    · intro z
      obtain ⟨o, es, ep, e, d, _⟩ := hns
      rw [z] at e
      cases e.symm.trans tp
      cases d
  have e0 : Env0 P w K mg (hidT s₁.heap H) callerA [] s₁ H :=
    { frames := rfl, mod := ⟨KB, ns' hns, ⟨mb, ns' hb, hbb⟩, lim'⟩, bs := fun b o e => of_hidT e,
      bsz := Nat.le_of_eq (hidT_size _ _), funs := trivial, frf := fun b z => absurd (show b ∈ ([] : List Addr) from z) (by simp),
      hok := hok, bare := .of_eq hg }
  have run := (F _ KB (ns' hns) TB).runG callerA [] s₁ H ⟨[.ref a], []⟩ [.ref a] [.ref a] (fun v _ => v = .bl true) (fun _ _ _ => False)
    rfl hr e0 (hbind s₁ (.ref a)) (.cons rfl .nil) (hsp H E.tb E.red)
  refine codeAny_mono run fun res s' hq => ?_
  match res, hq with
  | .error e, hq => exact (hCX H e s' hq).elim
  | .ok (.ret u), hq =>
    obtain ⟨v, H', os, bare, un, hok', r', q⟩ := hq
    subst q
    obtain rfl : u = Value.bool true := r'
    have plainOnes : ∀ b o, b ∉ tabs cs → s₁.heap.get? b = some o → s'.heap.get? b = some o := by
      intro b o nb e
      match hb : H b with
      | none => exact un.keep b o e hb (fun z => absurd (show b ∈ ([] : List Addr) from z) (by simp)) (by simp)
      | some u =>
        rcases E.one b u hb with ⟨rfl, rfl⟩ | ⟨m, _⟩
        · obtain ⟨e1, _⟩ := hok b _ hb
          obtain ⟨e2, _⟩ := hok' b _ (un.frzs b _ _ hb)
          cases e.symm.trans e1
          exact e2
        · exact absurd m nb
    have tabOnes : ∀ p ∈ cs, ∃ more : Array Value, s'.heap.get? p.2 = some { cls := .none, data := .fields more } := by
      intro p hp
      obtain ⟨more, z⟩ := un.tbls p.2 #[] (E.tb p hp)
      exact ⟨_, hok' p.2 _ z⟩
    refine ⟨rfl, ⟨fun b o e => ?_, fun b o e => ?_⟩, os, bare⟩
    · by_cases m : b ∈ tabs cs
      · obtain ⟨p, hp, rfl⟩ := List.mem_map.mp m
        obtain ⟨more, hm⟩ := tabOnes p hp
        cases e.symm.trans (tabAt p hp)
        refine .inr (.inl ⟨((heads p hp).tab (tabAt p hp)).isCodeTable, rfl, #[], more, rfl, ?_⟩)
        rw [Array.empty_append]
        exact hm
      · exact .inl (plainOnes b o m e)
    · by_cases m : b ∈ tabs cs
      · obtain ⟨p, hp, rfl⟩ := List.mem_map.mp m
        obtain ⟨more, hm⟩ := tabOnes p hp
        exact ⟨_, hm⟩
      · exact ⟨o, plainOnes b o m e⟩

/-- what is known of the law's def at the head's heap -/
def LawG (l : PySem.W.OpenLaw) (w : World) (K : PySem.W.Frag) (CX : CXT) (k n : Nat) (x : Str) (mg : Str → Option Value) (fa : Addr) (h : Heap) : Prop :=
  ∃ (fd : FuncData) (cs : List (Addr × Addr)) (sp : Sp), (∀ p ∈ cs, h.get? p.2 = some { cls := .none, data := .fields #[] } ∧ K.lookup p.2 = none ∧ PySem.W.CodeHd h p.1 p.2) ∧
    (∀ (s : Shared) (u : Value), BindsTo s fd ⟨[u], []⟩ [(x, u)]) ∧
    (∀ (H : Hp) (a : Addr) (ns : List Int), ns.length ≤ n → (∀ z ∈ ns, Builtin.Int.intBits z ≤ 1048576) → (∀ p ∈ cs, H p.2 = some (.tbl #[])) → SqL K H a (ns.map V.int) →
      sp [.ref a] H (fun v _ => v = .bl true) fun _ _ _ => False) ∧
    ∀ base : Heap, K.In base → base.Ns mainGlobals mg → (∀ p ∈ cs, LamX.TabB base mg p.1 p.2) → FnG l.prog w K mg base CX k fa fd [x] sp
/-- the goal that k_head leaves, from the law's def -/
theorem walkGT {l : PySem.W.OpenLaw} {n k : Nat} {q : Program} {loose : List Str} {XP : (Str → Option Value) → Heap → Prop}
    {YP : World → Heap → Prop} {d : DefRec} {K : Params → PySem.W.Frag} {CX : CXT} {x : Str}
    (hn : l.most = some n) (hn2 : n ≤ sizeLine) (hdf : d.params.defaults = []) (hr : Room k callerA)
    (hY : ∀ (w : World) (h : Heap), YP w h → (K w.params).In h)
    (F : ∀ (w : World) (mg : Str → Option Value) (fa : Addr) (h : Heap), YP w h → (K w.params).In h → h.Ns mainGlobals mg → mg d.name = some (.ref fa) →
      LawG l w (K w.params) CX k n x mg fa h)
    (hCX : ∀ (H : Hp) (s : Shared) (e : Value) (s' : Shared), CX [] H s (fun _ _ _ => False) e s' → False) :
    PySem.W.WalkO q loose XP YP l.row.toRowW d [] (fun f vs => PySem.call f vs) := by
  refine Att.attach_callB hn hdf fun w s₀ s₁ mg mb fa o pm cd doc a vs ns G Y ho hd hcd hmg hobj hints hlen hbits hg => ?_
  obtain ⟨fd, cs, sp, ht, hb, hsp, hF⟩ := F w mg fa _ Y (hY w _ Y) G.T.g hmg
  exact call_lawT (hY w _ Y) G.T.g G.T.b G.T.builtins G.T.nolimit hg (fun p hp => (ht p hp).1) (fun p hp => (ht p hp).2.1) (fun p hp => (ht p hp).2.2) G.T.bmain
    hobj hints (Nat.le_trans hlen hn2) hr hF hb (fun H hH hS => hsp H a ns hlen hbits hH hS) fun H e s' => hCX H s₁ e s'

/-! ### defs whose code object is known -/
def DefC (K : PySem.W.Frag) (mg : Str → Option Value) (x : Str) (st : Stmt) (ps : List Str) (c : Addr) : Prop :=
  ∃ f fd, Fun K x x st f fd ∧ mg x = some (.ref f) ∧ Binds K fd ps [] ∧ fd.code = .ref c
theorem DefC.def {K : PySem.W.Frag} {mg : Str → Option Value} {x : Str} {st : Stmt} {ps : List Str} {c : Addr} (D : DefC K mg x st ps c) : Def K mg x st ps := by
  obtain ⟨f, fd, F, g, b, _⟩ := D
  exact ⟨f, fd, F, g, b⟩
section
variable {P : Program} {w : World} {K : PySem.W.Frag} {mg : Str → Option Value} {base : Heap} {x : Str} {st : Stmt} {N ps : List Str} {k : Nat} {sp : Sp} {c : Addr}
theorem keepGC (D : DefC K mg x st ps c) (S : FnScope N ps (defScope st)) (len : ∀ vs H Q E, sp vs H Q E → vs.length = ps.length)
    (hb : ∀ (f : Addr) (A : Around) (outer : List Env) (s : Shared) (H : Hp) (vs : List V) (Q : VK) (E : XK), A.guards = some [] → Room k (A.deeper (envOfC x (defScope st) s.heap.objs.size f (.ref c))) → sp vs H Q E →
      ∃ t, PSs (cxOf CX0 P w K mg base N x (defScope st) f (.ref c) A outer s H E).nox (defBody st) t ∧ t { nx := fun _ H' => Q .non H', rt := Q } (start N vs) H) :
    KeptG P w K mg base CX0 (k + 1) x st ps sp := by
  obtain ⟨f, fd, F, g, b, hc⟩ := D
  have G : FnG P w K mg base CX0 (k + 1) f fd ps sp := by
    obtain ⟨oc, od, kV, doc, pm, an, cdv, ct, osl, rfl, lk, hcd⟩ := F.ex
    have e : cdv = .ref c := hc
    subst e
    refine ⟨len, fun A outer s H args us vs Q E hg hr e0 hbd r hsp => ?_⟩
    refine LamX.run_ofS lk hcd S hr e0 hbd r (len _ _ _ _ hsp) fun hr' => ?_
    obtain ⟨t, h, q⟩ := hb f A outer s H vs Q E hg hr' hsp
    exact ⟨t, h.nox, q⟩
  exact ⟨f, fd, F, g, b, G⟩
end

/-! ### a lambda handed to a def that hears one error and answers what it bears -/
/-- the error of the class C that is heard: the clause names Cx, the look is for Cn -/
structure Heard (K : PySem.W.Frag) (C Cx Cn : Addr) : Prop where
  yes : PySem.W.exmOne K (.ref C) (.ref Cx) = some true
  ec : ExcC K C
  isn : PySem.W.kitOne K (.ref C) (.ref Cn) = some true
  noAt : PySem.W.findIn K (.ref C) "at" = some none
/-- try: a() / except Cx as e: return e.at if isinstance(e, Cn) else None / return None -/
def TRef (K : PySem.W.Frag) (Cx Cn : Addr) : (XK → Hp → VK → Prop) → Hp → VK → Prop := fun tl H Q =>
  tl (fun cls d H' => ∃ (C dd : Addr) (v : V), cls = .ref C ∧ d = some dd ∧ Heard K C Cx Cn ∧ H' dd = some (.xd [("at", v)]) ∧ Q v H') H fun _ H' => Q .non H'
/-- the call of what was handed in, as a statement; n slots -/
def tAct (n : Nat) (f c' : Addr) (q : Str) (tl : XK → Hp → VK → Prop) (W : WX) : TS := fun D σ H => ∃ Ech : XK, (∀ cls d σ' H', σ'.length = n → Ech cls d H' → W cls d σ' H') ∧
  σ[0]? = some (some (.ref f)) ∧ H c' = some (LamX.CodeO c' q) ∧ tl Ech H fun _ H' => D.nx σ H'
section
variable {X Y : Cx} {f c' : Addr} {q a : Str} {tl : XK → Hp → VK → Prop}
/-- the call read by its act -/
def Acts (Y : Cx) (f c' : Addr) (q a : Str) (tl : XK → Hp → VK → Prop) : Prop := ∀ (W : WX) (pn : List (Addr × Obj)) (xe : Value → Shared → Prop) (E : XK) (p1 p2 : Pos), Takes (Y.tr pn xe) W → (∀ cls d σ' H', E cls d H' → W cls d σ' H') →
      PE (Y.tr pn xe) (.Call (.Name a p1) [] [] p2) (fun σZ HZ Q => σZ[0]? = some (some (.ref f)) ∧ HZ c' = some (LamX.CodeO c' q) ∧ tl E HZ Q)
theorem takes_len {W : WX} (t : Takes X W) : Takes X (fun cls d σ H => σ.length = X.N.length → W cls d σ H) := fun u s' ⟨a, B, sI, pins, σ, H, cls, d, e, I, nb, up, sky, na, os, ag, w⟩ =>
  t u s' ⟨a, B, sI, pins, σ, H, cls, d, e, I, nb, up, sky, na, os, ag, w I.len⟩
theorem pss_act {W : WX} {pn : List (Addr × Obj)} {xe : Value → Shared → Prop} {p1 p2 p3 : Pos} (act : Acts Y f c' q a tl) (tk : Takes (Y.tr pn xe) W) :
    PSs (Y.tr pn xe) [.Expr (.Call (.Name a p1) [] [] p2) p3] (tAct Y.N.length f c' q tl W) := by
  constructor
  intro pins s σ H D I h
  obtain ⟨Ech, hW, h1, h2, h3⟩ := h
  exact (pss_one (ps_expr (act _ pn xe Ech p1 p2 (takes_len tk) fun cls d σ' H' he hl => hW cls d σ' H' hl he))).run pins s σ H D I ⟨h1, h2, h3⟩
/-- x(lambda: e): x a kept def -/
theorem pk_lam {T : List (Addr × Str)} {TT : (XK → Hp → VK → Prop) → Hp → VK → Prop} {x : Str} {st : Stmt} {c P : Addr} {k : Nat} {Ng : List Str} {params : Arguments} {body : Expr} {scope : Scope} {t : XK → TE} {p lpos pos : Pos}
    (D : Def X.K X.mg x st [a]) (Sg : FnScope Ng [a] (defScope st)) (hNg : Ng[0]? = some a) (hva : Vis (defScope st) a)
    (hG : ∀ g cdg, LamX.GivesTo X Ng x (defScope st) g cdg (defBody st) a (X.env.qual ++ "<lambda>") TT)
    (TB : LamX.TabB X.base X.mg c P) (hcode : X.env.code = .ref c) (hmT : (P, X.env.qual ++ "<lambda>") ∈ T) (hu : ∀ p ∈ T, p.1 = P → p.2 = X.env.qual ++ "<lambda>")
    (hr : Room (k + 2) X.A) (L : LamX.LamS X.env.scope scope)
    (hbody : ∀ (A : Around) (outer : List Env) (s : Shared) (H : Hp) (E : XK) (f c' : Addr), Room k (A.deeper (LamX.lamEnv X scope s.heap.objs.size f c')) → PE (LamX.lamCx X A outer s H E scope f c') body (t E))
    (hg : Gl X x := by rfl) (hdef : defaultsOf params X.env = ([], []) := by rfl)
    (hbind : ∀ (q : Str) (cl : List (Str × Addr)) (pm cv ctv : Value), bindArgs (PySem.W.kla_fn "<lambda>" q params body scope cl pm cv ctv) ⟨[], []⟩ = pure [] := by intros; rfl)
    (hdb : (x == ("__debug__" : Str)) = false := by decide) (hd : (a == ("__debug__" : Str)) = false := by decide) (hcd : (a == ("__classdict__" : Str)) = false := by decide) :
    PE X (.Call (.Name x p) [.Lambda params body scope lpos] [] pos) (LamX.tLam T TT t) := by
  obtain ⟨g, fd, F, hm, b⟩ := D
  obtain ⟨oc, od, kV, doc, pm, an, cdv, ct, osl, rfl, lk, hcd'⟩ := F.ex
  exact LamX.pe_lamcall hg hm F.kp lk hcd' b Sg hNg hva (hG g cdv) TB hcode hmT hu hr L hdef hbind hbody hdb hd hcd
end
/-! ### what stays through a lambda's call -/
section
open LamX
theorem ExtN.seqT {K : PySem.W.Frag} {H H' : Hp} {c : Addr} {xs : List V} (e : ExtN H H') (h : SqT K H c xs) : SqT K H' c xs := by
  rcases h with (h | ⟨o, h⟩) | h
  · exact .inl (.inl (e _ _ h fun _ z => by cases z))
  · exact .inl (.inr ⟨o, e _ _ h fun _ z => by cases z⟩)
  · exact .inr h
theorem DealAt.extN {H H' : Hp} {a l : Addr} (d : DealAt H a l) (e : ExtN H H') : DealAt H' a l := by
  obtain ⟨ne, ns, b, h1, h2, h3⟩ := d
  exact ⟨ne, ns, b, e _ _ h1 (fun _ z => by cases z), e _ _ h2 (fun _ z => by cases z), h3⟩
theorem DealAt.tabs {H H' : Hp} {a l : Addr} {T : List (Addr × Str)} (d : DealAt H a l) (f : Fr a l H H') (t : Tabs T H) : Tabs T H' := by
  intro p hp
  obtain ⟨ps, h1, h2, h3⟩ := t p hp
  refine ⟨ps, d.keep f h1 (fun _ z => by cases z), h2, fun pos cv hc => ?_⟩
  obtain ⟨c, e, q⟩ := h3 pos cv hc
  exact ⟨c, e, d.keep f q (fun _ z => by unfold CodeO at z; cases z)⟩
end
end NL
set_option maxRecDepth 100000
set_option maxHeartbeats 2000000
/-! repr of ints and tuples of ints. -/
namespace NL
open PySem PySem.Spec PyProof.Rows L2

section
variable {K : PySem.W.Frag} {H : Hp} {Q : VK}
theorem small_show {i : Int} {n : Nat} (h : i.natAbs < 2 ^ n) (h0 : 0 < n) (hn : n ≤ 1900) : i.natAbs.log2 < 1920 := Nat.lt_of_lt_of_le (PySem.Flt.log2_lt_of h0 h) (by omega)
theorem w_rprI {i : Int} (h : i.natAbs.log2 < 1920) (q : Q (.str (toString i)) H) : rRepr K [.int i] H Q :=
  ⟨.int i, .int i, rfl, .int i, decide_eq_true h, rfl, show 0 ≤ 60 by decide, Nat.le_trans (int_text_len_1921 h) (by decide +kernel), q⟩
theorem w_rprB {b : Bool} (q : Q (.str (PyData.shown (.bool b))) H) : rRepr K [.bl b] H Q :=
  ⟨.bl b, .bool b, rfl, .bl b, rfl, rfl, show 0 ≤ 60 by decide, by cases b <;> decide +kernel, q⟩
theorem showable_ints : ∀ ns : List Int, (∀ n ∈ ns, n.natAbs.log2 < 1920) → PyData.showableAll (dInts ns) = true
  | [], _ => rfl
  | n :: ns, h => by
    show (PyData.showable (.int n) && PyData.showableAll (dInts ns)) = true
    rw [showable_ints ns fun m hm => h m (List.mem_cons_of_mem _ hm), Bool.and_true]
    exact decide_eq_true (h n List.mem_cons_self)
theorem noDict_ints : ∀ ns : List Int, PyData.hasDictAll (dInts ns) = false
  | [] => rfl
  | n :: ns => by
    show (PyData.hasDict (.int n) || PyData.hasDictAll (dInts ns)) = false
    rw [noDict_ints ns]
    rfl
theorem piled_ints : ∀ ns : List Int, (∀ n ∈ ns, n.natAbs.log2 < 1920) → piled (PyData.shownAll (dInts ns)) ≤ ns.length * 1923
  | [], _ => Nat.le_refl _
  | n :: ns, h => by
    have ih := piled_ints ns fun m hm => h m (List.mem_cons_of_mem _ hm)
    have h1 : (PyData.shown (.int n)).length ≤ 1921 := int_text_len_1921 (h n List.mem_cons_self)
    show piled (PyData.shown (.int n) :: PyData.shownAll (dInts ns)) ≤ (ns.length + 1) * 1923
    rw [piled_cons]
    omega
/-- repr of a tuple of ints -/
theorem w_rprT {a : Addr} {ns : List Int} (S : SqT K H a (ns.map V.int)) (h : ∀ n ∈ ns, n.natAbs.log2 < 1920) (hl : ns.length ≤ 1000) (q : Q (.str (PyData.shown (.tuple (dInts ns)))) H) : rRepr K [.ref a] H Q := by
  refine ⟨.ref a, .tuple (dInts ns), rfl, .tup S (dp_ints ns), showable_ints ns h, noDict_ints ns, ?_, ?_, q⟩
  · show PyData.depthAll (dInts ns) + 1 ≤ 60
    rw [dep_ints]
    decide
  · have hp := piled_ints ns h
    show (tupleText (PyData.shownAll (dInts ns))).length ≤ sizeLine
    have hz : sizeLine = 16777216 := by decide +kernel
    have hj : (Str.join ", " (PyData.shownAll (dInts ns))).length ≤ piled (PyData.shownAll (dInts ns)) := by
      by_cases e : PyData.shownAll (dInts ns) = []
      · rw [e]
        decide +kernel
      · have := join_length_add _ e
        omega
    unfold tupleText
    rw [Str.length_append, Str.length_append]
    have h1 : ("(" : Str).length = 1 := by decide +kernel
    have h2 : ((if (PyData.shownAll (dInts ns)).length == 1 then ",)" else ")" : String) : Str).length ≤ 2 := by
      split <;> decide +kernel
    omega
theorem w_neS {x y : Str} (h : Q (.bl (!decide (x = y))) H) : aNe K (.str x) (.str y) H Q := .inl ⟨rfl, by
  rw [show decide (V.str x = V.str y) = decide (x = y) from decide_eq_decide.mpr ⟨fun e => by cases e; rfl, fun e => by rw [e]⟩]
  exact h⟩
theorem w_eqS {x y : Str} (h : Q (.bl (decide (x = y))) H) : aEq K (.str x) (.str y) H Q := .inl ⟨rfl, by
  rw [show decide (V.str x = V.str y) = decide (x = y) from decide_eq_decide.mpr ⟨fun e => by cases e; rfl, fun e => by rw [e]⟩]
  exact h⟩
end
section
variable {K : PySem.W.Frag} {σ : L2.St} {H : Hp} {nx bk ct : L2.St → Hp → Prop} {rt Q : VK} {te : TE} {x y v : V} {a : Addr} {xs vs : List V} {n : Nat} {t : TGs} {g : TG} {N : L2.St → Hp → Prop}
theorem w_asgT (h : te σ H fun v H1 => gTup K n t v σ H1 nx) : tAsg te (gTup K n t) ⟨nx, rt, bk, ct⟩ σ H := h
theorem w_gtup (S : SqT K H a xs) (e : xs.length = n) (h : t xs σ H N) : gTup K n t (.ref a) σ H N := ⟨a, xs, rfl, S, e, h⟩
theorem w_gcons (h : g v σ H fun σ' H' => t vs σ' H' N) : gCons g t (v :: vs) σ H N := ⟨v, vs, rfl, h⟩
theorem w_gnil (h : N σ H) : gNil [] σ H N := ⟨rfl, h⟩
theorem w_nisS {b : Bool} (h : Q (.bl false) H) : aNis (.bl b) (.bl b) H Q := .inl ⟨b, b, rfl, rfl, by rw [decide_eq_true rfl]; exact h⟩
theorem w_nisB {b c : Bool} (h : Q (.bl (!decide (b = c))) H) : aNis (.bl b) (.bl c) H Q := .inl ⟨b, c, rfl, rfl, h⟩
end
end NL
set_option maxRecDepth 100000
set_option maxHeartbeats 2000000
/-! What the end of a law gathers. -/
namespace NL
open PySem PySem.Spec PyProof.Rows L2

section
variable {P : Program} {K : PySem.W.Frag} {h : Heap} {mg : Str → Option Value}
/-- a def where the written part shows it -/
theorem def_mk {x : Str} {st : Stmt} {ps : List Str} {f : Addr} {oc : Value} {od an : Option Addr} {osl : Array (Option Value)} {kV doc pm cdv ct : Value} (X : K.In h) (G : h.Ns mainGlobals mg)
    (hx : PySem.W.nsIn K mainGlobals x = some (some (.ref f)))
    (l : K.lookup f = some ⟨oc, od, .func (PySem.W.fnOf x x (defArgs st) (defBody st) (defScope st) .none kV doc pm an cdv ct), osl⟩)
    (c : PySem.W.codeIn K cdv x = true) (k : PySem.W.keepIn K (.ref f) = true)
    (hb : ∀ (kV doc pm : Value) (an : Option Addr) (cdv ct : Value) (us : List Value), us.length = ps.length → bindArgs (PySem.W.fnOf x x (defArgs st) (defBody st) (defScope st) .none kV doc pm an cdv ct) ⟨us, []⟩ = pure (ps.zip us)) :
    Def K mg x st ps := ⟨f, _, fun_mk l c k, PySem.W.mg_of X G hx, (fun_mk l c k).binds hb⟩
theorem defC_mk {x : Str} {st : Stmt} {ps : List Str} {f c0 : Addr} {oc : Value} {od an : Option Addr} {osl : Array (Option Value)} {kV doc pm ct : Value} (X : K.In h) (G : h.Ns mainGlobals mg)
    (hx : PySem.W.nsIn K mainGlobals x = some (some (.ref f)))
    (l : K.lookup f = some ⟨oc, od, .func (PySem.W.fnOf x x (defArgs st) (defBody st) (defScope st) .none kV doc pm an (.ref c0) ct), osl⟩)
    (c : PySem.W.codeIn K (.ref c0) x = true) (k : PySem.W.keepIn K (.ref f) = true)
    (hb : ∀ (kV doc pm : Value) (an : Option Addr) (cdv ct : Value) (us : List Value), us.length = ps.length → bindArgs (PySem.W.fnOf x x (defArgs st) (defBody st) (defScope st) .none kV doc pm an cdv ct) ⟨us, []⟩ = pure (ps.zip us)) :
    DefC K mg x st ps c0 := ⟨f, _, fun_mk l c k, PySem.W.mg_of X G hx, (fun_mk l c k).binds hb, rfl⟩

/-! ### an error's class -/
theorem exm_of {C D : Addr} (h1 : PySem.W.subIn K (.ref C) (.type "BaseException") = some true) (h2 : PySem.W.isClsIn K C = true)
    (h1' : PySem.W.subIn K (.ref D) (.type "BaseException") = some true) (h2' : PySem.W.isClsIn K D = true) (h3 : PySem.W.typeIn K (.ref D) = some (.type "type"))
    {b : Bool} (h4 : PySem.W.subIn K (.ref C) (.ref D) = some b) : PySem.W.exmOne K (.ref C) (.ref D) = some b := by
  have a1 : (PySem.W.subIn K (.ref D) (.type "BaseException") == some true) = true := by rw [h1'] <;> rfl
  have a2 : ((PySem.W.clsIn K D).isSome && PySem.W.typeIn K (.ref D) == some (.type "type")) = true := by
    have q : (PySem.W.clsIn K D).isSome = true := h2'
    rw [q, h3] <;> rfl
  show (if (PySem.W.subIn K (.ref D) (.type "BaseException") == some true) = true then (if ((PySem.W.clsIn K D).isSome && PySem.W.typeIn K (.ref D) == some (.type "type")) = true then PySem.W.subIn K (.ref C) (.ref D) else none) else none) = some b
  rw [if_pos a1, if_pos a2]
  exact h4
/-- an error's __init__: super().__init__(text); self.at = at -/
def InitShape (st : Stmt) : Prop := ∃ (msg : Str) (j : Nat) (p0 p1 p2 p3 p4 p5 q1 q2 q3 q4 : Pos),
  defBody st = [.Expr (.Call (.Attribute (.Call (.Name "super" p0) [] [] p1) "__init__" p2) [.Constant (.str msg) j p3] [] p4) p5, .Assign [.Attribute (.Name "self" q1) "at" q2] (.Name "at" q3) q4] ∧
  SuperCall msg j p0 p1 p2 p3 p4 ∧ defScope st = atScope ∧ ∃ ar : Arg, ((defArgs st).posonlyargs ++ (defArgs st).args).head? = some ar ∧ ar.arg = "self"
theorem errK_mk {x qual nm q : Str} {st : Stmt} {C fI cc cda N : Addr} {bs bm : List Value} {sn : List Str} {sub : List Value} {ab : Bool} {col : Option Bool} {dd od an cdd cld : Option Addr} {k0 k1 k2 k3 k5 : Option Value}
    {oc doc pm ct ccl cl : Value} {osl ccs csl : Array (Option Value)} {vs : Array Value} {file : Str} {tf : Tok} (X : K.In h) (G : h.Ns mainGlobals mg)
    (hx : PySem.W.nsIn K mainGlobals x = some (some (.ref C)))
    (xL : K.lookup C = some (excClassObj nm q C N bs bm true sn sub ab col dd k0 k1 k2 k3 k5 "ValueError.__new__")) (xV : PySem.HandSPX.refsVE bm = true)
    (sa : PySem.W.findIn K (.ref C) "__setattr__" = some (some (.builtin "object.__setattr__")))
    (exC : PySem.W.subIn K (.ref C) (.type "BaseException") = some true) (tyC : PySem.W.typeIn K (.ref C) = some (.type "type")) (kC : PySem.W.keepIn K (.ref C) = true)
    (iC : PySem.W.findIn K (.ref C) "__init__" = some (some (.ref fI))) (tI : PySem.W.typeIn K (.ref fI) = some (.type "function"))
    (fn : K.lookup fI = some ⟨oc, od, .func (PySem.W.ksFn "__init__" qual (defArgs st) (defBody st) (defScope st) .none .none doc pm an (.ref cda) ct cc), osl⟩)
    (cd : PySem.W.codeIn K (.ref cda) qual = true) (fl : K.lookup cda = some ⟨ccl, cdd, .fields vs, ccs⟩) (fv : vs[2]? = some (.str file tf)) (fP : ((P.main.file : Str) == file) = true)
    (ce : K.lookup cc = some ⟨cl, cld, .cell (some (.ref C)), csl⟩) (mr : PySem.W.mroIn K C (.ref C) = some true)
    (sup : PySem.W.nsIn K mainGlobals "super" = some none) (any : PySem.W.nsIn K PySem.cStatics "thirdparty.any" = some none)
    (si : PySem.W.ks_superIn K C C "__init__" = some (some (.builtin "ValueError.__init__"))) (sv : PySem.W.subIn K (.ref C) (.type "ValueError") = some true)
    (top : (P.main.scope.names.lookup ("super" : Str)).isSome = false)
    (noAt : PySem.W.findIn K (.ref C) "at" = some none)
    (hg : PySem.W.findIn K (.ref C) "__getattribute__" = some (some (.builtin "BaseException.__getattribute__"))) (hk : PySem.W.findIn K (.ref C) "__getattr__" = some none)
    (hd : PySem.W.hasDictIn K C = true) (ha : PySem.W.findIn K (.ref C) "__class__" = some (some (.builtin "object.__class__")))
    (hn : PySem.W.specialIn K (.builtin "object.__class__") "__get__" = some (some (.builtin "getset_descriptor.__get__"))) (ht : PySem.W.takesIn K (.builtin "object.__class__") = some true)
    (hm : PySem.W.mroIn K C (.type "object") = some true) (icl : PySem.W.isClsIn K C = true) (sCC : PySem.W.subIn K (.ref C) (.ref C) = some true)
    (shape : InitShape st)
    (hb : ∀ (doc pm : Value) (an : Option Addr) (cdv ct : Value) (cc : Addr) (us : List Value), us.length = 2 →
      bindArgs (PySem.W.ksFn "__init__" qual (defArgs st) (defBody st) (defScope st) .none .none doc pm an cdv ct cc) ⟨us, []⟩ = pure ((["self", "at"] : List Str).zip us)) :
    ErrK P K mg x C := by
  have ox : OexC K C := ⟨⟨nm, q, N, bs, bm, sn, sub, ab, col, dd, k0, k1, k2, k3, k5, xL, xV⟩, sa, exC, tyC, kC⟩
  have F : ErrF P K C fI cc cda qual (defArgs st) (defBody st) (defScope st) :=
    ⟨ox, iC, tI, ⟨_, _, _, _, _, _, _, fn⟩, cd, ⟨_, _, _, _, _, _, fl, fv, fP⟩, ⟨_, _, _, ce⟩, mr, sup, any, si, sv, top⟩
  obtain ⟨msg, j, p0, p1, p2, p3, p4, p5, q1, q2, q3, q4, eb, sc, es, ar, h1, h2⟩ := shape
  rw [eb, es] at F
  refine ⟨PySem.W.mg_of X G hx, ox, ⟨fI, _, iC, tI, .all (hb doc pm an (.ref cda) ct cc), fun w base => ?_⟩, ⟨hg, hk, exC, hd, ha, hn, ht, hm⟩, noAt, exm_of exC icl exC icl tyC sCC⟩
  refine err_init F ⟨doc, pm, an, ct, ?_, oc, od, osl, fn⟩ h1 h2 sc noAt
  rw [eb, es]
theorem fd_one {x q : Str} {st : Stmt} {f : Addr} {d e : FuncData} (F : Fun K x q st f d) (G : Fun K x q st f e) : d = e := by
  obtain ⟨_, _, _, _, _, _, _, _, _, _, l1, _⟩ := F.ex
  obtain ⟨_, _, _, _, _, _, _, _, _, _, l2, _⟩ := G.ex
  have z := l1.symm.trans l2
  injection z with z
  injection z with _ _ z
  injection z
/-- the law's def at its one place -/
theorem law_mk {w : World} {x y : Str} {st : Stmt} {fa : Addr} {k : Nat} {sp : Sp} {cs : List (Addr × Addr)} (D : Def K mg x st [y]) (hfa : mg x = some (.ref fa))
    (hb : ∀ (kV doc pm : Value) (an : Option Addr) (cdv ct u : Value), bindArgs (PySem.W.fnOf x x (defArgs st) (defBody st) (defScope st) .none kV doc pm an cdv ct) ⟨[u], []⟩ = pure [(y, u)])
    (ok : ∀ base : Heap, K.In base → base.Ns mainGlobals mg → (∀ p ∈ cs, LamX.TabB base mg p.1 p.2) → KeptG P w K mg base CX0 k x st [y] sp) :
    ∃ fd : FuncData, (∀ (s : Shared) (u : Value), BindsTo s fd ⟨[u], []⟩ [(y, u)]) ∧
      ∀ base : Heap, K.In base → base.Ns mainGlobals mg → (∀ p ∈ cs, LamX.TabB base mg p.1 p.2) → FnG P w K mg base CX0 k fa fd [y] sp := by
  obtain ⟨f, fd, F, g, _⟩ := D
  cases g.symm.trans hfa
  refine ⟨fd, fun s u => ?_, fun base h1 h2 h3 => ?_⟩
  · obtain ⟨_, _, kV, doc, pm, an, cdv, ct, _, rfl, _⟩ := F.ex
    exact .of_eq (hb kV doc pm an cdv ct u)
  · obtain ⟨f2, fd2, F2, g2, _, G⟩ := ok base h1 h2 h3
    cases g2.symm.trans hfa
    cases fd_one F F2
    exact G
/-- the law's table -/
theorem tab_mk {c PT : Addr} (X : K.In h) (e : PySem.W.codeHdIn K c PT = true) : PySem.W.CodeHd h c PT := PySem.W.codeHd_of_K X e
end
end NL
set_option maxRecDepth 100000
set_option maxHeartbeats 2000000
/-! sorted(t), t a tuple of ints. -/
namespace NL
open PySem PySem.Spec PyProof.Rows L2
section
variable {prog : Program} {w : World} {A : Around} {E : Value → Shared → Prop} {s : Shared}
/-- the heap with the gathered list -/
abbrev gathered (h : Heap) (vs : List Value) : Heap := (h.push (seqObj "list" #[] 0)).update h.objs.size (Obj.mapSeq (· ++ vs.toArray))
theorem gather_tup {t : Addr} {vs : List Value} {Q : List Value → Shared → Prop} (ht : IsTup s.heap t vs.toArray) (hz : vs.length ≤ sizeLine)
    (h : Q vs { s with heap := gathered s.heap vs }) : wpAny (model prog w) A (collect (.ref t)) Q E s := by
  obtain ⟨ot, got, hcls, n, hdat⟩ := ht
  unfold collect
  refine wpAny_bind (wpAny_runValue (codeAny_builtin entry_proto_collect' ?_))
  show wpAny (model prog w) _ (do again (.builtin "list.__iadd__" ⟨[← newList [], .ref t], []⟩)) _ _ s
  refine wpAny_bind (wpAny_newList (wpAny_pure ⟨Code.quiet_builtin _ (by decide +kernel), ?_⟩))
  refine codeAny_builtin entry_list_iadd' ?_
  show wpAny (model prog w) _ (Builtin.List.listExtendWith (.ref s.heap.objs.size) (.ref t) (.ref s.heap.objs.size)) _ _ { s with heap := s.heap.push (seqObj "list" #[] 0) }
  unfold Builtin.List.listExtendWith
  have got' : (s.heap.push (seqObj "list" #[] 0)).get? t = some ot := Heap.get?_push_of_some _ got
  have e0 := Heap.get?_push_size s.heap (o := seqObj "list" #[] 0) rfl
  refine wpAny_bind (wpAny_typeOf (T := "tuple") ⟨ot, got', hcls⟩ ?_)
  have both : (Value.type "tuple" == Value.type "tuple") = true := by rfl
  rw [if_pos (by rw [both, Bool.or_true])]
  refine wpAny_bind (listItems_at got' hdat ?_)
  refine wpAny_bind (listItems_at (xs := #[]) (n := 0) e0 rfl ?_)
  rw [if_neg (by simp)]
  have fits : (#[] ++ vs.toArray).size ≤ sizeLine + 1 := by
    simp only [Array.size_append, List.size_toArray, List.length_nil]
    omega
  refine wpAny_bind (listUpdate_at (xs := #[]) (n := 0) e0 rfl ?_ (Nat.zero_le _) fits)
  refine wpAny_pure ?_
  show wpAny (model prog w) A (do
    let o ← load s.heap.objs.size
    match o.data with
    | .seq xs _ => pure xs.toList
    | _ => unsupported "internal:collect") Q E { s with heap := gathered s.heap vs }
  refine wpAny_bind (wpAny_load (get?_update_seq e0 _) ?_)
  show wpAny _ _ (pure ((#[] : Array Value) ++ vs.toArray).toList) Q E _
  have e1 : ((#[] : Array Value) ++ vs.toArray).toList = vs := by simp
  rw [e1]
  exact wpAny_pure h
open SrtO in
theorem sorted_tup {t : Addr} {vs : List Value} {ltv : Value → Value → Bool} {Q : Value → Shared → Prop} (O : Swo ltv) (ht : IsTup s.heap t vs.toArray) (hz : vs.length ≤ sizeLine)
    (hS : 2 ≤ vs.length → ∀ (h₁ : Heap) (a : Addr), h₁.get? a = some (seqObj "list" vs.toArray 0) → (∀ b o, s.heap.get? b = some o → b ≠ a ∧ h₁.get? b = some o) → SortableO prog w A.in1.in1 { s with heap := h₁ } a vs ltv)
    (h : ∀ out : List Value, Srtd ltv out → Stb ltv out vs → Q (.ref (s.heap.objs.size + 1)) { s with heap := sortedAll s.heap vs out.toArray }) :
    wpAny (model prog w) A (call (.builtin "sorted") [.ref t]) Q E s := by
  refine Calls.call_function_entry kind_sorted plain_sorted entry_sorted (args_sorted1 _) ?_
  unfold Builtin.«sorted»
  refine wpAny_bind (m := checkCount "sorted" 1 1 _) (wpAny_pure ?_)
  refine wpAny_bind (gather_tup ht hz ?_)
  refine wpAny_bind (wpAny_newList ?_ hz)
  have z1 : (gathered s.heap vs).objs.size = s.heap.objs.size + 1 := by rw [Heap.size_update, size_push']
  have at1 : ((gathered s.heap vs).push (seqObj "list" vs.toArray 0)).get? (s.heap.objs.size + 1) = some (seqObj "list" vs.toArray 0) := by
    rw [← z1]
    exact Heap.get?_push_size _ rfl
  have old : ∀ b o, s.heap.get? b = some o → b ≠ s.heap.objs.size + 1 ∧ ((gathered s.heap vs).push (seqObj "list" vs.toArray 0)).get? b = some o := by
    intro b o q
    have lt := Heap.lt_size q
    refine ⟨Nat.ne_of_lt (Nat.lt_add_right 1 lt), Heap.get?_push_of_some _ ?_⟩
    show ((s.heap.push (seqObj "list" #[] 0)).update s.heap.objs.size _).get? b = some o
    rw [Heap.get?_update_ne _ _ _ _ (Nat.ne_of_lt lt)]
    exact Heap.get?_push_of_some _ q
  show wpAny _ _ _ _ _ { s with heap := (gathered s.heap vs).push (seqObj "list" vs.toArray 0) }
  rw [z1]
  refine wpAny_bind (wpAny_holding (wpAny_call_entry slot_list_sort ⟨_, at1, rfl⟩ entry_list_sort ?_ (args_list_sort _)))
  refine list_sort_ord O at1 hz (fun two => hS two _ _ at1 old) fun out so sb => ⟨_, rfl, wpAny_pure ⟨_, rfl, h out so sb⟩⟩
end
/-- sorted(t), t a tuple of ints -/
def rSortedTI (K : PySem.W.Frag) : List V → Hp → VK → Prop := fun vs H Q => ∃ (a : Addr) (ns : List Int), vs = [V.ref a] ∧ SqT K H a (ns.map V.int) ∧
  ∀ (ns' : List Int) (p : Addr), ns'.Perm ns → ns'.Pairwise (· ≤ ·) → H p = none → Q (.ref p) (upd H p (.lst (ns'.map V.int)))
section
variable {X : Cx}
theorem cr_sortedTI : CallR X (.builtin "sorted") (rSortedTI X.K) := by
  intro pins s σ H vs us Q I r h
  obtain ⟨a, ns, rfl, S, q⟩ := h
  obtain ⟨its, rv, it, hz⟩ := I.tuple S
  rw [Vals.ref1 r]
  have hi := rv.ints
  refine sorted_tup SrtO.swo_int it (by rw [← rv.length]; exact hz) (fun two _ _ _ _ => SrtO.ints_sortable hi two) fun out so sb => ?_
  obtain ⟨k1, k2, k3⟩ := SrtO.ints_out hi so sb
  obtain ⟨ep, he⟩ := PyProof.Rows.sortedAll_at s.heap its out.toArray
  have hl : ((out.map SrtO.iv).map V.int).length ≤ sizeLine := by
    rw [List.length_map, k2.length_eq]
    rw [List.length_map] at hz
    exact hz
  refine ⟨.ref (s.heap.objs.size + 1), upd H (s.heap.objs.size + 1) (.lst ((out.map SrtO.iv).map V.int)), ?_, rfl, q _ _ k2 k3 (I.hok.fresh (Nat.le_succ _))⟩
  exact I.laid (t' := s.toks) (fun _ _ => PyProof.Rows.sortedAll_old) (Nat.le_succ _) ⟨hl, out, ep, vals_of_ints k1, he⟩
def aSort (K : PySem.W.Frag) : List V → Hp → VK → Prop := fun xs H Q => ∃ (a : Addr) (ns : List Int), xs = [V.ref a] ∧ (SqL K H a (ns.map V.int) ∨ SqT K H a (ns.map V.int)) ∧
  ∀ (ns' : List Int) (p : Addr), ns'.Perm ns → ns'.Pairwise (· ≤ ·) → H p = none → Q (.ref p) (upd H p (.lst (ns'.map V.int)))
theorem cSort : CallR X (.builtin "sorted") (aSort X.K) := by
  intro pins s σ H vs us Q I r h
  obtain ⟨a, ns, e, S | S, q⟩ := h
  · exact cr_sortedI pins s σ H vs us Q I r ⟨a, ns, e, S, q⟩
  · exact cr_sortedTI pins s σ H vs us Q I r ⟨a, ns, e, S, q⟩
end
end NL
set_option maxRecDepth 100000
set_option maxHeartbeats 2000000
/-! Values as data: what they are, what stays. -/
namespace NL
open PySem PySem.Spec PyProof.Rows L2
section
variable {K : PySem.W.Frag} {H H' : Hp} {x : V} {d : PyData} {a : Addr} {xs : List V} {ds : List PyData} {Q : VK}
theorem same_l (e : Same H H') (h : SqL K H a xs) : SqL K H' a xs := e.seq h
mutual
theorem Dp.same : ∀ {x : V} {d : PyData}, Dp K H x d → Same H H' → Dp K H' x d
  | _, _, .non, _ => .non
  | _, _, .bl b, _ => .bl b
  | _, _, .int i, _ => .int i
  | _, _, .str y, _ => .str y
  | _, _, .lst S A, e => .lst (e.seq S) (DpAll.same A e)
  | _, _, .tup S A, e => .tup (same_t e S) (DpAll.same A e)
theorem DpAll.same : ∀ {xs : List V} {ds : List PyData}, DpAll K H xs ds → Same H H' → DpAll K H' xs ds
  | _, _, .nil, _ => .nil
  | _, _, .cons h A, e => .cons (Dp.same h e) (DpAll.same A e)
end
def tyD : PyData → String
  | .none => "NoneType"
  | .bool _ => "bool"
  | .int _ => "int"
  | .str _ => "str"
  | .list _ => "list"
  | .tuple _ => "tuple"
  | .dict _ => "dict"
theorem ty_l (h : SqL K H a xs) : TyX K H (.ref a) (.type "list") := by
  rcases h with (h | ⟨o, h⟩) | ⟨o, its, n, hk, hc, _⟩
  · exact .base (.lst h)
  · exact .base (.frz h)
  · exact .kList hk hc
theorem ty_t (h : SqT K H a xs) : TyX K H (.ref a) (.type "tuple") := by
  rcases h with (h | ⟨o, h⟩) | ⟨o, its, n, hk, hc, _⟩
  · exact .base (.tup h)
  · exact .fTuple h
  · exact .kTuple hk hc
/-- a value as data; a dict is known by its kind alone -/
inductive Dv (K : PySem.W.Frag) (H : Hp) : V → PyData → Prop
  | dp {x : V} {d : PyData} (h : Dp K H x d) : Dv K H x d
  | dct {x : V} (h : TyX K H x (.type "dict")) : Dv K H x (.dict [])
theorem Dv.same (h : Dv K H x d) (e : Same H H') : Dv K H' x d := by
  cases h with
  | dp h => exact .dp (Dp.same h e)
  | dct h => exact .dct (ty_same e h)
theorem dp_ty (h : Dp K H x d) : TyX K H x (.type (tyD d)) := by
  cases h with
  | non => exact .base .non
  | bl b => exact .base (.bl b)
  | int i => exact .base (.int i)
  | str y => exact .base (.str y)
  | lst S _ => exact ty_l S
  | tup S _ => exact ty_t S
theorem Dv.ty (h : Dv K H x d) : TyX K H x (.type (tyD d)) := by
  cases h with
  | dp h => exact dp_ty h
  | dct h => exact h
def intD : PyData → Bool
  | .int _ => true
  | _ => false
def boolD : PyData → Bool
  | .bool _ => true
  | _ => false
def tupD : PyData → Bool
  | .tuple _ => true
  | _ => false
def seqD : PyData → Bool
  | .tuple _ => true
  | .list _ => true
  | _ => false
theorem kd_int : ∀ d : PyData, kitB (tyD d) "int" = some (intD d || boolD d)
  | .none => (show kitB "NoneType" "int" = some false by decide +kernel)
  | .bool _ => (show kitB "bool" "int" = some true by decide +kernel)
  | .int _ => (show kitB "int" "int" = some true by decide +kernel)
  | .str _ => (show kitB "str" "int" = some false by decide +kernel)
  | .list _ => (show kitB "list" "int" = some false by decide +kernel)
  | .tuple _ => (show kitB "tuple" "int" = some false by decide +kernel)
  | .dict _ => (show kitB "dict" "int" = some false by decide +kernel)
theorem kd_bool : ∀ d : PyData, kitB (tyD d) "bool" = some (boolD d)
  | .none => (show kitB "NoneType" "bool" = some false by decide +kernel)
  | .bool _ => (show kitB "bool" "bool" = some true by decide +kernel)
  | .int _ => (show kitB "int" "bool" = some false by decide +kernel)
  | .str _ => (show kitB "str" "bool" = some false by decide +kernel)
  | .list _ => (show kitB "list" "bool" = some false by decide +kernel)
  | .tuple _ => (show kitB "tuple" "bool" = some false by decide +kernel)
  | .dict _ => (show kitB "dict" "bool" = some false by decide +kernel)
theorem kd_tuple : ∀ d : PyData, kitB (tyD d) "tuple" = some (tupD d)
  | .none => (show kitB "NoneType" "tuple" = some false by decide +kernel)
  | .bool _ => (show kitB "bool" "tuple" = some false by decide +kernel)
  | .int _ => (show kitB "int" "tuple" = some false by decide +kernel)
  | .str _ => (show kitB "str" "tuple" = some false by decide +kernel)
  | .list _ => (show kitB "list" "tuple" = some false by decide +kernel)
  | .tuple _ => (show kitB "tuple" "tuple" = some true by decide +kernel)
  | .dict _ => (show kitB "dict" "tuple" = some false by decide +kernel)
theorem kd_list : ∀ d : PyData, kitB (tyD d) "list" = some (seqD d && !tupD d)
  | .none => (show kitB "NoneType" "list" = some false by decide +kernel)
  | .bool _ => (show kitB "bool" "list" = some false by decide +kernel)
  | .int _ => (show kitB "int" "list" = some false by decide +kernel)
  | .str _ => (show kitB "str" "list" = some false by decide +kernel)
  | .list _ => (show kitB "list" "list" = some true by decide +kernel)
  | .tuple _ => (show kitB "tuple" "list" = some false by decide +kernel)
  | .dict _ => (show kitB "dict" "list" = some false by decide +kernel)
/-- isinstance(x, T) -/
theorem w_isD {T : String} {b : Bool} (h : Dv K H x d) (e : kitB (tyD d) T = some b) (q : Q (.bl b) H) : aIsi K [x, .ty T] H Q := w_isi h.ty e q
/-- isinstance(x, (list, tuple)) -/
theorem w_isSeq {p : Addr} (h : Dv K H x d) (e : H p = some (.tup [.ty "list", .ty "tuple"])) (q : Q (.bl (seqD d)) H) : aIsi K [x, .ref p] H Q := by
  refine .inr ⟨x, p, [.ty "list", .ty "tuple"], .type (tyD d), [.type "list", .type "tuple"], seqD d, rfl, e, .cons (.ty "list") (.cons (.ty "tuple") .nil), h.ty, ?_, q⟩
  refine kitAny_cons (kit_ty (kd_list d)) (fun _ => kitAny_cons (kit_ty (kd_tuple d)) (fun hf => ?_) (fun ht => ?_)) (fun ht => ?_)
  · rw [kitAny_nil]
    cases d <;> simp_all [seqD, tupD]
  · cases d <;> simp_all [seqD, tupD]
  · cases d <;> simp_all [seqD, tupD]
theorem dp_inv_int {i : Int} (h : Dv K H x (.int i)) : x = .int i := by
  cases h with
  | dp h => cases h; rfl
theorem dp_inv_tup (h : Dv K H x (.tuple ds)) : ∃ a xs, x = .ref a ∧ SqT K H a xs ∧ DpAll K H xs ds := by
  cases h with
  | dp h =>
    cases h with
    | tup S A => exact ⟨_, _, rfl, S, A⟩
theorem dp_inv_lst (h : Dv K H x (.list ds)) : ∃ a xs, x = .ref a ∧ SqL K H a xs ∧ DpAll K H xs ds := by
  cases h with
  | dp h =>
    cases h with
    | lst S A => exact ⟨_, _, rfl, S, A⟩
theorem DpAll.len : ∀ {xs : List V} {ds : List PyData}, DpAll K H xs ds → xs.length = ds.length
  | _, _, .nil => rfl
  | _, _, .cons _ A => congrArg (· + 1) (DpAll.len A)
theorem DpAll.mem : ∀ {xs : List V} {ds : List PyData}, DpAll K H xs ds → ∀ x ∈ xs, ∃ d ∈ ds, Dp K H x d
  | _, _, .cons h A, x, hx => by
    rcases List.mem_cons.mp hx with rfl | hx
    · exact ⟨_, List.mem_cons_self, h⟩
    · obtain ⟨d, hd, q⟩ := DpAll.mem A x hx
      exact ⟨d, List.mem_cons_of_mem _ hd, q⟩
theorem dp_two (A : DpAll K H xs ds) (h : ds.length = 2) : ∃ u v m r, xs = [u, v] ∧ ds = [m, r] ∧ Dp K H u m ∧ Dp K H v r := by
  cases A with
  | nil => cases h
  | cons h1 A =>
    cases A with
    | nil => cases h
    | cons h2 A =>
      cases A with
      | nil => exact ⟨_, _, _, _, rfl, rfl, h1, h2⟩
      | cons _ _ => simp at h
/-- isinstance-free tests of an index -/
def numD : PyData → Bool
  | .int i => decide (0 ≤ i)
  | _ => false
def ixD (n : Int) : PyData → Bool
  | .int i => decide (0 ≤ i) && decide (i < n)
  | _ => false
def ixV (n : Int) : V → Bool
  | .int i => decide (0 ≤ i) && decide (i < n)
  | _ => false
theorem ix_dv {n : Int} (h : Dp K H x d) : ixD n d = ixV n x := by cases h <;> rfl
theorem all_ix {n : Int} : ∀ {xs : List V} {ds : List PyData}, DpAll K H xs ds → xs.all (ixV n) = ds.all (ixD n)
  | _, _, .nil => rfl
  | _, _, .cons h A => by rw [List.all_cons, List.all_cons, all_ix A, ix_dv h]
theorem all_map_id {α : Type} (l : List α) (f : α → Bool) : (l.map f).all id = l.all f := by
  induction l with
  | nil => rfl
  | cons a l ih => rw [List.map_cons, List.all_cons, List.all_cons, ih]; rfl
/-- values of ints -/
theorem dp_ints_inv : ∀ {ns : List Int} {xs : List V}, DpAll K H xs (dInts ns) → xs = ns.map V.int
  | [], _, .nil => rfl
  | n :: ns, _, .cons h A => by
    cases h
    rw [dp_ints_inv A]
    rfl
/-- what one reads of data off its values, one by one -/
theorem paired_data {f : PyData → V} {R : V → V → Prop} (hR : ∀ x y d, Dp K H x d → R x y → y = f d) : ∀ {xs ys : List V} {ds : List PyData}, DpAll K H xs ds → Paired R xs ys → ys = ds.map f
  | _, _, _, .nil, .nil => rfl
  | _, _, _, .cons h A, .cons r p => by rw [hR _ _ _ h r, paired_data hR A p]; rfl
end
theorem w_iteE {c : Bool} {A B : Prop} (e : c = true) (h : A) : if c = true then A else B := by
  rw [if_pos e]
  exact h
theorem w_iteX {c : Bool} {A B : Prop} (e : c = false) (h : B) : if c = true then A else B := by
  rw [if_neg (by rw [e]; decide)]
  exact h
theorem w_iteNE {c : Bool} {A B : Prop} (e : c = true) (h : B) : if (!c) = true then A else B := by
  rw [if_neg (by rw [e]; decide)]
  exact h
theorem w_iteNX {c : Bool} {A B : Prop} (e : c = false) (h : A) : if (!c) = true then A else B := by
  rw [if_pos (by rw [e]; rfl)]
  exact h
theorem int_of (d : PyData) : intD d = ((intD d || boolD d) && !boolD d) := by cases d <;> rfl
/-! ### comprehensions over a range -/
section
variable {K : PySem.W.Frag} {σ : L2.St} {H : Hp} {Q : VK} {te : TE} {tt : TT} {vs : List Nat} {j : Nat} {lo : Int} {n : Nat} {tr : TA}
theorem w_lcR1 (h : tr σ H fun xs H1 => ∃ k : Int, xs = [.int k] ∧ -(2 ^ 62) ≤ k ∧ k < 2 ^ 62 ∧ LcGo (Itr 0 k.toNat) j tt te vs σ H1 Q) : tLc (iRng1 tr) (gName j) tt te vs σ H Q := h
def rngV (lo : Int) (n : Nat) : List V := (List.range n).map fun (i : Nat) => V.int (lo + (i : Int))
theorem rngV_succ (lo : Int) (n : Nat) : rngV lo (n + 1) = rngV lo n ++ [.int (lo + n)] := by
  unfold rngV
  rw [List.range_succ, List.map_append]
  rfl
theorem rngV_len (lo : Int) (n : Nat) : (rngV lo n).length = n := by
  unfold rngV
  rw [List.length_map, List.length_range]
theorem lc_rng_rel (R : V → V → Hp → Prop) (p : V → Bool) (hz : n < sizeLine) (hw : ∀ x, wipe ((wipe σ vs).set j (some x)) vs = wipe σ vs)
    (mono : ∀ D, H D = none → ∀ x y H1 H2, R x y H1 → (∀ b o, b ≠ D → H1 b = some o → H2 b = some o) → R x y H2)
    (ht : ∀ i : Nat, i < n → LcTurn tt te R p H (.int (lo + i)) ((wipe σ vs).set j (some (.int (lo + i))))) (he : ∀ i : Nat, i < n → p (.int (lo + i)) = true → LcElt te R H (.int (lo + i)) ((wipe σ vs).set j (some (.int (lo + i)))))
    (hq : ∀ D H', LcAt R H D ((rngV lo n).filter p) H' → Q (.ref D) H') : LcGo (Itr lo n) j tt te vs σ H Q := fun D hD =>
  lc_range (Qd := fun H' => Q (.ref D) H') (fun i H' => LcAt R H D ((rngV lo i).filter p) H') ⟨hD, Same.newT hD, [], upd_same, .nil⟩
    (fun i H' hi L => ⟨hw _, L.turn (mono D hD) (Nat.lt_of_le_of_lt (Nat.le_trans (List.length_filter_le _ _) (Nat.le_of_eq (rngV_len lo i))) (Nat.lt_trans hi hz)) (ht i hi) (he i hi)
      (fun hp H2 L2 => by rw [rngV_succ, List.filter_append, List.filter_cons, if_pos hp]; exact L2) (fun hp H2 L2 => by rw [rngV_succ, List.filter_append, List.filter_cons, if_neg (by rw [hp]; decide)]; simpa using L2)⟩)
    (fun H' L => hq D H' L)
end
theorem lt_size {n : Nat} (h : n ≤ 1000000) : n < sizeLine := Nat.lt_of_le_of_lt h (by decide +kernel)
theorem at_nat {ns : List Int} {z : Int} {i : Nat} (e : z = (i : Int)) (h : i < ns.length) : atI (ns.map V.int) z = some (.int (ns.getD i 0)) := by
  subst e
  unfold atI ixN
  rw [List.length_map, if_pos (by omega), if_pos (by omega)]
  show (ns.map V.int)[((i : Int)).toNat]? = _
  rw [Int.toNat_natCast, List.getElem?_map, List.getElem?_eq_getElem h, List.getD_eq_getElem?_getD, List.getElem?_eq_getElem h]
  rfl
theorem rngV_map {n : Nat} (g : V → V) (f : Nat → V) (h : ∀ i : Nat, g (.int (0 + (i : Int))) = f i) : (rngV 0 n).map g = (List.range n).map f := by
  unfold rngV
  rw [List.map_map]
  exact List.map_congr_left fun i _ => h i
/-! ### one or the other walk -/
def iOr (u v : TI) : TI := fun σ H R => u σ H R ∨ v σ H R
section
variable {X : Cx} {tg l : Expr} {u v : TI} {σ : L2.St} {H : Hp} {Q : VK} {g : TG} {tt : TT} {te : TE} {vs : List Nat} {t : TS} {D : Ends}
theorem pi_or (a : PI X tg l u) (b : PI X tg l v) : PI X tg l (iOr u v) := ⟨fun pins s σ H R I h => h.elim (a.run pins s σ H R I) (b.run pins s σ H R I)⟩
theorem w_lc1 (h : tLc u g tt te vs σ H Q) : tLc (iOr u v) g tt te vs σ H Q := .inl h
theorem w_lc2 (h : tLc v g tt te vs σ H Q) : tLc (iOr u v) g tt te vs σ H Q := .inr h
theorem w_for1 (h : tFor u g t D σ H) : tFor (iOr u v) g t D σ H := .inl h
theorem w_for2 (h : tFor v g t D σ H) : tFor (iOr u v) g t D σ H := .inr h
end
/-! ### lists made by a plain map -/
section
variable {K : PySem.W.Frag} {σ : L2.St} {H : Hp} {Q : VK} {te : TE} {vs : List Nat} {i j : Nat} {a : Addr} {xs : List V} {tl : TE}
theorem lc_mapL (f : V → V) (S : SqL K H a xs) (hz : xs.length < sizeLine) (hw : ∀ x, wipe ((wipe σ vs).set j (some x)) vs = wipe σ vs)
    (he : ∀ x ∈ xs, LcElt te (fun x y _ => y = f x) H x ((wipe σ vs).set j (some x))) (hq : ∀ D H', H D = none → Same H H' → H' D = some (.lst (xs.map f)) → Q (.ref D) H') : LcGo (Itl K a) j tYes te vs σ H Q :=
  lc_lst_rel (fun x y _ => y = f x) (fun _ => true) S hz hw (fun _ _ _ _ _ _ r _ => r) (fun _ _ => turn_yes) (fun x hx _ => he x hx) fun D H' L => by
    rw [filter_true] at L
    obtain ⟨nw, sm, zs, e, pr⟩ := L
    rw [paired_eq pr] at e
    exact hq D H' nw sm e
theorem lc_mapT (f : V → V) (S : SqT K H a xs) (hz : xs.length < sizeLine) (hw : ∀ x, wipe ((wipe σ vs).set j (some x)) vs = wipe σ vs)
    (he : ∀ x ∈ xs, LcElt te (fun x y _ => y = f x) H x ((wipe σ vs).set j (some x))) (hq : ∀ D H', H D = none → Same H H' → H' D = some (.lst (xs.map f)) → Q (.ref D) H') : LcGo (Itt K a) j tYes te vs σ H Q :=
  lc_tup_rel (fun x y _ => y = f x) (fun _ => true) S hz hw (fun _ _ _ _ _ _ r _ => r) (fun _ _ => turn_yes) (fun x hx _ => he x hx) fun D H' L => by
    rw [filter_true] at L
    obtain ⟨nw, sm, zs, e, pr⟩ := L
    rw [paired_eq pr] at e
    exact hq D H' nw sm e
theorem w_lcSeq (f : V → V) (hv : σ[i]? = some (some (.ref a))) (S : SqL K H a xs ∨ SqT K H a xs) (hz : xs.length < sizeLine) (hw : ∀ x, wipe ((wipe σ vs).set j (some x)) vs = wipe σ vs)
    (he : ∀ x ∈ xs, LcElt te (fun x y _ => y = f x) H x ((wipe σ vs).set j (some x))) (hq : ∀ D H', H D = none → Same H H' → H' D = some (.lst (xs.map f)) → Q (.ref D) H') :
    tLc (iOr (iList K (tVar i)) (iTup K (tVar i))) (gName j) tYes te vs σ H Q := by
  rcases S with S | S
  · exact w_lc1 (w_lcL (w_var hv (w_ref ⟨⟨_, S⟩, lc_mapL f S hz hw he hq⟩)))
  · exact w_lc2 (w_lcT (w_var hv (w_ref ⟨⟨_, S⟩, lc_mapT f S hz hw he hq⟩)))
theorem dp_seq {x : V} {d : PyData} (h : Dv K H x d) (e : seqD d = true) : ∃ a xs ds, x = .ref a ∧ (SqL K H a xs ∨ SqT K H a xs) ∧ DpAll K H xs ds ∧ (d = .list ds ∨ d = .tuple ds) := by
  cases d with
  | list ds =>
    obtain ⟨a, xs, e1, S, A⟩ := dp_inv_lst h
    exact ⟨a, xs, ds, e1, .inl S, A, .inl rfl⟩
  | tuple ds =>
    obtain ⟨a, xs, e1, S, A⟩ := dp_inv_tup h
    exact ⟨a, xs, ds, e1, .inr S, A, .inr rfl⟩
  | _ => cases e
theorem sq_same {H' : Hp} (S : SqL K H a xs ∨ SqT K H a xs) (e : Same H H') : SqL K H' a xs ∨ SqT K H' a xs := S.elim (fun S => .inl (e.seq S)) fun S => .inr (same_t e S)
end
/-! ### what is drawn while a list is made -/
theorem lc_rng_inv {σ : L2.St} {H : Hp} {Q : VK} {te : TE} {vs : List Nat} {j : Nat} {lo : Int} {n : Nat} (Pv : Addr → Nat → Hp → Prop) (h0 : ∀ D, H D = none → Pv D 0 (upd H D (.lst [])))
    (hw : ∀ x, wipe ((wipe σ vs).set j (some x)) vs = wipe σ vs)
    (hs : ∀ D (i : Nat) H', H D = none → i < n → Pv D i H' → te ((wipe σ vs).set j (some (.int (lo + i)))) H' fun y H4 => ∃ acc, H4 D = some (.lst acc) ∧ acc.length < sizeLine ∧ Pv D (i + 1) (upd H4 D (.lst (acc ++ [y]))))
    (hq : ∀ D H', H D = none → Pv D n H' → Q (.ref D) H') : LcGo (Itr lo n) j tYes te vs σ H Q := fun D hD =>
  lc_range (Qd := fun H' => Q (.ref D) H') (fun i H' => Pv D i H') (h0 D hD) (fun i H' hi L => ⟨hw _, hs D i H' hD hi L⟩) (fun H' L => hq D H' hD L)
theorem DealAt.updN {H : Hp} {a l p : Addr} {o : HO} (d : DealAt H a l) (h1 : p ≠ a) (h2 : p ≠ l) : DealAt (upd H p o) a l := by
  obtain ⟨ne, ns, b, e1, e2, r⟩ := d
  exact ⟨ne, ns, b, by rw [upd_ne (Ne.symm h1)]; exact e1, by rw [upd_ne (Ne.symm h2)]; exact e2, r⟩
theorem Fr.updN {H H1 : Hp} {a l p : Addr} {o : HO} (x : Fr a l H H1) (h : H p = none) : Fr a l H (upd H1 p o) := fun b u e h1 h2 => by
  rw [upd_ne (ne_of_none e h)]
  exact x b u e h1 h2
theorem DealAt.off {H : Hp} {a l p : Addr} (d : DealAt H a l) (h : H p = none) : p ≠ a ∧ p ≠ l := by
  obtain ⟨ne, ns, b, e1, e2, r⟩ := d
  exact ⟨(ne_of_none e1 h).symm, (ne_of_none e2 h).symm⟩
theorem w_isN {x : V} {H : Hp} {Q : VK} (h : Q (.bl (decide (x = .non))) H) : aIs x .non H Q := .inr ⟨rfl, h⟩
end NL
set_option maxRecDepth 100000
set_option maxHeartbeats 2000000
/-! Lists made by two walks: a list outside, a range inside. -/
namespace NL
open PySem PySem.Spec PyProof.Rows L2
/-- the list under way at D: one value for each key -/
structure LcG {β : Type} (R : β → V → Hp → Prop) (H : Hp) (D : Addr) (ks : List β) (H' : Hp) : Prop where
  nw : H D = none
  sm : Same H H'
  at_ : ∃ ys, H' D = some (.lst ys) ∧ Paired (fun k y => R k y H') ks ys
def MonoD {β : Type} (R : β → V → Hp → Prop) (D : Addr) : Prop := ∀ k y H1 H2, (∃ acc, H1 D = some (.lst acc)) → R k y H1 → (∀ b o, b ≠ D → H1 b = some o → H2 b = some o) → R k y H2
section
variable {β : Type} {R : β → V → Hp → Prop} {H H' H4 : Hp} {D : Addr} {ks : List β} {k : β} {y : V}
theorem LcG.keep (L : LcG R H D ks H') (mono : MonoD R D) (e : Same H' H4) : LcG R H D ks H4 := by
  obtain ⟨nw, sm, ys, e1, pr⟩ := L
  exact ⟨nw, sm.trans e, ys, e _ _ e1, Paired.mapP pr fun a b r => mono a b _ _ ⟨ys, e1⟩ r fun c o _ q => e c o q⟩
theorem LcG.push (L : LcG R H D ks H4) (mono : MonoD R D) (r : R k y H4) (hz : ks.length < sizeLine) :
    ∃ acc, H4 D = some (.lst acc) ∧ acc.length < sizeLine ∧ LcG R H D (ks ++ [k]) (upd H4 D (.lst (acc ++ [y]))) := by
  obtain ⟨nw, sm, ys, e1, pr⟩ := L
  have hl : ys.length < sizeLine := by
    have := Paired.length pr
    omega
  have far : ∀ b o, b ≠ D → H4 b = some o → upd H4 D (.lst (ys ++ [y])) b = some o := fun b o hb q => by
    rw [upd_ne hb]
    exact q
  exact ⟨ys, e1, hl, nw, Same.putT sm nw, _, upd_same, paired_snoc (Paired.mapP pr fun a b r => mono a b _ _ ⟨ys, e1⟩ r far) (mono _ _ _ _ ⟨ys, e1⟩ r far)⟩
end
theorem paired_get {α γ : Type} {F : α → γ → Prop} : ∀ {l1 : List α} {l2 : List γ} {i : Nat} {x : α}, Paired F l1 l2 → l1[i]? = some x → ∃ y, l2[i]? = some y ∧ F x y
  | _, _, 0, x, .cons h t, e => by
    cases (Option.some.inj e)
    exact ⟨_, rfl, h⟩
  | _, _, i + 1, x, .cons h t, e => paired_get (i := i) t e
theorem paired_mem {α γ : Type} {F : α → γ → Prop} : ∀ {l1 : List α} {l2 : List γ}, Paired F l1 l2 → Paired (fun a b => F a b ∧ a ∈ l1) l1 l2
  | _, _, .nil => .nil
  | _, _, .cons h t => .cons ⟨h, List.mem_cons_self⟩ (Paired.mapP (paired_mem t) fun a b q => ⟨q.1, List.mem_cons_of_mem _ q.2⟩)
theorem w_yes {σ : L2.St} {H : Hp} {QT : Bool → Hp → Prop} (h : QT true H) : tYes σ H QT := h
/-- what the building by two walks asks -/
def LcGo2 (J : It) (j : Nat) (wi1 : TI) (j1 : Nat) (tt1 : TT) (te : TE) (vs vs1 : List Nat) (σ : L2.St) (H : Hp) (Q : VK) : Prop :=
  ∀ D, H D = none → ∃ W : Nat → Nat → Hp → Prop, (∃ m, W 0 m (upd H D (.lst []))) ∧ ∀ i m H, W i m H →
  (J.stop i H ∧ Q (.ref D) H) ∨ (J.go i H ∧ ∃ Nx : Hp → Prop, (∀ H', Nx H' → ∃ m', m' < m ∧ W (i + 1) m' H') ∧ ∀ x H', J.yld i H x H' → gName j x (wipe σ vs) H' fun σ2 H2 => wipe σ2 vs = wipe σ vs ∧ tYes σ2 H2 fun b H3 =>
    if b = true then wi1 σ2 H3 fun J1 H4 => ∃ W1 : Nat → Nat → Hp → Prop, (∃ m, W1 0 m H4) ∧ ∀ j k H, W1 j k H →
      (J1.stop j H ∧ Nx H) ∨ (J1.go j H ∧ ∃ Nx1 : Hp → Prop, (∀ H', Nx1 H' → ∃ k', k' < k ∧ W1 (j + 1) k' H') ∧ ∀ x H', J1.yld j H x H' → gName j1 x (wipe σ2 vs1) H' fun σ3 H5 => wipe σ3 vs1 = wipe σ2 vs1 ∧ tt1 σ3 H5 fun b H6 =>
        if b = true then te σ3 H6 fun y H7 => ∃ acc, H7 D = some (.lst acc) ∧ acc.length < sizeLine ∧ Nx1 (upd H7 D (.lst (acc ++ [y]))) else Nx1 H6)
    else Nx H3)
section
variable {K : PySem.W.Frag} {σ : L2.St} {H : Hp} {Q : VK} {te : TE} {tt1 : TT} {wi1 : TI} {vs vs1 : List Nat} {j j1 : Nat} {a : Addr} {xs : List V} {tl : TE} {n : Nat}
theorem w_lc2L (h : tl σ H fun x H1 => ∃ a, x = .ref a ∧ (∃ xs, SqL K H1 a xs) ∧ LcGo2 (Itl K a) j wi1 j1 tt1 te vs vs1 σ H1 Q) : tLc2 (iList K tl) (gName j) tYes wi1 (gName j1) tt1 te vs vs1 σ H Q := h
theorem w_lc2R {tr : TA} (h : tr σ H fun ws H1 => ∃ k : Int, ws = [.int k] ∧ -(2 ^ 62) ≤ k ∧ k < 2 ^ 62 ∧ LcGo2 (Itr 0 k.toNat) j wi1 j1 tt1 te vs vs1 σ H1 Q) : tLc2 (iRng1 tr) (gName j) tYes wi1 (gName j1) tt1 te vs vs1 σ H Q := h
theorem lc2_rel {α β : Type} (R : β → V → Hp → Prop) (zs : List α) (Eo : α → V → Prop) (p : α → Nat → Bool) (key : α → Nat → β) (S : SqL K H a xs) (P0 : Paired Eo zs xs)
    (hz : ((zs.flatMap fun z => ((List.range n).filter (p z)).map (key z))).length < sizeLine)
    (hw : ∀ x, wipe ((wipe σ vs).set j (some x)) vs = wipe σ vs) (hw1 : ∀ x y, wipe ((wipe ((wipe σ vs).set j (some x)) vs1).set j1 (some y)) vs1 = wipe ((wipe σ vs).set j (some x)) vs1)
    (mono : ∀ D, H D = none → MonoD R D)
    (hin : ∀ z x, Eo z x → ∀ H3, Same H H3 → ∀ R' : It → Hp → Prop, (∀ H4, Same H3 H4 → R' (Itr 0 n) H4) → wi1 ((wipe σ vs).set j (some x)) H3 R')
    (ht : ∀ z x (m : Nat), Eo z x → m < n → ∀ H3, Same H H3 → ∀ Q' : Bool → Hp → Prop, (∀ H4, Same H3 H4 → Q' (p z m) H4) → tt1 ((wipe ((wipe σ vs).set j (some x)) vs1).set j1 (some (.int (0 + m)))) H3 Q')
    (he : ∀ z x (m : Nat), Eo z x → m < n → p z m = true → ∀ H3, Same H H3 → ∀ Q' : VK, (∀ y H4, Same H3 H4 → R (key z m) y H4 → Q' y H4) → te ((wipe ((wipe σ vs).set j (some x)) vs1).set j1 (some (.int (0 + m)))) H3 Q')
    (hq : ∀ D H', LcG R H D (zs.flatMap fun z => ((List.range n).filter (p z)).map (key z)) H' → Q (.ref D) H') :
    LcGo2 (Itl K a) j wi1 j1 tt1 te vs vs1 σ H Q := by
  intro D hD
  have mo := mono D hD
  have hlen : zs.length = xs.length := Paired.length P0
  let G : α → List β := fun z => ((List.range n).filter (p z)).map (key z)
  refine ⟨fun i m H' => m = xs.length - i ∧ i ≤ xs.length ∧ LcG R H D ((zs.take i).flatMap G) H', ⟨xs.length, by simp, Nat.zero_le _, hD, Same.newT hD, [], upd_same, .nil⟩, ?_⟩
  rintro i m H' ⟨rfl, hi, L⟩
  have S' : SqL K H' a xs := L.sm.seq S
  by_cases hlt : i < xs.length
  · have hltz : i < zs.length := by omega
    refine .inr ⟨⟨xs, xs[i], S', by simp [hlt]⟩, fun H2 => LcG R H D ((zs.take (i + 1)).flatMap G) H2, fun H2 L2 => ⟨xs.length - (i + 1), by omega, rfl, hlt, L2⟩, fun x H2 y => ?_⟩
    obtain ⟨rfl, y⟩ := y
    have hx := y xs S'
    have hxz : Eo zs[i] x := by
      obtain ⟨x', h1, h2⟩ := paired_get P0 (List.getElem?_eq_getElem hltz)
      rw [hx] at h1
      cases h1
      exact h2
    have tk : (zs.take (i + 1)).flatMap G = (zs.take i).flatMap G ++ G zs[i] := by
      rw [take_snoc (List.getElem?_eq_getElem hltz), List.flatMap_append]
      simp
    refine ⟨hw x, ?_⟩
    refine w_yes ?_
    rw [if_pos rfl]
    refine hin _ _ hxz H2 L.sm _ fun H4 e4 => ?_
    have L4 := L.keep mo e4
    have pre : ∀ q : Nat, q ≤ n → ((zs.take i).flatMap G ++ ((List.range q).filter (p zs[i])).map (key zs[i])).length ≤ (zs.flatMap G).length := by
      intro q hq'
      have h1 : ((List.range q).filter (p zs[i])).length ≤ ((List.range n).filter (p zs[i])).length := by
        have : (List.range n) = List.range q ++ (List.range (n - q)).map (q + ·) := by
          rw [← List.range_add]
          congr 1
          omega
        rw [this, List.filter_append, List.length_append]
        omega
      have h2 : zs = zs.take i ++ (zs[i] :: zs.drop (i + 1)) := by
        rw [← List.drop_eq_getElem_cons hltz, List.take_append_drop]
      have h3 : (zs.flatMap G).length = ((zs.take i).flatMap G).length + ((G zs[i]).length + ((zs.drop (i + 1)).flatMap G).length) := by
        rw [← List.length_append, ← List.length_append, ← List.flatMap_cons, ← List.flatMap_append, ← h2]
      rw [h3, List.length_append, List.length_map]
      show _ ≤ _ + (((((List.range n).filter (p zs[i])).map (key zs[i])).length) + _)
      rw [List.length_map]
      omega
    refine ⟨fun q k H5 => k = n - q ∧ q ≤ n ∧ LcG R H D ((zs.take i).flatMap G ++ ((List.range q).filter (p zs[i])).map (key zs[i])) H5, ⟨n, by simp, Nat.zero_le _, by simpa using L4⟩, ?_⟩
    rintro q k H5 ⟨rfl, hqn, L5⟩
    by_cases hq2 : q < n
    · refine .inr ⟨hq2, fun H6 => LcG R H D ((zs.take i).flatMap G ++ ((List.range (q + 1)).filter (p zs[i])).map (key zs[i])) H6, fun H6 L6 => ⟨n - (q + 1), by omega, rfl, hq2, L6⟩, fun v H6 y6 => ?_⟩
      obtain ⟨rfl, rfl⟩ := y6
      have sn : ((List.range (q + 1)).filter (p zs[i])).map (key zs[i]) = ((List.range q).filter (p zs[i])).map (key zs[i]) ++ (if p zs[i] q = true then [key zs[i] q] else []) := by
        rw [List.range_succ, List.filter_append, List.map_append]
        cases hp : p zs[i] q <;> simp [hp]
      refine ⟨hw1 _ _, ?_⟩
      refine ht _ _ q hxz hq2 _ L5.sm _ fun H7 e7 => ?_
      have L7 := L5.keep mo e7
      cases hp : p zs[i] q
      · rw [if_neg Bool.false_ne_true]
        rw [hp, if_neg Bool.false_ne_true, List.append_nil] at sn
        show LcG R H D (_ ++ ((List.range (q + 1)).filter (p zs[i])).map (key zs[i])) H7
        rw [sn]
        exact L7
      · rw [if_pos rfl]
        rw [hp, if_pos rfl] at sn
        refine he _ _ q hxz hq2 hp _ L7.sm _ fun y H8 e8 r8 => ?_
        have L8 := L7.keep mo e8
        obtain ⟨acc, c1, c2, c3⟩ := L8.push mo r8 (Nat.lt_of_le_of_lt (pre q (Nat.le_of_lt hq2)) hz)
        refine ⟨acc, c1, c2, ?_⟩
        show LcG R H D (_ ++ ((List.range (q + 1)).filter (p zs[i])).map (key zs[i])) _
        rw [sn, ← List.append_assoc]
        exact c3
    · have e : q = n := by omega
      subst e
      refine .inl ⟨Nat.le_refl _, ?_⟩
      rw [tk]
      exact L5
  · have e : i = xs.length := by omega
    subst e
    refine .inl ⟨⟨xs, S', Nat.le_refl _⟩, hq D H' ?_⟩
    rw [← hlen, List.take_length] at L
    exact L
/-- a range outside, inside a list that each turn makes anew -/
theorem lc2_relR {α β : Type} (R : β → V → Hp → Prop) (zs : List α) (Eo : α → V → Hp → Prop) (key : Nat → α → β)
    (hz : ((List.range n).flatMap fun m => zs.map (key m)).length < sizeLine)
    (hw : ∀ x, wipe ((wipe σ vs).set j (some x)) vs = wipe σ vs) (hw1 : ∀ x y, wipe ((wipe ((wipe σ vs).set j (some x)) vs1).set j1 (some y)) vs1 = wipe ((wipe σ vs).set j (some x)) vs1)
    (mono : ∀ D, H D = none → MonoD R D) (monoE : ∀ D, H D = none → MonoD Eo D)
    (hin : ∀ m : Nat, m < n → ∀ H3, Same H H3 → ∀ R' : It → Hp → Prop, (∀ a xs H4, Same H3 H4 → H3 a = none → SqL K H4 a xs → Paired (fun z x => Eo z x H4) zs xs → R' (Itl K a) H4) → wi1 ((wipe σ vs).set j (some (.int (0 + m)))) H3 R')
    (he : ∀ (m : Nat) z x, m < n → ∀ H3, Same H H3 → Eo z x H3 → ∀ Q' : VK, (∀ y H4, Same H3 H4 → R (key m z) y H4 → Q' y H4) → te ((wipe ((wipe σ vs).set j (some (.int (0 + m)))) vs1).set j1 (some x)) H3 Q')
    (hq : ∀ D H', LcG R H D ((List.range n).flatMap fun m => zs.map (key m)) H' → Q (.ref D) H') :
    LcGo2 (Itr 0 n) j wi1 j1 tYes te vs vs1 σ H Q := by
  intro D hD
  have mo := mono D hD
  let G : Nat → List β := fun m => zs.map (key m)
  refine ⟨fun i m H' => m = n - i ∧ i ≤ n ∧ LcG R H D ((List.range i).flatMap G) H', ⟨n, by simp, Nat.zero_le _, hD, Same.newT hD, [], upd_same, .nil⟩, ?_⟩
  rintro i m H' ⟨rfl, hi, L⟩
  by_cases hlt : i < n
  · refine .inr ⟨hlt, fun H2 => LcG R H D ((List.range (i + 1)).flatMap G) H2, fun H2 L2 => ⟨n - (i + 1), by omega, rfl, hlt, L2⟩, fun x H2 y => ?_⟩
    obtain ⟨rfl, rfl⟩ := y
    have tk : (List.range (i + 1)).flatMap G = (List.range i).flatMap G ++ G i := by
      rw [List.range_succ, List.flatMap_append]
      simp
    refine ⟨hw _, ?_⟩
    refine w_yes ?_
    rw [if_pos rfl]
    refine hin i hlt _ L.sm _ fun a xs H4 e4 na S P0 => ?_
    have L4 := L.keep mo e4
    obtain ⟨accD, eD, _⟩ := L.at_
    have neD : a ≠ D := (ne_of_none eD na).symm
    have hlen : zs.length = xs.length := Paired.length P0
    have pre : ∀ q : Nat, ((List.range i).flatMap G ++ (zs.take q).map (key i)).length ≤ ((List.range n).flatMap G).length := by
      intro q
      have h2 : List.range n = List.range i ++ (i :: ((List.range (n - (i + 1))).map (i + 1 + ·))) := by
        have : n = (i + 1) + (n - (i + 1)) := by omega
        rw [this, List.range_add, List.range_succ, List.append_assoc]
        congr 2
        simp
      rw [h2, List.flatMap_append, List.flatMap_cons, List.length_append, List.length_append, List.length_append, List.length_map, List.length_take]
      show _ + min q zs.length ≤ _ + ((zs.map (key i)).length + _)
      rw [List.length_map]
      omega
    refine ⟨fun q k H5 => k = xs.length - q ∧ q ≤ xs.length ∧ LcG R H D ((List.range i).flatMap G ++ (zs.take q).map (key i)) H5 ∧ SqL K H5 a xs ∧ Paired (fun z x => Eo z x H5) zs xs, ⟨xs.length, by simp, Nat.zero_le _, by simpa using L4, S, P0⟩, ?_⟩
    rintro q k H5 ⟨rfl, hqn, L5, S5, P5⟩
    by_cases hq2 : q < xs.length
    · have hqz : q < zs.length := by omega
      refine .inr ⟨⟨xs, xs[q], S5, by simp [hq2]⟩, fun H6 => LcG R H D ((List.range i).flatMap G ++ (zs.take (q + 1)).map (key i)) H6 ∧ SqL K H6 a xs ∧ Paired (fun z x => Eo z x H6) zs xs, fun H6 L6 => ⟨xs.length - (q + 1), by omega, rfl, hq2, L6⟩, fun v H6 y6 => ?_⟩
      obtain ⟨rfl, y6⟩ := y6
      have hv := y6 xs S5
      have hvz : Eo zs[q] v H6 := by
        obtain ⟨x', h1, h2⟩ := paired_get P5 (List.getElem?_eq_getElem hqz)
        rw [hv] at h1
        cases h1
        exact h2
      have sn : (zs.take (q + 1)).map (key i) = (zs.take q).map (key i) ++ [key i zs[q]] := by
        rw [take_snoc (List.getElem?_eq_getElem hqz), List.map_append]
        rfl
      refine ⟨hw1 _ _, ?_⟩
      refine w_yes ?_
      rw [if_pos rfl]
      refine he i _ _ hlt _ L5.sm hvz _ fun y H8 e8 r8 => ?_
      have L8 := L5.keep mo e8
      obtain ⟨acc, c1, c2, c3⟩ := L8.push mo r8 (Nat.lt_of_le_of_lt (pre q) hz)
      refine ⟨acc, c1, c2, ?_, ?_, ?_⟩
      · rw [sn, ← List.append_assoc]
        exact c3
      · rcases e8.seq S5 with (h | ⟨o, h⟩) | h
        · exact .inl (.inl (by rw [upd_ne neD]; exact h))
        · exact .inl (.inr ⟨o, by rw [upd_ne neD]; exact h⟩)
        · exact .inr h
      · have me := monoE D hD
        obtain ⟨acc5, d5, _⟩ := L5.at_
        refine Paired.mapP P5 fun z x hx => me z x _ _ ⟨acc, c1⟩ (me z x _ _ ⟨_, d5⟩ hx fun b o _ q => e8 b o q) fun b o hb q => ?_
        rw [upd_ne hb]
        exact q
    · have e : q = xs.length := by omega
      subst e
      refine .inl ⟨⟨xs, S5, Nat.le_refl _⟩, ?_⟩
      rw [tk]
      rw [← hlen, List.take_length] at L5
      exact L5
  · have e : i = n := by omega
    subst e
    exact .inl ⟨Nat.le_refl _, hq D H' L⟩
end
end NL
set_option maxRecDepth 100000
set_option maxHeartbeats 2000000
/-! repr of data: its size, part by part. -/
namespace NL
open PySem PySem.Spec PyProof.Rows L2
/-- data that repr can show: its weight, its depth -/
structure OkD (w p : Nat) (d : PyData) : Prop where
  sh : d.showable = true
  nd : d.hasDict = false
  dp : d.depth ≤ p
  wt : d.weight ≤ w
  ls : d.leavesShort 13 = true
theorem OkD.mono {w p w' p' : Nat} {d : PyData} (o : OkD w p d) (h1 : w ≤ w') (h2 : p ≤ p') : OkD w' p' d := ⟨o.sh, o.nd, Nat.le_trans o.dp h2, Nat.le_trans o.wt h1, o.ls⟩
structure OkAll (w p : Nat) (ds : List PyData) : Prop where
  sh : PyData.showableAll ds = true
  nd : PyData.hasDictAll ds = false
  dp : PyData.depthAll ds ≤ p
  wt : PyData.weightAll ds ≤ ds.length * (w + 1)
  ls : PyData.leavesShortAll 13 ds = true
theorem OkAll.of {w p : Nat} : ∀ {ds : List PyData}, (∀ d ∈ ds, OkD w p d) → OkAll w p ds
  | [], _ => ⟨rfl, rfl, Nat.zero_le _, Nat.zero_le _, rfl⟩
  | d :: ds, h => by
    have o := h d List.mem_cons_self
    have a := OkAll.of (ds := ds) fun x hx => h x (List.mem_cons_of_mem _ hx)
    refine ⟨?_, ?_, ?_, ?_, ?_⟩
    · show (PyData.showable d && PyData.showableAll ds) = true
      rw [o.sh, a.sh]
      rfl
    · show (PyData.hasDict d || PyData.hasDictAll ds) = false
      rw [o.nd, a.nd]
      rfl
    · show max (PyData.depth d) (PyData.depthAll ds) ≤ p
      exact Nat.max_le.mpr ⟨o.dp, a.dp⟩
    · show PyData.weight d + 1 + PyData.weightAll ds ≤ (ds.length + 1) * (w + 1)
      have h1 := o.wt
      have h2 := a.wt
      rw [Nat.succ_mul]
      omega
    · show (PyData.leavesShort 13 d && PyData.leavesShortAll 13 ds) = true
      rw [o.ls, a.ls]
      rfl
theorem OkD.tup {w p : Nat} {ds : List PyData} (h : ∀ d ∈ ds, OkD w p d) : OkD (ds.length * (w + 1)) (p + 1) (.tuple ds) := by
  have a := OkAll.of h
  exact ⟨a.sh, a.nd, Nat.succ_le_succ a.dp, a.wt, a.ls⟩
theorem OkD.lst {w p : Nat} {ds : List PyData} (h : ∀ d ∈ ds, OkD w p d) : OkD (ds.length * (w + 1)) (p + 1) (.list ds) := by
  have a := OkAll.of h
  exact ⟨a.sh, a.nd, Nat.succ_le_succ a.dp, a.wt, a.ls⟩
theorem OkD.int {i : Int} (h0 : 0 ≤ i) (h : i < 10 ^ 10) : OkD 34 0 (.int i) := by
  have hl : i.natAbs.log2 < 34 := PySem.Flt.log2_lt_of (by decide) (by omega)
  refine ⟨decide_eq_true (by omega), rfl, Nat.le_refl _, ?_, ?_⟩
  · show (if i == 0 then 0 else i.natAbs.log2 + 1) ≤ 34
    split <;> omega
  · have := PyProof.Rows.toString_length_le h0 (k := 10) (by decide) h
    show decide ((PyData.shown (.int i)).length ≤ 13) = true
    exact decide_eq_true (Nat.le_trans this (by decide))
theorem w_rprO {K : PySem.W.Frag} {H : Hp} {Q : VK} {x : V} {d : PyData} {w : Nat} (h : Dp K H x d) (o : OkD w 59 d) (hw : 15 * w + 13 ≤ 16777216) (q : Q (.str d.shown) H) : rRepr K [x] H Q := by
  refine ⟨x, d, rfl, h, o.sh, o.nd, Nat.le_trans o.dp (by decide), ?_, q⟩
  have h1 := PyData.shown_le 13 (by decide) d o.ls
  have h2 := o.wt
  have hz : sizeLine = 16777216 := by decide +kernel
  have h3 : (13 + 2) * d.weight ≤ 15 * w := Nat.mul_le_mul_left 15 h2
  omega
theorem lc_lst_inv {K : PySem.W.Frag} {σ : L2.St} {H : Hp} {Q : VK} {te : TE} {vs : List Nat} {j : Nat} {a : Addr} {xs : List V} (Pv : Addr → Nat → Hp → Prop) (h0 : ∀ D, H D = none → Pv D 0 (upd H D (.lst [])))
    (hl : ∀ D i H', H D = none → Pv D i H' → SqL K H' a xs) (hw : ∀ x, wipe ((wipe σ vs).set j (some x)) vs = wipe σ vs)
    (hs : ∀ D (i : Nat) x H', H D = none → xs[i]? = some x → Pv D i H' → te ((wipe σ vs).set j (some x)) H' fun y H4 => ∃ acc, H4 D = some (.lst acc) ∧ acc.length < sizeLine ∧ Pv D (i + 1) (upd H4 D (.lst (acc ++ [y]))))
    (hq : ∀ D H', H D = none → Pv D xs.length H' → Q (.ref D) H') : LcGo (Itl K a) j tYes te vs σ H Q := fun D hD =>
  lc_list (K := K) (a := a) (xs := xs) (Qd := fun H' => Q (.ref D) H') (fun i H' => Pv D i H') (h0 D hD) (fun i H' _ L => hl D i H' hD L) (fun i x H' hx L => ⟨hw x, hs D i x H' hD hx L⟩) (fun H' L => hq D H' hD L)
end NL
set_option maxRecDepth 100000
set_option maxHeartbeats 2000000
/-! Slices of tuples, tuples put together. -/
namespace NL
open PySem PySem.Spec PyProof.Rows L2
section
variable {K : PySem.W.Frag} {H : Hp} {Q : VK} {a b : Addr} {xs ys : List V} {lo hi : Option Int}
theorem cut_len (xs : List V) (lo hi : Option Int) : (cutV xs lo hi).length ≤ xs.length := by
  unfold cutV
  rw [List.length_take, List.length_drop]
  omega
theorem cut_full (h1 : HT.sIx xs.length 0 lo = 0) (h2 : HT.sIx xs.length xs.length hi = xs.length) : cutV xs lo hi = xs := by
  unfold cutV
  rw [h1, h2, List.drop_zero, Nat.sub_zero, List.take_length]
theorem cut_map (ns : List Int) (lo hi : Option Int) : ∃ ms : List Int, cutV (ns.map V.int) lo hi = ms.map V.int ∧ ∀ x ∈ ms, x ∈ ns := by
  refine ⟨(ns.drop (HT.sIx (ns.map V.int).length 0 lo)).take (HT.sIx (ns.map V.int).length (ns.map V.int).length hi - HT.sIx (ns.map V.int).length 0 lo), ?_, fun x hx => List.mem_of_mem_drop (List.mem_of_mem_take hx)⟩
  unfold cutV
  rw [List.map_take, List.map_drop]
theorem w_slA (S : SqT K H a xs) (h : ∀ p H', Same H H' → SqT K H' p (cutV xs lo hi) → Q (.ref p) H') : rSlA K (.ref a) lo hi H Q := by
  refine ⟨a, xs, rfl, S, fun e => ?_, fun _ p np => ?_⟩
  · exact h a H (Same.refl H) (by rw [cut_full e.1 e.2]; exact S)
  · exact h p _ (Same.newT np) (.inl (.inl upd_same))
theorem w_slT (S : SqT K H a xs) (h : ∀ p H', Same H H' → SqT K H' p (cutV xs lo hi) → Q (.ref p) H') : (rSlL K (.ref a) lo hi H Q ∨ rSlA K (.ref a) lo hi H Q) := .inr (w_slA S h)
theorem w_catA (S : SqT K H a xs) (S' : SqT K H b ys) (z : xs.length + ys.length ≤ sizeLine) (h : ∀ p H', Same H H' → SqT K H' p (xs ++ ys) → Q (.ref p) H') : rCatA K (.ref a) (.ref b) H Q := by
  refine ⟨a, b, xs, ys, rfl, rfl, S, S', z, fun e => ?_, fun _ e => ?_, fun _ _ p np => ?_⟩
  · subst e
    exact h b H (Same.refl H) S'
  · subst e
    exact h a H (Same.refl H) (by rw [List.append_nil]; exact S)
  · exact h p _ (Same.newT np) (.inl (.inl upd_same))
theorem dp_app {es : List PyData} : ∀ {xs : List V} {ds : List PyData}, DpAll K H xs ds → DpAll K H ys es → DpAll K H (xs ++ ys) (ds ++ es)
  | _, _, .nil, B => B
  | _, _, .cons h A, B => .cons h (dp_app A B)
end
end NL
set_option maxRecDepth 100000
set_option maxHeartbeats 2000000
set_option pp.maxSteps 600
namespace K02
open PySem L2 NL
def top (i : Nat) : Stmt := PySem.Challenge.pw_handalong_k02_views_in_order.main.body.getD i (.Pass ⟨0, 0, 0, 0⟩)
abbrev s_is_integer : Stmt := top 4
abbrev s_is_number : Stmt := top 5
abbrev s_is_sequence : Stmt := top 6
abbrev s_is_index : Stmt := top 7
abbrev s_is_view_of : Stmt := top 11
abbrev s_is_view : Stmt := top 12
abbrev s_made_view : Stmt := top 13
abbrev s_mode_rows : Stmt := top 14
abbrev s_all_views : Stmt := top 15
abbrev s_seen : Stmt := top 16
abbrev s__law_draw : Stmt := top 18
abbrev s__law_any : Stmt := top 19
abbrev s__law_of : Stmt := top 20
abbrev s__law_other : Stmt := top 21
abbrev s__law_mixed : Stmt := top 22
abbrev s__law_rows : Stmt := top 23
abbrev s__law_refused : Stmt := top 24
abbrev s__law_bad_right : Stmt := top 25
abbrev s_law : Stmt := top 26
theorem sc_is_integer : FnScope ["value"] ["value"] (defScope s_is_integer) :=
  ⟨rfl, rfl, rfl, by decide +kernel, rfl, by decide +kernel, by decide +kernel⟩
theorem sc_is_number : FnScope ["value"] ["value"] (defScope s_is_number) :=
  ⟨rfl, rfl, rfl, by decide +kernel, rfl, by decide +kernel, by decide +kernel⟩
theorem sc_is_sequence : FnScope ["value"] ["value"] (defScope s_is_sequence) :=
  ⟨rfl, rfl, rfl, by decide +kernel, rfl, by decide +kernel, by decide +kernel⟩
theorem sc_is_index : FnScope ["value", "many"] ["value", "many"] (defScope s_is_index) :=
  ⟨rfl, rfl, rfl, by decide +kernel, rfl, by decide +kernel, by decide +kernel⟩
theorem sc_is_view_of : FnScope ["value", "modes", "row", "mode", "at"] ["value", "modes"] (defScope s_is_view_of) :=
  ⟨rfl, rfl, rfl, by decide +kernel, rfl, by decide +kernel, by decide +kernel⟩
theorem sc_is_view : FnScope ["value"] ["value"] (defScope s_is_view) :=
  ⟨rfl, rfl, rfl, by decide +kernel, rfl, by decide +kernel, by decide +kernel⟩
theorem sc_made_view : FnScope ["mode", "neighbours", "one", "view"] ["mode", "neighbours"] (defScope s_made_view) :=
  ⟨rfl, rfl, rfl, by decide +kernel, rfl, by decide +kernel, by decide +kernel⟩
theorem sc_mode_rows : FnScope ["modes", "many", "found", "turn", "row", "mode"] ["modes", "many"] (defScope s_mode_rows) :=
  ⟨rfl, rfl, rfl, by decide +kernel, rfl, by decide +kernel, by decide +kernel⟩
theorem sc_all_views : FnScope ["modes", "degree", "mode", "row"] ["modes", "degree"] (defScope s_all_views) :=
  ⟨rfl, rfl, rfl, by decide +kernel, rfl, by decide +kernel, by decide +kernel⟩
theorem sc_seen : FnScope ["view", "mode", "one"] ["view", "mode"] (defScope s_seen) :=
  ⟨rfl, rfl, rfl, by decide +kernel, rfl, by decide +kernel, by decide +kernel⟩
theorem sc__law_draw : FnScope ["_law_script", "_law_salt", "_law_cells", "_law_cell", "_law_blend"] ["_law_script", "_law_salt"] (defScope s__law_draw) :=
  ⟨rfl, rfl, rfl, by decide +kernel, rfl, by decide +kernel, by decide +kernel⟩
theorem sc__law_any : FnScope ["_law_deal", "_law_bound", "_law_rest"] ["_law_deal", "_law_bound"] (defScope s__law_any) :=
  ⟨rfl, rfl, rfl, by decide +kernel, rfl, by decide +kernel, by decide +kernel⟩
theorem sc__law_of : FnScope ["_law_deal", "_law_some"] ["_law_deal", "_law_some"] (defScope s__law_of) :=
  ⟨rfl, rfl, rfl, by decide +kernel, rfl, by decide +kernel, by decide +kernel⟩
theorem sc__law_other : FnScope ["_law_deal", "_law_kinds", "_law_degree", "_law_many", "_law_turn"] ["_law_deal", "_law_kinds", "_law_degree"] (defScope s__law_other) :=
  ⟨rfl, rfl, rfl, by decide +kernel, rfl, by decide +kernel, by decide +kernel⟩
theorem sc__law_mixed : FnScope ["_law_deal", "_law_some", "_law_left", "_law_found"] ["_law_deal", "_law_some"] (defScope s__law_mixed) :=
  ⟨rfl, rfl, rfl, by decide +kernel, rfl, by decide +kernel, by decide +kernel⟩
theorem sc__law_rows : FnScope ["_law_kinds", "_law_many", "_law_found", "_law_turn", "_law_longer", "_law_row", "_law_mode"] ["_law_kinds", "_law_many"] (defScope s__law_rows) :=
  ⟨rfl, rfl, rfl, by decide +kernel, rfl, by decide +kernel, by decide +kernel⟩
theorem sc__law_refused : FnScope ["_law_work", "e"] ["_law_work"] (defScope s__law_refused) :=
  ⟨rfl, rfl, rfl, by decide +kernel, rfl, by decide +kernel, by decide +kernel⟩
theorem sc__law_bad_right : FnScope ["_law_deal", "_law_view", "_law_mode", "_law_row", "_law_strange", "_law_at", "_law_wrong", "_law_value"] ["_law_deal", "_law_view"] (defScope s__law_bad_right) :=
  ⟨rfl, rfl, rfl, by decide +kernel, rfl, by decide +kernel, by decide +kernel⟩
theorem sc_law : FnScope ["_law_script", "_law_deal", "_law_turn", "_law_kinds", "_law_view", "_law_row", "_law_kept", "_law_mode", "_law_one", "_law_many", "_law_due", "_law_line"] ["_law_script"] (defScope s_law) :=
  ⟨rfl, rfl, rfl, by decide +kernel, rfl, by decide +kernel, by decide +kernel⟩
abbrev si_InvalidView : Stmt := inClass (top 2) 0
structure Ad where
  NetError : Addr
  InvalidView : Addr
structure Txt (P : Program) (K : PySem.W.Frag) (mg : Str → Option Value) (AA : Ad) : Prop where
  n_abs : mg "abs" = none
  n_all : mg "all" = none
  n_bool : mg "bool" = none
  n_int : mg "int" = none
  n_isinstance : mg "isinstance" = none
  n_len : mg "len" = none
  n_list : mg "list" = none
  n_range : mg "range" = none
  n_repr : mg "repr" = none
  n_sorted : mg "sorted" = none
  n_tuple : mg "tuple" = none
  k_MOST_MODES : ∃ t, mg "MOST_MODES" = some (.int 4 t)
  k_MOST_NEIGHBOURS : ∃ t, mg "MOST_NEIGHBOURS" = some (.int 4 t)
  c_NetError : mg "NetError" = some (.ref AA.NetError)
  c_InvalidView : mg "InvalidView" = some (.ref AA.InvalidView)
  x_InvalidView : ErrK P K mg "InvalidView" AA.InvalidView
  d_is_integer : Def K mg "is_integer" s_is_integer ["value"]
  d_is_number : Def K mg "is_number" s_is_number ["value"]
  d_is_sequence : Def K mg "is_sequence" s_is_sequence ["value"]
  d_is_index : Def K mg "is_index" s_is_index ["value", "many"]
  d_is_view_of : Def K mg "is_view_of" s_is_view_of ["value", "modes"]
  d_is_view : Def K mg "is_view" s_is_view ["value"]
  d_made_view : Def K mg "made_view" s_made_view ["mode", "neighbours"]
  d_mode_rows : Def K mg "mode_rows" s_mode_rows ["modes", "many"]
  d_all_views : Def K mg "all_views" s_all_views ["modes", "degree"]
  d_seen : Def K mg "seen" s_seen ["view", "mode"]
  d__law_draw : Def K mg "_law_draw" s__law_draw ["_law_script", "_law_salt"]
  d__law_any : Def K mg "_law_any" s__law_any ["_law_deal", "_law_bound"]
  d__law_of : Def K mg "_law_of" s__law_of ["_law_deal", "_law_some"]
  d__law_other : Def K mg "_law_other" s__law_other ["_law_deal", "_law_kinds", "_law_degree"]
  d__law_mixed : Def K mg "_law_mixed" s__law_mixed ["_law_deal", "_law_some"]
  d__law_rows : Def K mg "_law_rows" s__law_rows ["_law_kinds", "_law_many"]
  d__law_refused : Def K mg "_law_refused" s__law_refused ["_law_work"]
  d__law_bad_right : Def K mg "_law_bad_right" s__law_bad_right ["_law_deal", "_law_view"]
local macro_rules | `(tactic| walk_at "s1") => `(tactic| with_reducible first
  | refine w_seq ?_ | refine w_asg ?_ | refine w_drop ?_ | refine w_ret ?_ | refine w_next ?_ | refine w_ifS ?_
  | refine w_c ?_ | refine w_op ?_ | refine w_un ?_ | refine w_test ?_ | refine w_B ?_ | refine w_bl ?_ | refine w_not ?_ | refine w_and ?_ | refine w_or ?_
  | refine w_andV ?_ | refine w_orV ?_ | refine w_notV ?_ | refine w_blP ?_ | refine w_if ?_ | refine w_nil ?_ | refine w_cons ?_ | refine w_call ?_ | refine w_callS ?_ | refine w_callW ?_
  | refine w_cb ?_ | refine w_tup ?_ | refine w_lst ?_ | refine w_par ?_ | refine w_two ?_ | refine w_addI ?_ | refine w_I0 ?_ | refine w_neg ?_ | refine w_eqI ?_ | refine w_neI ?_
  | refine w_absI ?_ | refine w_intI ?_ | refine w_sub ?_ | refine w_bm0 ?_ | refine w_bm ?_ | refine w_iteT ?_ | refine w_iteF ?_ | refine w_iteNF ?_ | refine w_iteNT ?_ | refine w_lcT ?_ | refine w_lcL ?_
  | refine w_ref ?_ | refine w_sl ?_ | refine w_npart ?_ | refine w_part ?_ | refine w_iv ?_ | refine w_rev ?_ | refine w_forL ?_ | refine w_forT ?_ | refine w_forR1 ?_ | refine w_one ?_ | refine w_g ?_
  | refine w_asgT ?_ | refine w_gcons ?_ | refine w_gnil ?_ | refine w_lcR1 ?_
  | refine w_var (by with_unfolding_all rfl) ?_)
local macro_rules | `(tactic| walk_at "s") => `(tactic| repeat (walk_at "s1"))

/-! ### plain: is_integer, is_number, is_sequence, is_index -/
section
variable {P : Program} {w : World} {K : PySem.W.Frag} {mg : Str → Option Value} {base : Heap} {AA : Ad}
def spD1 (K : PySem.W.Frag) (f : PyData → Bool) : Sp := fun vs H Q _ => ∃ (x : V) (d : PyData), vs = [x] ∧ Dv K H x d ∧ ∀ H', Same H H' → Q (.bl (f d)) H'
def spD2 (K : PySem.W.Frag) (f : Int → PyData → Bool) : Sp := fun vs H Q _ => ∃ (x : V) (d : PyData) (n : Int), vs = [x, .int n] ∧ Dv K H x d ∧ ∀ H', Same H H' → Q (.bl (f n d)) H'
theorem ok_is_integer (T : Txt P K mg AA) : Kept P w K mg base CX0 1 "is_integer" s_is_integer ["value"] (spD1 K intD) := by
  refine keep0 T.d_is_integer sc_is_integer (fun vs H Q E h => ?_) (fun f cdv A outer s H vs Q E hr h => ?_)
  · obtain ⟨x, d, rfl, _⟩ := h
    rfl
  · obtain ⟨x, d, rfl, h, q⟩ := h
    have q := q H (Same.refl H)
    refine ⟨_, (pss_one (ps_ret (pe_and (pe_callB cIsi (by rfl) T.n_isinstance (by decide +kernel) (pa_cons (pv 0) (pa_cons (pe_bltn (v := .ty "int") (u := .type "int") (by rfl) T.n_int (by decide +kernel) rfl) pa_nil))) (pe_one (pe_not (pe_callB cIsi (by rfl) T.n_isinstance (by decide +kernel) (pa_cons (pv 0) (pa_cons (pe_bltn (v := .ty "bool") (u := .type "bool") (by rfl) T.n_bool (by decide +kernel) rfl) pa_nil)))))))), ?_⟩
    walk_at "s"
    rw [int_of] at q
    refine w_isD h (kd_int d) ?_
    generalize (intD d || boolD d) = b1 at q ⊢
    cases b1
    · walk_at "s"
      exact q
    · walk_at "s"
      refine w_isD h (kd_bool d) ?_
      walk_at "s"
      exact q
theorem ok_is_number (T : Txt P K mg AA) : Kept P w K mg base CX0 2 "is_number" s_is_number ["value"] (spD1 K numD) := by
  have O_is_integer := ok_is_integer (w := w) (base := base) T
  refine keep0 T.d_is_number sc_is_number (fun vs H Q E h => ?_) (fun f cdv A outer s H vs Q E hr h => ?_)
  · obtain ⟨x, d, rfl, _⟩ := h
    rfl
  · obtain ⟨x, d, rfl, h, q⟩ := h
    refine ⟨_, (pss_one (ps_ret (pe_and (pk_call O_is_integer (hr.mono (by decide)) (pa_cons (pv 0) pa_nil)) (pe_one (pe_cmpR op_ge (pv 0) pe_int (nomark _)))))), ?_⟩
    walk_at "s"
    refine ⟨x, d, rfl, h, fun H' e => ?_⟩
    have q := q H' e
    walk_at "s"
    cases d with
    | int i =>
      obtain rfl := dp_inv_int h
      refine w_iteE rfl ?_
      walk_at "s"
      exact q
    | _ =>
      refine w_iteX rfl ?_
      exact q
theorem ok_is_index (T : Txt P K mg AA) : Kept P w K mg base CX0 3 "is_index" s_is_index ["value", "many"] (spD2 K ixD) := by
  have O_is_number := ok_is_number (w := w) (base := base) T
  refine keep0 T.d_is_index sc_is_index (fun vs H Q E h => ?_) (fun f cdv A outer s H vs Q E hr h => ?_)
  · obtain ⟨x, d, n, rfl, _⟩ := h
    rfl
  · obtain ⟨x, d, n, rfl, h, q⟩ := h
    refine ⟨_, (pss_one (ps_ret (pe_and (pk_call O_is_number (hr.mono (by decide)) (pa_cons (pv 0) pa_nil)) (pe_one (pe_cmpR op_lt (pv 0) (pv 1) (nomark _)))))), ?_⟩
    walk_at "s"
    refine ⟨x, d, rfl, h, fun H' e => ?_⟩
    have q := q H' e
    walk_at "s"
    cases d with
    | int i =>
      obtain rfl := dp_inv_int h
      show if decide (0 ≤ i) = true then _ else _
      refine w_iteD (fun h0 => ?_) (fun h0 => ?_)
      · walk_at "s"
        rw [show ixD n (.int i) = decide (i < n) by
          show (decide (0 ≤ i) && decide (i < n)) = _
          rw [decide_eq_true h0, Bool.true_and]] at q
        exact q
      · walk_at "s"
        rw [show ixD n (.int i) = false by
          show (decide (0 ≤ i) && decide (i < n)) = _
          rw [decide_eq_false h0, Bool.false_and]] at q
        exact q
    | _ =>
      refine w_iteX rfl ?_
      exact q
theorem ok_is_sequence (T : Txt P K mg AA) : Kept P w K mg base CX0 1 "is_sequence" s_is_sequence ["value"] (spD1 K seqD) := by
  refine keep0 T.d_is_sequence sc_is_sequence (fun vs H Q E h => ?_) (fun f cdv A outer s H vs Q E hr h => ?_)
  · obtain ⟨x, d, rfl, _⟩ := h
    rfl
  · obtain ⟨x, d, rfl, h, q⟩ := h
    refine ⟨_, (pss_one (ps_ret (pe_callB cIsi (by rfl) T.n_isinstance (by decide +kernel) (pa_cons (pv 0) (pa_cons (pe_tup (pa_cons (pe_bltn (v := .ty "list") (u := .type "list") (by rfl) T.n_list (by decide +kernel) rfl) (pa_cons (pe_bltn (v := .ty "tuple") (u := .type "tuple") (by rfl) T.n_tuple (by decide +kernel) rfl) pa_nil))) pa_nil))))), ?_⟩
    walk_at "s"
    refine ⟨show 2 ≤ sizeLine by decide +kernel, fun p np => ?_⟩
    walk_at "s"
    refine w_isSeq (h.same (Same.newT np)) upd_same ?_
    exact q _ (Same.newT np)
end

end K02
set_option maxRecDepth 100000
set_option maxHeartbeats 2000000
set_option pp.maxSteps 600
namespace K02
open PySem L2 NL
local macro_rules | `(tactic| walk_at "s1") => `(tactic| with_reducible first
  | refine w_seq ?_ | refine w_asg ?_ | refine w_drop ?_ | refine w_ret ?_ | refine w_next ?_ | refine w_ifS ?_
  | refine w_c ?_ | refine w_op ?_ | refine w_un ?_ | refine w_test ?_ | refine w_B ?_ | refine w_bl ?_ | refine w_not ?_ | refine w_and ?_ | refine w_or ?_
  | refine w_andV ?_ | refine w_orV ?_ | refine w_notV ?_ | refine w_blP ?_ | refine w_if ?_ | refine w_nil ?_ | refine w_cons ?_ | refine w_call ?_ | refine w_callS ?_ | refine w_callW ?_
  | refine w_cb ?_ | refine w_tup ?_ | refine w_lst ?_ | refine w_par ?_ | refine w_two ?_ | refine w_addI ?_ | refine w_I0 ?_ | refine w_neg ?_ | refine w_eqI ?_ | refine w_neI ?_
  | refine w_absI ?_ | refine w_intI ?_ | refine w_sub ?_ | refine w_bm0 ?_ | refine w_bm ?_ | refine w_iteT ?_ | refine w_iteF ?_ | refine w_iteNF ?_ | refine w_iteNT ?_ | refine w_lcT ?_ | refine w_lcL ?_
  | refine w_ref ?_ | refine w_sl ?_ | refine w_npart ?_ | refine w_part ?_ | refine w_iv ?_ | refine w_rev ?_ | refine w_forL ?_ | refine w_forT ?_ | refine w_forR1 ?_ | refine w_one ?_ | refine w_g ?_
  | refine w_asgT ?_ | refine w_gcons ?_ | refine w_gnil ?_ | refine w_lcR1 ?_
  | refine w_var (by with_unfolding_all rfl) ?_)
local macro_rules | `(tactic| walk_at "s") => `(tactic| repeat (walk_at "s1"))

/-! ### views: is_view_of, is_view -/
def intsOf (ds : List PyData) : List Int := ds.filterMap fun d => match d with
  | .int i => some i
  | _ => none
def incI (ns : List Int) : Bool := (List.range (ns.length - 1)).all fun i => decide (ns.getD i 0 ≤ ns.getD (i + 1) 0)
def rowD (n : Int) : PyData → Bool
  | .tuple row => decide (row.length ≤ 4) && row.all (ixD n) && incI (intsOf row)
  | _ => false
def stepV (ns : List Int) : V → V
  | .int z => .bl (decide (ns.getD z.toNat 0 ≤ ns.getD (z.toNat + 1) 0))
  | x => x
def viewD (n : Int) : PyData → Bool
  | .tuple [m, r] => ixD n m && rowD n r
  | _ => false
theorem ints_all {n : Int} : ∀ {ds : List PyData}, ds.all (ixD n) = true → ds = dInts (intsOf ds)
  | [], _ => rfl
  | d :: ds, h => by
    rw [List.all_cons, Bool.and_eq_true] at h
    have ih := ints_all h.2
    cases d with
    | int i =>
      show _ = PyData.int i :: dInts (intsOf ds)
      rw [← ih]
    | _ => exact absurd h.1 (by simp [ixD])
section
variable {P : Program} {w : World} {K : PySem.W.Frag} {mg : Str → Option Value} {base : Heap} {AA : Ad}
theorem ok_is_view_of (T : Txt P K mg AA) : Kept P w K mg base CX0 4 "is_view_of" s_is_view_of ["value", "modes"] (spD2 K viewD) := by
  have O_is_index := ok_is_index (w := w) (base := base) T
  refine keep0 T.d_is_view_of sc_is_view_of (fun vs H Q E h => ?_) (fun f cdv A outer s H vs Q E hr h => ?_)
  · obtain ⟨x, d, n, rfl, _⟩ := h
    rfl
  · obtain ⟨x, d, n, rfl, h, q⟩ := h
    refine ⟨_, (pss_cons (ps_if (PW.pt (pw_or (pt_not (pt_val (pe_callB cIsi (by rfl) T.n_isinstance (by decide +kernel) (pa_cons (pv 0) (pa_cons (pe_bltn (v := .ty "tuple") (u := .type "tuple") (by rfl) T.n_tuple (by decide +kernel) rfl) pa_nil))))) (pw_or (pt_cmpR (oNe (ru64 hr)) (pe_callB cLen (by rfl) T.n_len PySem.boot_len (pa_cons (pv 0) pa_nil)) pe_int (nomark _)) (pw_or1 (pt_not (pt_val (pk_call O_is_index (hr.mono (by decide)) (pa_cons (pe_ix ix_seq (pv 0) pe_int (fun _ _ => rfl)) (pa_cons (pv 1) pa_nil)))))))))
        (pss_one (ps_ret pe_bl)) pss_nil)
      (pss_cons (ps_asg (pe_ix ix_seq (pv 0) pe_int (fun _ _ => rfl)) (pg_name (i := 2) sc_is_view_of.nd rfl (by first | exact Or.inl rfl | exact Or.inr rfl)))
      (pss_cons (ps_if (PW.pt (pw_or (pt_not (pt_val (pe_callB cIsi (by rfl) T.n_isinstance (by decide +kernel) (pa_cons (pv 2) (pa_cons (pe_bltn (v := .ty "tuple") (u := .type "tuple") (by rfl) T.n_tuple (by decide +kernel) rfl) pa_nil))))) (pw_or (pt_cmpR op_gt (pe_callB cLen (by rfl) T.n_len PySem.boot_len (pa_cons (pv 2) pa_nil)) (pe_glob (v := .int 4) rfl T.k_MOST_NEIGHBOURS.choose_spec ⟨_, rfl⟩) (nomark _)) (pw_or1 (pt_not (pt_val (pe_callB (cr_all rfl) (by rfl) T.n_all (by decide +kernel) (pa_cons (pe_lc (own := [("mode", 3)]) (g := gName 3) (tt := tYes) (by rfl) sc_is_view_of.nd (pi_tup (pv 2)) (blkOk_by (own := [("mode", 3)]) (N := ["value", "modes", "row", "mode", "at"]) (sc := defScope s_is_view_of) (by decide +kernel)) (fun _ _ _ _ _ => (pg_name (i := 3) sc_is_view_of.nd rfl (by first | exact Or.inl rfl | exact Or.inr rfl))) (fun _ _ _ _ _ => pts_nil) (fun _ _ _ _ _ => (pk_call O_is_index (hr.mono (by decide)) (pa_cons (pv 3) (pa_cons (pv 1) pa_nil))))) pa_nil))))))))
        (pss_one (ps_ret pe_bl)) pss_nil)
      (pss_one (ps_ret (pe_callB (cr_all rfl) (by rfl) T.n_all (by decide +kernel) (pa_cons (pe_lc (own := [("at", 4)]) (g := gName 4) (tt := tYes) (by rfl) sc_is_view_of.nd (pi_range1 rfl T.n_range (pa_cons (pe_op op_sub (pe_callB cLen (by rfl) T.n_len PySem.boot_len (pa_cons (pv 2) pa_nil)) pe_int) pa_nil)) (blkOk_by (own := [("at", 4)]) (N := ["value", "modes", "row", "mode", "at"]) (sc := defScope s_is_view_of) (by decide +kernel)) (fun _ _ _ _ _ => (pg_name (i := 4) sc_is_view_of.nd rfl (by first | exact Or.inl rfl | exact Or.inr rfl))) (fun _ _ _ _ _ => pts_nil) (fun _ _ _ _ _ => (pe_cmpR op_le (pe_ix (show IxR _ (rIx K) from ix_seq) (pv 2) (pv 4) (fun _ _ => rfl)) (pe_ix (show IxR _ (rIx K) from ix_seq) (pv 2) (pe_op (show OpR _ _ (aAdd K) from oAdd) (pv 4) pe_int) (fun _ _ => rfl)) (nomark _)))) pa_nil))))))), ?_⟩
    walk_at "s"
    refine w_isD h (kd_tuple d) ?_
    walk_at "s"
    cases d with
    | tuple ds =>
      obtain ⟨a, xs, rfl, S, A⟩ := dp_inv_tup h
      refine w_iteNE rfl ?_
      walk_at "s"
      refine w_lenT S ?_
      walk_at "s"
      refine w_iteN (fun h2 => ?_) (fun h2 => ?_)
      · have q := q H (Same.refl H)
        rw [show viewD n (.tuple ds) = false by
          rw [DpAll.len A] at h2
          unfold viewD
          split
          · rename_i e
            cases e
            exact absurd rfl h2
          · rfl] at q
        walk_at "s"
        exact q
      have hl : ds.length = 2 := by
        rw [← DpAll.len A]
        omega
      obtain ⟨u, v, m, r, rfl, rfl, hm, hrw⟩ := dp_two A hl
      clear A hl h2
      walk_at "s"
      refine w_ixT S rfl ?_
      walk_at "s"
      refine ⟨u, m, n, rfl, .dp hm, fun H1 e1 => ?_⟩
      cases hi : ixD n m
      · have q := q H1 e1
        rw [show viewD n (.tuple [m, r]) = false by
          show (ixD n m && _) = false
          rw [hi, Bool.false_and]] at q
        walk_at "s"
        exact q
      have q : ∀ H', Same H H' → Q (.bl (rowD n r)) H' := fun H' e => by
        have q := q H' e
        rw [show viewD n (.tuple [m, r]) = rowD n r by
          show (ixD n m && _) = _
          rw [hi, Bool.true_and]] at q
        exact q
      clear h hi hm
      walk_at "s"
      refine w_ixT (same_t e1 S) rfl ?_
      walk_at "s"
      have h := Dv.same (.dp hrw) e1
      refine w_isD h (kd_tuple r) ?_
      walk_at "s"
      clear S hrw
      cases r with
      | tuple row =>
        obtain ⟨b, ys, rfl, S, A⟩ := dp_inv_tup h
        refine w_iteNE rfl ?_
        walk_at "s"
        refine w_lenT S ?_
        walk_at "s"
        rw [DpAll.len A]
        refine w_iteD (fun h4 => ?_) (fun h4 => ?_)
        · have q := q H1 e1
          rw [show rowD n (.tuple row) = false by
            show (decide (row.length ≤ 4) && _ && _) = false
            rw [decide_eq_false (by omega), Bool.false_and, Bool.false_and]] at q
          walk_at "s"
          exact q
        have h4 : row.length ≤ 4 := by omega
        walk_at "s"
        refine ⟨⟨_, S⟩, ?_⟩
        refine lc_tup_rel (fun x y _ => y = .bl (ixV n x)) (fun _ => true) S (by rw [DpAll.len A]; exact Nat.lt_of_le_of_lt h4 (by decide +kernel)) (fun _ => rfl) (fun _ _ _ _ _ _ r _ => r) (fun x _ => turn_yes) (fun x hx _ => ?_) (fun D H2 L => ?_)
        · intro H2 s2 Q1 q1
          obtain ⟨d, _, hd⟩ := DpAll.mem A x hx
          walk_at "s"
          exact ⟨x, d, n, rfl, .dp (Dp.same hd s2), fun H3 e3 => q1 _ _ e3 (by rw [ix_dv hd])⟩
        rw [filter_true] at L
        obtain ⟨nw, sm, zs, e, pr⟩ := L
        have e2 := paired_eq pr
        subst e2
        walk_at "s"
        refine ⟨D, ys.map (ixV n), rfl, .inl (.inl (by rw [List.map_map]; exact e)), ?_⟩
        rw [all_map_id, all_ix A]
        walk_at "s"
        have e12 := Same.trans e1 sm
        have A2 := DpAll.same A sm
        have S2 := same_t sm S
        cases hx : row.all (ixD n)
        · have q := q H2 e12
          rw [show rowD n (.tuple row) = false by
            show (decide (row.length ≤ 4) && row.all (ixD n) && _) = false
            rw [hx, Bool.and_false, Bool.false_and]] at q
          walk_at "s"
          exact q
        have er := ints_all hx
        have q : ∀ H', Same H H' → Q (.bl (incI (intsOf row))) H' := fun H' e => by
          have q := q H' e
          rw [show rowD n (.tuple row) = incI (intsOf row) by
            show (decide (row.length ≤ 4) && row.all (ixD n) && _) = _
            rw [hx, decide_eq_true h4, Bool.true_and, Bool.true_and]] at q
          exact q
        rw [er] at A2
        have ey := dp_ints_inv A2
        have hl : (intsOf row).length ≤ 4 := by
          have := congrArg List.length er
          unfold dInts at this
          rw [List.length_map] at this
          omega
        generalize intsOf row = ns at *
        subst ey
        clear A A2 er hx pr e h S
        walk_at "s"
        refine w_lenT S2 ?_
        walk_at "s"
        rw [List.length_map]
        walk_at "s"
        refine ⟨by omega, by omega, ?_⟩
        refine lc_rng_rel (fun x y _ => y = stepV ns x) (fun _ => true) (lt_size (by omega)) (fun _ => rfl) (fun _ _ _ _ _ _ r _ => r) (fun i _ => turn_yes) (fun i hi _ => ?_) (fun D3 H3 L3 => ?_)
        · intro H3 s3 Q1 q1
          walk_at "s"
          refine w_ixT (same_t s3 S2) (at_nat (i := i) (by omega) (by omega)) ?_
          walk_at "s"
          refine w_ixT (same_t s3 S2) (at_nat (i := i + 1) (by omega) (by omega)) ?_
          walk_at "s"
          refine q1 _ _ (Same.refl _) ?_
          show _ = V.bl (decide (ns.getD (0 + (i : Int)).toNat 0 ≤ ns.getD ((0 + (i : Int)).toNat + 1) 0))
          rw [show (0 + (i : Int)).toNat = i by omega]
        · rw [filter_true] at L3
          obtain ⟨nw3, sm3, zs, e, pr⟩ := L3
          have e2 := paired_eq pr
          subst e2
          rw [rngV_map (stepV ns) (fun i => .bl (decide (ns.getD i 0 ≤ ns.getD (i + 1) 0))) (fun i => by
            show V.bl (decide (ns.getD (0 + (i : Int)).toNat 0 ≤ ns.getD ((0 + (i : Int)).toNat + 1) 0)) = _
            rw [show (0 + (i : Int)).toNat = i by omega])] at e
          walk_at "s"
          refine ⟨D3, (List.range ((ns.length : Int) - 1).toNat).map (fun i => decide (ns.getD i 0 ≤ ns.getD (i + 1) 0)), rfl, .inl (.inl (by rw [List.map_map]; exact e)), ?_⟩
          rw [all_map_id, show ((ns.length : Int) - 1).toNat = ns.length - 1 by omega]
          exact q H3 (Same.trans e12 sm3)
      | _ =>
        refine w_iteNX rfl ?_
        walk_at "s"
        exact q H1 e1
    | _ =>
      refine w_iteNX rfl ?_
      walk_at "s"
      exact q H (Same.refl H)
end

end K02
set_option maxRecDepth 100000
set_option maxHeartbeats 2000000
set_option pp.maxSteps 600
namespace K02
open PySem L2 NL
local macro_rules | `(tactic| walk_at "s1") => `(tactic| with_reducible first
  | refine w_seq ?_ | refine w_asg ?_ | refine w_drop ?_ | refine w_ret ?_ | refine w_next ?_ | refine w_ifS ?_
  | refine w_c ?_ | refine w_op ?_ | refine w_un ?_ | refine w_test ?_ | refine w_B ?_ | refine w_bl ?_ | refine w_not ?_ | refine w_and ?_ | refine w_or ?_
  | refine w_andV ?_ | refine w_orV ?_ | refine w_notV ?_ | refine w_blP ?_ | refine w_if ?_ | refine w_nil ?_ | refine w_cons ?_ | refine w_call ?_ | refine w_callS ?_ | refine w_callW ?_
  | refine w_cb ?_ | refine w_tup ?_ | refine w_lst ?_ | refine w_par ?_ | refine w_two ?_ | refine w_addI ?_ | refine w_I0 ?_ | refine w_neg ?_ | refine w_eqI ?_ | refine w_neI ?_
  | refine w_absI ?_ | refine w_intI ?_ | refine w_sub ?_ | refine w_bm0 ?_ | refine w_bm ?_ | refine w_iteT ?_ | refine w_iteF ?_ | refine w_iteNF ?_ | refine w_iteNT ?_ | refine w_lcT ?_ | refine w_lcL ?_
  | refine w_ref ?_ | refine w_sl ?_ | refine w_npart ?_ | refine w_part ?_ | refine w_iv ?_ | refine w_rev ?_ | refine w_forL ?_ | refine w_forT ?_ | refine w_forR1 ?_ | refine w_one ?_ | refine w_g ?_
  | refine w_asgT ?_ | refine w_gcons ?_ | refine w_gnil ?_ | refine w_lcR1 ?_
  | refine w_var (by with_unfolding_all rfl) ?_)
local macro_rules | `(tactic| walk_at "s") => `(tactic| repeat (walk_at "s1"))

/-! ### views: is_view, made_view -/
def elemsD : PyData → List PyData
  | .list ds => ds
  | .tuple ds => ds
  | _ => []
/-- what made_view takes -/
def mvD (m r : PyData) : Bool := seqD r && (elemsD r).all (ixD 4) && decide ((elemsD r).length ≤ 4) && ixD 4 m
theorem inc_pw {ns : List Int} (h : ns.Pairwise (· ≤ ·)) : incI ns = true := by
  unfold incI
  rw [List.all_eq_true]
  intro i hi
  have hi := List.mem_range.mp hi
  rw [decide_eq_true_eq, List.getD_eq_getElem?_getD, List.getD_eq_getElem?_getD, List.getElem?_eq_getElem (by omega), List.getElem?_eq_getElem (by omega)]
  exact List.pairwise_iff_getElem.mp h i (i + 1) (by omega) (by omega) (by omega)
theorem ix_ints {n : Int} {ns : List Int} : (dInts ns).all (ixD n) = ns.all fun i => decide (0 ≤ i) && decide (i < n) := by
  induction ns with
  | nil => rfl
  | cons a ns ih =>
    show (ixD n (.int a) && (dInts ns).all (ixD n)) = _
    rw [ih]
    rfl
theorem intsOf_d (ns : List Int) : intsOf (dInts ns) = ns := by
  induction ns with
  | nil => rfl
  | cons a ns ih =>
    show a :: intsOf (dInts ns) = _
    rw [ih]
theorem row_sorted {n : Int} {ns ns' : List Int} (p : ns'.Perm ns) (s : ns'.Pairwise (· ≤ ·)) (h : (dInts ns).all (ixD n) = true) : rowD n (.tuple (dInts ns')) = decide (ns.length ≤ 4) := by
  show (decide ((dInts ns').length ≤ 4) && (dInts ns').all (ixD n) && incI (intsOf (dInts ns'))) = _
  have h2 : (dInts ns').all (ixD n) = true := by
    rw [ix_ints] at h ⊢
    rw [List.all_eq_true] at h ⊢
    exact fun x hx => h x (p.mem_iff.mp hx)
  rw [h2, intsOf_d, inc_pw s, Bool.and_true, Bool.and_true]
  unfold dInts
  rw [List.length_map, p.length_eq]
section
variable {P : Program} {w : World} {K : PySem.W.Frag} {mg : Str → Option Value} {base : Heap} {AA : Ad}
theorem ok_is_view (T : Txt P K mg AA) : Kept P w K mg base CX0 5 "is_view" s_is_view ["value"] (spD1 K (viewD 4)) := by
  have O_is_view_of := ok_is_view_of (w := w) (base := base) T
  refine keep0 T.d_is_view sc_is_view (fun vs H Q E h => ?_) (fun f cdv A outer s H vs Q E hr h => ?_)
  · obtain ⟨x, d, rfl, _⟩ := h
    rfl
  · obtain ⟨x, d, rfl, h, q⟩ := h
    refine ⟨_, (pss_one (ps_ret (pk_call O_is_view_of (hr.mono (by decide)) (pa_cons (pv 0) (pa_cons (pe_glob (v := .int 4) rfl T.k_MOST_MODES.choose_spec ⟨_, rfl⟩) pa_nil))))), ?_⟩
    walk_at "s"
    exact ⟨x, d, 4, rfl, h, q⟩
def spMadeView (K : PySem.W.Frag) (C : Addr) : Sp := fun vs H Q E => ∃ (x y : V) (m r : PyData), vs = [x, y] ∧ Dp K H x m ∧ Dv K H y r ∧ (elemsD r).length ≤ 100000 ∧
  ((mvD m r = false ∧ ∀ d H', Same H H' → H' d = none → E (.ref C) (some d) (upd H' d (.xd [("at", .int 0)]))) ∨
   (mvD m r = true ∧ ∀ (ns ns' : List Int) (p t : Addr) H', elemsD r = dInts ns → ns'.Perm ns → ns'.Pairwise (· ≤ ·) → Same H H' → H' p = some (.tup [x, .ref t]) → H' t = some (.tup (ns'.map V.int)) → Q (.ref p) H'))
theorem ok_made_view (T : Txt P K mg AA) : Kept P w K mg base (L2.CX P w) 6 "made_view" s_made_view ["mode", "neighbours"] (spMadeView K AA.InvalidView) := by
  have O_is_sequence := ok_is_sequence (w := w) (base := base) T
  have O_is_index := ok_is_index (w := w) (base := base) T
  have O_is_view := ok_is_view (w := w) (base := base) T
  refine keepX T.d_made_view sc_made_view (fun vs H Q E h => ?_) (fun f cdv A outer s H vs Q E hr h => ?_)
  · obtain ⟨x, y, m, r, rfl, _⟩ := h
    rfl
  · obtain ⟨x, y, m, r, rfl, hx, hy, hz, q⟩ := h
    refine ⟨_, (pss_cons (ps_if (PW.pt (pw_or (pt_not (pt_val (pk_call O_is_sequence (hr.mono (by decide)) (pa_cons (pv 1) pa_nil)))) (pw_or1 (pt_not (pt_val (pe_callB (cr_all rfl) (by rfl) T.n_all (by decide +kernel) (pa_cons (pe_lc (own := [("one", 2)]) (g := gName 2) (tt := tYes) (by rfl) sc_made_view.nd (pi_or (pi_list (pv 1)) (pi_tup (pv 1))) (blkOk_by (own := [("one", 2)]) (N := ["mode", "neighbours", "one", "view"]) (sc := defScope s_made_view) (by decide +kernel)) (fun _ _ _ _ _ => (pg_name (i := 2) sc_made_view.nd rfl (by first | exact Or.inl rfl | exact Or.inr rfl))) (fun _ _ _ _ _ => pts_nil) (fun _ _ _ _ _ => (pk_call O_is_index (hr.mono (by decide)) (pa_cons (pv 2) (pa_cons (pe_glob (v := .int 4) rfl T.k_MOST_MODES.choose_spec ⟨_, rfl⟩) pa_nil))))) pa_nil)))))))
        (pss_one (ps_raise rfl (takes_of rfl rfl rfl rfl) (pmk_err T.x_InvalidView (hr.mono (by decide)) (pa_cons pe_int pa_nil)))) pss_nil)
      (pss_cons (ps_asg (pe_tup (pa_cons (pv 0) (pa_cons (pe_callTy cTuple (by rfl) T.n_tuple (by decide +kernel) (pa_cons (pe_callB cSort (by rfl) T.n_sorted (by decide +kernel) (pa_cons (pv 1) pa_nil)) pa_nil)) pa_nil))) (pg_name (i := 3) sc_made_view.nd rfl (by first | exact Or.inl rfl | exact Or.inr rfl)))
      (pss_cons (ps_if (pt_not (pt_val (pk_call O_is_view (hr.mono (by decide)) (pa_cons (pv 3) pa_nil))))
        (pss_one (ps_raise rfl (takes_of rfl rfl rfl rfl) (pmk_err T.x_InvalidView (hr.mono (by decide)) (pa_cons pe_int pa_nil)))) pss_nil)
      (pss_one (ps_ret (pv 3)))))), ?_⟩
    walk_at "s"
    refine ⟨y, r, rfl, hy, fun H1 e1 => ?_⟩
    walk_at "s"
    have bad : mvD m r = false → ∀ H', Same H H' → ∀ d, H' d = none → E (.ref AA.InvalidView) (some d) (upd H' d (.xd [("at", .int 0)])) := fun hb H' e d nd => by
      rcases q with ⟨_, q⟩ | ⟨hg, _⟩
      · exact q d H' e nd
      · rw [hb] at hg
        cases hg
    cases hq : seqD r
    · walk_at "s"
      exact ⟨_, rfl, bad (by unfold mvD; rw [hq]; rfl) H1 e1⟩
    obtain ⟨a, xs, ds, rfl, S, DA, hr'⟩ := dp_seq (hy.same e1) hq
    have el : elemsD r = ds := by rcases hr' with rfl | rfl <;> rfl
    rw [el] at hz q
    have hm : mvD m r = (ds.all (ixD 4) && decide (ds.length ≤ 4) && ixD 4 m) := by
      unfold mvD
      rw [hq, el, Bool.true_and]
    walk_at "s"
    refine w_lcSeq (fun x => .bl (ixV 4 x)) rfl S (lt_size (by rw [DpAll.len DA]; omega)) (fun _ => rfl) (fun x hx => ?_) (fun D H2 nD e2 eD => ?_)
    · intro H2 s2 Q1 q1
      obtain ⟨d, _, hd⟩ := DpAll.mem DA x hx
      walk_at "s"
      exact ⟨x, d, 4, rfl, .dp (Dp.same hd s2), fun H3 e3 => q1 _ _ e3 (by rw [ix_dv hd])⟩
    have e12 := Same.trans e1 e2
    walk_at "s"
    refine ⟨D, xs.map (ixV 4), rfl, .inl (.inl (by rw [List.map_map]; exact eD)), ?_⟩
    rw [all_map_id, all_ix DA]
    walk_at "s"
    cases hx2 : ds.all (ixD 4)
    · walk_at "s"
      exact ⟨_, rfl, bad (by rw [hm, hx2]; rfl) H2 e12⟩
    rw [hx2, Bool.true_and] at hm
    have er := ints_all hx2
    have DA2 := DpAll.same DA e2
    rw [er] at DA2 hx2
    have ey := dp_ints_inv DA2
    have hl : ds.length = (intsOf ds).length := by
      have := congrArg List.length er
      unfold dInts at this
      rw [List.length_map] at this
      exact this
    rw [hl] at hm hz
    generalize hns : intsOf ds = ns at *
    subst ey
    walk_at "s"
    refine ⟨a, ns, rfl, sq_same S e2, fun ns' l pm pw nl => ?_⟩
    have e3 := Same.trans e12 (Same.newT (o := .lst (ns'.map V.int)) nl)
    have k3 : upd H2 l (.lst (ns'.map V.int)) l = some (.lst (ns'.map V.int)) := upd_same
    generalize upd H2 l (.lst (ns'.map V.int)) = H3 at e3 k3
    walk_at "s"
    refine ⟨l, _, rfl, .inl ⟨SqL.of k3, fun t nt => ?_⟩⟩
    have e4 := Same.trans e3 (Same.newT (o := .tup (ns'.map V.int)) nt)
    have k4 : upd H3 t (.tup (ns'.map V.int)) t = some (.tup (ns'.map V.int)) := upd_same
    generalize upd H3 t (.tup (ns'.map V.int)) = H4 at e4 k4
    walk_at "s"
    refine ⟨show 2 ≤ sizeLine by decide +kernel, fun p np => ?_⟩
    have e5 := Same.trans e4 (Same.newT (o := .tup [x, .ref t]) np)
    have s5 : Same H4 _ := Same.newT (o := .tup [x, .ref t]) np
    have k5 : upd H4 p (.tup [x, .ref t]) p = some (.tup [x, .ref t]) := upd_same
    have k5t := s5 _ _ k4
    generalize upd H4 p (.tup [x, .ref t]) = H5 at e5 k5 k5t
    walk_at "s"
    refine ⟨.ref p, .tuple [m, .tuple (dInts ns')], rfl, .dp (.tup (.inl (.inl k5)) (.cons (Dp.same hx e5) (.cons (.tup (.inl (.inl k5t)) (dp_ints ns')) .nil))), fun H6 e6 => ?_⟩
    have e56 := Same.trans e5 e6
    rw [show viewD 4 (.tuple [m, .tuple (dInts ns')]) = mvD m r by
      show (ixD 4 m && rowD 4 (.tuple (dInts ns'))) = _
      rw [row_sorted pm pw hx2, hm, Bool.and_comm]]
    cases hb : mvD m r
    · walk_at "s"
      exact ⟨_, rfl, bad hb H6 e56⟩
    · walk_at "s"
      rcases q with ⟨hg, _⟩ | ⟨_, q⟩
      · rw [hb] at hg
        cases hg
      · exact q ns ns' p t H6 er pm pw e56 (e6 _ _ k5) (e6 _ _ k5t)
end

end K02
set_option maxRecDepth 100000
set_option maxHeartbeats 2000000
set_option pp.maxSteps 600
namespace K02
open PySem L2 NL
local macro_rules | `(tactic| walk_at "s1") => `(tactic| with_reducible first
  | refine w_seq ?_ | refine w_asg ?_ | refine w_drop ?_ | refine w_ret ?_ | refine w_next ?_ | refine w_ifS ?_
  | refine w_c ?_ | refine w_op ?_ | refine w_un ?_ | refine w_test ?_ | refine w_B ?_ | refine w_bl ?_ | refine w_not ?_ | refine w_and ?_ | refine w_or ?_
  | refine w_andV ?_ | refine w_orV ?_ | refine w_notV ?_ | refine w_blP ?_ | refine w_if ?_ | refine w_nil ?_ | refine w_cons ?_ | refine w_call ?_ | refine w_callS ?_ | refine w_callW ?_
  | refine w_cb ?_ | refine w_tup ?_ | refine w_lst ?_ | refine w_par ?_ | refine w_two ?_ | refine w_addI ?_ | refine w_I0 ?_ | refine w_neg ?_ | refine w_eqI ?_ | refine w_neI ?_
  | refine w_absI ?_ | refine w_intI ?_ | refine w_sub ?_ | refine w_bm0 ?_ | refine w_bm ?_ | refine w_iteT ?_ | refine w_iteF ?_ | refine w_iteNF ?_ | refine w_iteNT ?_ | refine w_lcT ?_ | refine w_lcL ?_
  | refine w_ref ?_ | refine w_sl ?_ | refine w_npart ?_ | refine w_part ?_ | refine w_iv ?_ | refine w_rev ?_ | refine w_forL ?_ | refine w_forT ?_ | refine w_forR1 ?_ | refine w_one ?_ | refine w_g ?_
  | refine w_asgT ?_ | refine w_gcons ?_ | refine w_gnil ?_ | refine w_lcR1 ?_
  | refine w_var (by with_unfolding_all rfl) ?_)
local macro_rules | `(tactic| walk_at "s") => `(tactic| repeat (walk_at "s1"))

/-! ### a drawn view, a mixed row, seen -/
section
variable {P : Program} {w : World} {K : PySem.W.Frag} {mg : Str → Option Value} {base : Heap} {AA : Ad}
/-- (m, row): a view of the kinds, its row in order -/
def spOther (K : PySem.W.Frag) : Sp := fun vs H Q _ => ∃ (a l : Addr) (n : Int) (dg : V), vs = [.ref a, .int n, dg] ∧ DealAt H a l ∧ 0 < n ∧ n ≤ 1000 ∧ (dg = .non ∨ ∃ k : Nat, dg = .int k ∧ k ≤ 1000) ∧
  ∀ (p t : Addr) (m : Int) (ns : List Int) H', DealAt H' a l → Fr a l H H' → 0 ≤ m → m < n → (∀ x ∈ ns, 0 ≤ x ∧ x < n) → ns.Pairwise (· ≤ ·) → (dg = .non → ns.length ≤ 4) → (∀ k : Nat, dg = .int k → ns.length = k) →
    H' p = some (.tup [.int m, .ref t]) → H' t = some (.tup (ns.map V.int)) → Q (.ref p) H'
theorem ok__law_other (T : Txt P K mg AA) (O__law_any : Kept P w K mg base CX0 1 "_law_any" s__law_any ["_law_deal", "_law_bound"] spAny) :
    Kept P w K mg base CX0 2 "_law_other" s__law_other ["_law_deal", "_law_kinds", "_law_degree"] (spOther K) := by
  refine keep0 T.d__law_other sc__law_other (fun vs H Q E h => ?_) (fun f cdv A outer s H vs Q E hr h => ?_)
  · obtain ⟨a, l, n, dg, rfl, _⟩ := h
    rfl
  · obtain ⟨a, l, n, dg, rfl, D, n0, n1, hd, q⟩ := h
    refine ⟨_, (pss_cons (ps_asg (pe_ifExp (pt_cmpR oIs (pv 2) pe_non (nomark _)) (pk_call O__law_any (hr.mono (by decide)) (pa_cons (pv 0) (pa_cons pe_int pa_nil))) (pv 2)) (pg_name (i := 3) sc__law_other.nd rfl (by first | exact Or.inl rfl | exact Or.inr rfl)))
      (pss_one (ps_ret (pe_tup (pa_cons (pk_call O__law_any (hr.mono (by decide)) (pa_cons (pv 0) (pa_cons (pv 1) pa_nil))) (pa_cons (pe_callTy cTuple (by rfl) T.n_tuple (by decide +kernel) (pa_cons (pe_callB cSort (by rfl) T.n_sorted (by decide +kernel) (pa_cons (pe_lc (own := [("_law_turn", 4)]) (g := gName 4) (tt := tYes) (by rfl) sc__law_other.nd (pi_range1 rfl T.n_range (pa_cons (pv 3) pa_nil)) (blkOk_by (own := [("_law_turn", 4)]) (N := ["_law_deal", "_law_kinds", "_law_degree", "_law_many", "_law_turn"]) (sc := defScope s__law_other) (by decide +kernel)) (fun _ _ _ _ _ => (pg_name (i := 4) sc__law_other.nd rfl (by first | exact Or.inl rfl | exact Or.inr rfl))) (fun _ _ _ _ _ => pts_nil) (fun _ _ _ _ _ => (pk_call O__law_any (hr.mono (by decide)) (pa_cons (pv 0) (pa_cons (pv 1) pa_nil))))) pa_nil)) pa_nil)) pa_nil)))))), ?_⟩
    walk_at "s"
    refine w_isN ?_
    walk_at "s"
    generalize hR : tRet (tTup _) { nx := fun x H' => Q V.non H', rt := Q } = R
    have rest : ∀ (k : Nat) (H1 : Hp), k ≤ 1000 → (dg = .non → k ≤ 4) → (∀ j : Nat, dg = .int j → k = j) → DealAt H1 a l → Fr a l H H1 → R [some (.ref a), some (.int n), some dg, some (.int k), none] H1 := by
      intro k H1 hk k1 k2 D1 f1
      subst hR
      walk_at "s"
      refine ⟨a, l, n, rfl, n0, by omega, D1, fun m H2 m0 m1 D2 f2 => ?_⟩
      have f12 := f1.trans f2
      walk_at "s"
      refine ⟨by omega, by omega, ?_⟩
      rw [Int.toNat_natCast]
      refine lc_rng_inv (fun D3 i H' => DealAt H' a l ∧ Fr a l H2 H' ∧ ∃ ns : List Int, H' D3 = some (.lst (ns.map V.int)) ∧ ns.length = i ∧ ∀ x ∈ ns, 0 ≤ x ∧ x < n)
        (fun D3 nD => ⟨D2.updN (D2.off nD).1 (D2.off nD).2, Fr.refl.updN nD, [], upd_same, rfl, fun x hx => by cases hx⟩) (fun _ => rfl) (fun D3 i H' nD hi L => ?_) (fun D3 H' nD L => ?_)
      · obtain ⟨DL, fL, ns, eL, hl, hx⟩ := L
        walk_at "s"
        refine ⟨a, l, n, rfl, n0, by omega, DL, fun r H4 r0 r1 D4 f4 => ?_⟩
        refine ⟨ns.map V.int, f4 _ _ eL (D2.off nD).1 (D2.off nD).2, lt_size (by rw [List.length_map]; omega), D4.updN (D2.off nD).1 (D2.off nD).2, (fL.trans f4).updN nD, ns ++ [r], ?_, ?_, ?_⟩
        · rw [upd_same, List.map_append]
          rfl
        · rw [List.length_append, hl]
          rfl
        · intro x h
          rcases List.mem_append.mp h with h | h
          · exact hx x h
          · rw [List.mem_singleton.mp h]
            exact ⟨r0, r1⟩
      · obtain ⟨DL, fL, ns, eL, hl, hx⟩ := L
        walk_at "s"
        refine ⟨D3, ns, rfl, .inl (SqL.of eL), fun ns' l3 pm pw nl => ?_⟩
        have s4 : Same H' _ := Same.newT (o := .lst (ns'.map V.int)) nl
        have k4 : upd H' l3 (.lst (ns'.map V.int)) l3 = some (.lst (ns'.map V.int)) := upd_same
        generalize upd H' l3 (.lst (ns'.map V.int)) = H4 at s4 k4
        walk_at "s"
        refine ⟨l3, _, rfl, .inl ⟨SqL.of k4, fun t nt => ?_⟩⟩
        have s5 := Same.trans s4 (Same.newT (o := .tup (ns'.map V.int)) nt)
        have k5 : upd H4 t (.tup (ns'.map V.int)) t = some (.tup (ns'.map V.int)) := upd_same
        generalize upd H4 t (.tup (ns'.map V.int)) = H5 at s5 k5
        walk_at "s"
        refine ⟨show 2 ≤ sizeLine by decide +kernel, fun p np => ?_⟩
        have s6 : Same H5 _ := Same.newT (o := .tup [.int m, .ref t]) np
        have s56 := Same.trans s5 s6
        refine q p t m ns' _ (DL.same s56) ((f12.trans fL).trans (Fr.same s56)) m0 m1 (fun x h => hx x (pm.mem_iff.mp h)) pw (fun z => ?_) (fun j z => ?_) upd_same (s6 _ _ k5)
        · rw [pm.length_eq, hl]
          exact k1 z
        · rw [pm.length_eq, hl]
          exact k2 j z
    clear hR
    rcases hd with rfl | ⟨k, rfl, hk⟩
    · refine w_iteE rfl ?_
      walk_at "s"
      refine ⟨a, l, 5, rfl, by decide, by decide, D, fun r H1 r0 r1 D1 f1 => ?_⟩
      have e : r = ((r.toNat : Nat) : Int) := by omega
      rw [e]
      exact rest r.toNat H1 (by omega) (fun _ => by omega) (fun j z => by cases z) D1 f1
    · refine w_iteX rfl ?_
      walk_at "s"
      exact rest k H hk (fun z => by cases z) (fun j z => by injection z with z; omega) D Fr.refl
end

end K02
set_option maxRecDepth 100000
set_option maxHeartbeats 2000000
set_option pp.maxSteps 600
namespace K02
open PySem L2 NL
local macro_rules | `(tactic| walk_at "s1") => `(tactic| with_reducible first
  | refine w_seq ?_ | refine w_asg ?_ | refine w_drop ?_ | refine w_ret ?_ | refine w_next ?_ | refine w_ifS ?_
  | refine w_c ?_ | refine w_op ?_ | refine w_un ?_ | refine w_test ?_ | refine w_B ?_ | refine w_bl ?_ | refine w_not ?_ | refine w_and ?_ | refine w_or ?_
  | refine w_andV ?_ | refine w_orV ?_ | refine w_notV ?_ | refine w_blP ?_ | refine w_if ?_ | refine w_nil ?_ | refine w_cons ?_ | refine w_call ?_ | refine w_callS ?_ | refine w_callW ?_
  | refine w_cb ?_ | refine w_tup ?_ | refine w_lst ?_ | refine w_par ?_ | refine w_two ?_ | refine w_addI ?_ | refine w_I0 ?_ | refine w_neg ?_ | refine w_eqI ?_ | refine w_neI ?_
  | refine w_absI ?_ | refine w_intI ?_ | refine w_sub ?_ | refine w_bm0 ?_ | refine w_bm ?_ | refine w_iteT ?_ | refine w_iteF ?_ | refine w_iteNF ?_ | refine w_iteNT ?_ | refine w_lcT ?_ | refine w_lcL ?_
  | refine w_ref ?_ | refine w_sl ?_ | refine w_npart ?_ | refine w_part ?_ | refine w_iv ?_ | refine w_rev ?_ | refine w_forL ?_ | refine w_forT ?_ | refine w_forR1 ?_ | refine w_one ?_ | refine w_g ?_
  | refine w_asgT ?_ | refine w_gcons ?_ | refine w_gnil ?_ | refine w_lcR1 ?_
  | refine w_var (by with_unfolding_all rfl) ?_)
local macro_rules | `(tactic| walk_at "s") => `(tactic| repeat (walk_at "s1"))

/-! ### seen; a mixed row -/
theorem map_erase {α β : Type} (g : α → β) : ∀ (l : List α) (k : Nat), (l.map g).eraseIdx k = (l.eraseIdx k).map g
  | [], k => by simp
  | a :: l, 0 => rfl
  | a :: l, k + 1 => by
    show g a :: (l.map g).eraseIdx k = g a :: (l.eraseIdx k).map g
    rw [map_erase g l k]
theorem perm_erase {α : Type} : ∀ (l : List α) (k : Nat) (h : k < l.length), (l[k] :: l.eraseIdx k).Perm l
  | a :: l, 0, _ => List.Perm.refl _
  | a :: l, k + 1, h => by
    show (l[k]'(Nat.lt_of_succ_lt_succ h) :: a :: l.eraseIdx k).Perm (a :: l)
    exact (List.Perm.swap a _ _).trans ((perm_erase l k (Nat.lt_of_succ_lt_succ h)).cons a)
section
variable {P : Program} {w : World} {K : PySem.W.Frag} {mg : Str → Option Value} {base : Heap} {AA : Ad}
def isV (k : Int) : V → Bool
  | .int i => decide (i = k)
  | _ => false
def spSeen (K : PySem.W.Frag) : Sp := fun vs H Q _ => ∃ (p t : Addr) (x : V) (ns : List Int) (k : Int), vs = [.ref p, .int k] ∧ SqT K H p [x, .ref t] ∧ SqT K H t (ns.map V.int) ∧ ns.length ≤ 100000 ∧
  ∀ H', Same H H' → Q (.int ((ns.filter fun i => decide (i = k)).length : Nat)) H'
theorem ok_seen (T : Txt P K mg AA) : Kept P w K mg base CX0 1 "seen" s_seen ["view", "mode"] (spSeen K) := by
  refine keep0 T.d_seen sc_seen (fun vs H Q E h => ?_) (fun f cdv A outer s H vs Q E hr h => ?_)
  · obtain ⟨p, t, x, ns, k, rfl, _⟩ := h
    rfl
  · obtain ⟨p, t, x, ns, k, rfl, Sp, St, hz, q⟩ := h
    refine ⟨_, (pss_one (ps_ret (pe_callB cLen (by rfl) T.n_len PySem.boot_len (pa_cons (pe_lc (own := [("one", 2)]) (g := gName 2) (by rfl) sc_seen.nd (pi_tup (pe_ix ix_seq (pv 0) pe_int (fun _ _ => rfl))) (blkOk_by (own := [("one", 2)]) (N := ["view", "mode", "one"]) (sc := defScope s_seen) (by decide +kernel)) (fun _ _ _ _ _ => (pg_name (i := 2) sc_seen.nd rfl (by first | exact Or.inl rfl | exact Or.inr rfl))) (fun _ _ _ _ _ => (pts_one (pt_cmpR (show OpR _ _ (aEq K) from (oEq (ru64 hr))) (pv 2) (pv 1) (nomark _)))) (fun _ _ _ _ _ => (pv 2))) pa_nil)))), ?_⟩
    walk_at "s"
    refine w_ixT Sp rfl ?_
    walk_at "s"
    refine ⟨⟨_, St⟩, ?_⟩
    refine lc_tup_rel (fun x y _ => y = x) (isV k) St (lt_size (by rw [List.length_map]; omega)) (fun _ => rfl) (fun _ _ _ _ _ _ r _ => r) (fun x hx => ?_) (fun x hx _ => ?_) (fun D H2 L => ?_)
    · intro H1 s1 Q1 q1
      obtain ⟨n, _, rfl⟩ := List.mem_map.mp hx
      walk_at "s"
      exact q1 _ (Same.refl _)
    · intro H1 s1 Q1 q1
      walk_at "s"
      exact q1 _ _ (Same.refl _) rfl
    rw [show (ns.map V.int).filter (isV k) = (ns.filter fun i => decide (i = k)).map V.int by rw [List.filter_map]; rfl] at L
    obtain ⟨nw, sm, ys, e, pr⟩ := L
    have e2 : ys = _ := (paired_eq (f := fun x => x) pr).trans (List.map_id _)
    subst e2
    walk_at "s"
    refine w_lenL (SqL.of e) ?_
    rw [List.length_map]
    exact q H2 sm
/-- a row in any order -/
def spMixed (K : PySem.W.Frag) : Sp := fun vs H Q _ => ∃ (a l s : Addr) (ns : List Int), vs = [.ref a, .ref s] ∧ DealAt H a l ∧ (SqL K H s (ns.map V.int) ∨ SqT K H s (ns.map V.int)) ∧ ns.length ≤ 1000 ∧
  ∀ (f : Addr) (ns' : List Int) H', DealAt H' a l → Fr a l H H' → H f = none → ns'.Perm ns → H' f = some (.lst (ns'.map V.int)) → Q (.ref f) H'
theorem ok__law_mixed (T : Txt P K mg AA) (O__law_any : Kept P w K mg base CX0 1 "_law_any" s__law_any ["_law_deal", "_law_bound"] spAny) :
    Kept P w K mg base CX0 2 "_law_mixed" s__law_mixed ["_law_deal", "_law_some"] (spMixed K) := by
  refine keep0 T.d__law_mixed sc__law_mixed (fun vs H Q E h => ?_) (fun f cdv A outer s H vs Q E hr h => ?_)
  · obtain ⟨a, l, p, ns, rfl, _⟩ := h
    rfl
  · obtain ⟨a, l, p, ns, rfl, D, S, hz, q⟩ := h
    refine ⟨_, (pss_cons (ps_par (i := 2) (j := 3) (by rfl) sc__law_mixed.nd rfl rfl (by decide) rfl rfl (pa_cons (pe_callTy cList (by rfl) T.n_list (by decide +kernel) (pa_cons (pv 1) pa_nil)) (pa_cons (pe_lst pa_nil) pa_nil)) (by rfl))
      (pss_cons (ps_while PassesOwn.never (pt_cmpR (oNe (ru64 hr)) (pv 2) (pe_lst pa_nil) (nomark _)) (pss_one (ps_expr (pe_bm PySem.F.plainAttrs_list PySem.F.slot_list_append PySem.F.type_list_append mt_append (pv 3) (pa_cons (pe_bm PySem.F.plainAttrs_list PySem.F.slot_list_pop PySem.F.type_list_pop mt_popAt (pv 2) (pa_cons (pk_call O__law_any (hr.mono (by decide)) (pa_cons (pv 0) (pa_cons (pe_callB cLen (by rfl) T.n_len PySem.boot_len (pa_cons (pv 2) pa_nil)) pa_nil))) pa_nil)) pa_nil)))))
      (pss_one (ps_ret (pv 3))))), ?_⟩
    walk_at "s"
    refine ⟨p, _, rfl, S, fun L1 n1 => ?_⟩
    have o1 := D.off n1
    have D1 : DealAt (upd H L1 (.lst (ns.map V.int))) a l := D.updN o1.1 o1.2
    have f1 : Fr a l H (upd H L1 (.lst (ns.map V.int))) := Fr.refl.updN n1
    have k1 : upd H L1 (.lst (ns.map V.int)) L1 = some (.lst (ns.map V.int)) := upd_same
    have none1 : ∀ b, upd H L1 (.lst (ns.map V.int)) b = none → H b = none := fun b h => by
      by_cases hb : b = L1
      · subst hb
        exact n1
      · rw [upd_ne hb] at h
        exact h
    generalize upd H L1 (.lst (ns.map V.int)) = H1 at D1 f1 k1 none1
    walk_at "s"
    refine ⟨show 0 ≤ sizeLine by decide +kernel, fun F2 n2 => ?_⟩
    have o2 := D1.off n2
    have nF := none1 _ n2
    have ne12 : L1 ≠ F2 := ne_of_none k1 n2
    walk_at "s"
    refine w_while (m := ns.length) (fun m σ H' => DealAt H' a l ∧ Fr a l H H' ∧ σ = [some (.ref a), some (.ref p), some (.ref L1), some (.ref F2)] ∧ ∃ ps qs : List Int, H' L1 = some (.lst (ps.map V.int)) ∧ H' F2 = some (.lst (qs.map V.int)) ∧
      ps.length = m ∧ ps.length + qs.length = ns.length ∧ (qs ++ ps).Perm ns) ⟨D1.updN o2.1 o2.2, f1.updN nF, rfl, ns, [], by rw [upd_ne ne12]; exact k1, upd_same, rfl, rfl, List.Perm.refl _⟩ ?_
    rintro m σ H' ⟨D3, f3, rfl, ps, qs, kL, kF, rfl, hlen, pm⟩
    clear D1 f1 k1 none1 n2
    walk_at "s"
    refine ⟨show 0 ≤ sizeLine by decide +kernel, fun t nt => ?_⟩
    have st : Same H' _ := Same.newT (o := .lst []) nt
    have kt : upd H' t (.lst []) t = some (.lst []) := upd_same
    generalize upd H' t (.lst []) = H4 at st kt
    have D4 := D3.same st
    have f4 := f3.trans (Fr.same st)
    have kL4 := st _ _ kL
    have kF4 := st _ _ kF
    refine w_neL (ns := ps) (ms := []) (SqL.of kL4) (SqL.of kt) ?_
    walk_at "s"
    refine w_iteN (fun h0 => ?_) (fun h0 => ?_)
    · refine w_go ?_
      walk_at "s"
      have hp : 0 < ps.length := List.length_pos_iff.mpr h0
      refine ⟨tyL kF4, ?_⟩
      walk_at "s"
      refine ⟨tyL kL4, ?_⟩
      walk_at "s"
      refine w_lenL (SqL.of kL4) ?_
      walk_at "s"
      rw [List.length_map]
      refine ⟨a, l, ps.length, rfl, by omega, by omega, D4, fun r H5 r0 r1 D5 f5 => ?_⟩
      have kL5 := f5 _ _ kL4 o1.1 o1.2
      have kF5 := f5 _ _ kF4 o2.1 o2.2
      obtain ⟨k, rfl⟩ : ∃ k : Nat, r = k := ⟨r.toNat, by omega⟩
      have hk : k < ps.length := by omega
      walk_at "s"
      refine ⟨L1, ps.map V.int, (k : Int), k, .int ps[k], rfl, rfl, kL5, by omega, by omega, ?_, ?_, ?_⟩
      · rw [List.length_map]
        unfold seqIndex?
        have hneg : ¬ ((k : Int) < 0) := by omega
        simp only [hneg, if_false]
        rw [if_pos (by rw [Bool.and_eq_true, decide_eq_true_eq, decide_eq_true_eq]; omega)]
        rfl
      · rw [List.getElem?_map, List.getElem?_eq_getElem hk]
        rfl
      walk_at "s"
      have e1 : upd H5 L1 (.lst ((ps.map V.int).eraseIdx k)) F2 = some (.lst (qs.map V.int)) := by
        rw [upd_ne (Ne.symm ne12)]
        exact kF5
      refine ⟨F2, _, _, rfl, rfl, e1, lt_size (by rw [List.length_map]; omega), ?_⟩
      have D6 : DealAt (upd (upd H5 L1 (.lst ((ps.map V.int).eraseIdx k))) F2 (.lst (qs.map V.int ++ [.int ps[k]]))) a l := (D5.updN o1.1 o1.2).updN o2.1 o2.2
      refine ⟨(ps.eraseIdx k).length, by rw [List.length_eraseIdx_of_lt hk]; omega, D6, ((f4.trans f5).updN n1).updN nF, rfl, ps.eraseIdx k, qs ++ [ps[k]], ?_, ?_, rfl, ?_, ?_⟩
      · rw [upd_ne ne12, upd_same, map_erase]
      · rw [upd_same, List.map_append]
        rfl
      · rw [List.length_eraseIdx_of_lt hk, List.length_append]
        show ps.length - 1 + (qs.length + 1) = ns.length
        omega
      · rw [List.append_assoc]
        refine List.Perm.trans (List.Perm.append_left qs ?_) pm
        exact perm_erase ps k hk
    · subst h0
      walk_at "s"
      rw [List.append_nil] at pm
      exact q F2 qs H4 D4 f4 nF pm kF4
end

end K02
set_option maxRecDepth 100000
set_option maxHeartbeats 2000000
set_option pp.maxSteps 600
namespace K02
open PySem L2 NL
local macro_rules | `(tactic| walk_at "s1") => `(tactic| with_reducible first
  | refine w_seq ?_ | refine w_asg ?_ | refine w_drop ?_ | refine w_ret ?_ | refine w_next ?_ | refine w_ifS ?_
  | refine w_c ?_ | refine w_op ?_ | refine w_un ?_ | refine w_test ?_ | refine w_B ?_ | refine w_bl ?_ | refine w_not ?_ | refine w_and ?_ | refine w_or ?_
  | refine w_andV ?_ | refine w_orV ?_ | refine w_notV ?_ | refine w_blP ?_ | refine w_if ?_ | refine w_nil ?_ | refine w_cons ?_ | refine w_call ?_ | refine w_callS ?_ | refine w_callW ?_
  | refine w_cb ?_ | refine w_tup ?_ | refine w_lst ?_ | refine w_par ?_ | refine w_two ?_ | refine w_addI ?_ | refine w_I0 ?_ | refine w_neg ?_ | refine w_eqI ?_ | refine w_neI ?_
  | refine w_absI ?_ | refine w_intI ?_ | refine w_sub ?_ | refine w_bm0 ?_ | refine w_bm ?_ | refine w_iteT ?_ | refine w_iteF ?_ | refine w_iteNF ?_ | refine w_iteNT ?_ | refine w_lcT ?_ | refine w_lcL ?_
  | refine w_ref ?_ | refine w_sl ?_ | refine w_npart ?_ | refine w_part ?_ | refine w_iv ?_ | refine w_rev ?_ | refine w_forL ?_ | refine w_forT ?_ | refine w_forR1 ?_ | refine w_one ?_ | refine w_g ?_
  | refine w_asgT ?_ | refine w_gcons ?_ | refine w_gnil ?_ | refine w_lcR1 ?_
  | refine w_var (by with_unfolding_all rfl) ?_)
local macro_rules | `(tactic| walk_at "s") => `(tactic| repeat (walk_at "s1"))

/-! ### mode_rows, all_views -/
def lastI (r : List Int) : Int := r.getLastD 0
def moreP (r : List Int) (m : Nat) : Bool := decide (r = []) || decide (lastI r ≤ (m : Int))
def stepR (n : Nat) (rows : List (List Int)) : List (List Int) := rows.flatMap fun r => ((List.range n).filter (moreP r)).map fun (m : Nat) => r ++ [(m : Int)]
def rowsN (n : Nat) : Nat → List (List Int)
  | 0 => [[]]
  | k + 1 => stepR n (rowsN n k)
theorem stepR_len (n : Nat) (rows : List (List Int)) : (stepR n rows).length ≤ n * rows.length := by
  induction rows with
  | nil => simp [stepR]
  | cons r rows ih =>
    show (((List.range n).filter (moreP r)).map (fun (m : Nat) => r ++ [(m : Int)]) ++ stepR n rows).length ≤ _
    have h : ((List.range n).filter (moreP r)).length ≤ n := by
      have := List.length_filter_le (moreP r) (List.range n)
      rw [List.length_range] at this
      exact this
    rw [List.length_append, List.length_map, List.length_cons, Nat.mul_succ]
    omega
theorem rowsN_mem {n : Nat} : ∀ {k : Nat} {r : List Int}, r ∈ rowsN n k → r.length = k
  | 0, r, h => by
    rw [List.mem_singleton.mp h]
    rfl
  | k + 1, r, h => by
    obtain ⟨q, hq, h2⟩ := List.mem_flatMap.mp h
    obtain ⟨m, _, rfl⟩ := List.mem_map.mp h2
    rw [List.length_append, rowsN_mem hq]
    rfl
theorem rowsN_len {n k : Nat} (hn : n ≤ 4) (hk : k ≤ 4) : (rowsN n k).length ≤ 256 := by
  have h : ∀ j, (rowsN n j).length ≤ n ^ j := by
    intro j
    induction j with
    | zero => exact Nat.le_refl _
    | succ j ih =>
      refine Nat.le_trans (stepR_len n (rowsN n j)) ?_
      rw [Nat.pow_succ, Nat.mul_comm]
      exact Nat.mul_le_mul_right n ih
  refine Nat.le_trans (h k) (Nat.le_trans (Nat.pow_le_pow_left hn k) ?_)
  exact Nat.le_trans (Nat.pow_le_pow_right (by decide) hk) (by decide)
section
variable {P : Program} {w : World} {K : PySem.W.Frag} {mg : Str → Option Value} {base : Heap} {AA : Ad}
/-- the value is the row, a tuple that stands -/
def RowAt (r : List Int) (y : V) (H : Hp) : Prop := ∃ t, y = .ref t ∧ H t = some (.tup (r.map V.int))
def spModeRows : Sp := fun vs H Q _ => ∃ n k : Nat, vs = [.int n, .int k] ∧ n ≤ 4 ∧ k ≤ 4 ∧
  ∀ (D : Addr) (ys : List V) H', H D = none → Same H H' → H' D = some (.lst ys) → Paired (fun r y => RowAt r y H') (rowsN n k) ys → Q (.ref D) H'
theorem ok_mode_rows (T : Txt P K mg AA) : Kept P w K mg base CX0 1 "mode_rows" s_mode_rows ["modes", "many"] spModeRows := by
  refine keep0 T.d_mode_rows sc_mode_rows (fun vs H Q E h => ?_) (fun f cdv A outer s H vs Q E hr h => ?_)
  · obtain ⟨n, k, rfl, _⟩ := h
    rfl
  · obtain ⟨n, k, rfl, hn, hk, q⟩ := h
    refine ⟨_, (pss_cons (ps_asg (pe_lst (pa_cons (pe_tup pa_nil) pa_nil)) (pg_name (i := 2) sc_mode_rows.nd rfl (by first | exact Or.inl rfl | exact Or.inr rfl)))
      (pss_cons (ps_for PassesOwn.never rfl (pi_range1 rfl T.n_range (pa_cons (pv 1) pa_nil)) (pg_name (i := 3) sc_mode_rows.nd rfl (by first | exact Or.inl rfl | exact Or.inr rfl))
        (pss_one (ps_setLc2 (i := 2) (own := [("row", 4), ("mode", 5)]) (vs1 := [5]) (g := gName 4) (g1 := gName 5) (tt := tYes) (by rfl) sc_mode_rows.nd rfl rfl (sw_true rfl rfl rfl (by decide +kernel)) (pi_list (pv 2)) (blkOk_by (own := [("row", 4), ("mode", 5)]) (N := ["modes", "many", "found", "turn", "row", "mode"]) (sc := defScope s_mode_rows) (by decide +kernel)) (by decide) (fun _ _ _ _ _ => (pg_name (i := 4) sc_mode_rows.nd rfl (by first | exact Or.inl rfl | exact Or.inr rfl))) (fun _ _ _ _ _ => pts_nil) (fun _ _ _ _ _ => (pi_range1 rfl T.n_range (pa_cons (pv 0) pa_nil))) (fun _ _ _ _ _ => (pg_name (i := 5) sc_mode_rows.nd rfl (by first | exact Or.inl rfl | exact Or.inr rfl))) (fun _ _ _ _ _ => (pts_one (PW.pt (pw_or (pt_cmpR (show OpR _ _ (aEq K) from (oEq (ru64 hr))) (pv 4) (pe_tup pa_nil) (nomark _)) (pw_or1 (pt_cmpR op_ge (pv 5) (pe_ix (show IxR _ (rIx K) from ix_seq) (pv 4) (pe_un un_neg pe_int) (fun _ _ => rfl)) (nomark _))))))) (fun _ _ _ _ _ => (pe_op (show OpR _ _ (aAdd K) from oAdd) (pv 4) (pe_tup (pa_cons (pv 5) pa_nil)))))))
      (pss_one (ps_ret (pv 2))))), ?_⟩
    walk_at "s"
    refine ⟨show 0 ≤ sizeLine by decide +kernel, fun p np => ?_⟩
    have s1 : Same H _ := Same.newT (o := .tup []) np
    have k1 : upd H p (.tup []) p = some (.tup []) := upd_same
    generalize upd H p (.tup []) = H1 at s1 k1
    walk_at "s"
    refine ⟨show 1 ≤ sizeLine by decide +kernel, fun D0 nD => ?_⟩
    have s2 : Same H1 _ := Same.newT (o := .lst [.ref p]) nD
    have k2 : upd H1 D0 (.lst [.ref p]) D0 = some (.lst [.ref p]) := upd_same
    generalize upd H1 D0 (.lst [.ref p]) = H2 at s2 k2
    have s12 := Same.trans s1 s2
    walk_at "s"
    refine ⟨by omega, by omega, ?_⟩
    rw [Int.toNat_natCast]
    refine fgR (fun i σ H' => ∃ (v3 v4 v5 : Option V) (D : Addr) (ys : List V), σ = [some (.int n), some (.int k), some (.ref D), v3, v4, v5] ∧ H D = none ∧ Same H H' ∧ H' D = some (.lst ys) ∧ Paired (fun r y => RowAt r y H') (rowsN n i) ys)
      ⟨_, _, _, D0, [.ref p], rfl, none_same s1 nD, s12, k2, .cons ⟨p, rfl, s2 _ _ k1⟩ .nil⟩ ?_ ?_
    · rintro i σ H3 hi ⟨v3, v4, v5, D, ys, rfl, n3, s3, k3, pr⟩
      walk_at "s"
      refine w_lc2L ?_
      walk_at "s"
      refine ⟨⟨_, SqL.of k3⟩, ?_⟩
      refine lc2_rel (n := n) (fun r y H' => RowAt r y H') (rowsN n i) (fun r x => RowAt r x H3 ∧ r ∈ rowsN n i) moreP (fun r m => r ++ [(m : Int)]) (SqL.of k3) (paired_mem pr)
        (lt_size (Nat.le_trans (rowsN_len (k := i + 1) hn (by omega)) (by decide))) (fun _ => rfl) (fun _ _ => rfl) (fun D2 n2 r y Ha Hb hl hr far => ?_) (fun r x hx H4 e4 R' hR => ?_) (fun r x m hx hm H4 e4 Q' hQ => ?_) (fun r x m hx hm _ H4 e4 Q' hQ => ?_) (fun D2 H4 L => ?_)
      · obtain ⟨t, rfl, ht⟩ := hr
        obtain ⟨acc, hl⟩ := hl
        refine ⟨t, rfl, far t _ (fun z => ?_) ht⟩
        subst z
        rw [hl] at ht
        cases ht
      · show tCons (tVar 0) tNil _ H4 _
        walk_at "s"
        refine ⟨by omega, by omega, ?_⟩
        rw [Int.toNat_natCast]
        exact hR H4 (Same.refl _)
      · obtain ⟨⟨t, rfl, ht⟩, hmem⟩ := hx
        walk_at "s"
        refine ⟨show 0 ≤ sizeLine by decide +kernel, fun e ne => ?_⟩
        have s5 : Same H4 _ := Same.newT (o := .tup []) ne
        refine w_eqT (ns := r) (ms := []) (.inl (.inl (s5 _ _ (e4 _ _ ht)))) (.inl (.inl upd_same)) ?_
        generalize upd H4 e (.tup []) = H5 at s5
        walk_at "s"
        refine w_iteD (fun h0 => ?_) (fun h0 => ?_)
        · have hQ := hQ H5 s5
          rw [show moreP r m = true by unfold moreP; rw [decide_eq_true h0]; rfl] at hQ
          exact hQ
        · walk_at "s"
          refine w_ixT (.inl (.inl (s5 _ _ (e4 _ _ ht)))) (at_last h0) ?_
          walk_at "s"
          have hQ := hQ H5 s5
          rw [show moreP r m = decide (r.getLast h0 ≤ 0 + (m : Int)) by
            unfold moreP lastI
            rw [decide_eq_false h0, Bool.false_or, List.getLastD_eq_getLast?, List.getLast?_eq_some_getLast h0, Int.zero_add]
            rfl] at hQ
          exact hQ
      · obtain ⟨⟨t, rfl, ht⟩, hmem⟩ := hx
        have hl := rowsN_mem hmem
        walk_at "s"
        refine ⟨show 1 ≤ sizeLine by decide +kernel, fun e ne => ?_⟩
        have s5 : Same H4 _ := Same.newT (o := .tup [.int (0 + (m : Int))]) ne
        have k5 : upd H4 e (.tup [.int (0 + (m : Int))]) e = some (.tup [.int (0 + (m : Int))]) := upd_same
        generalize upd H4 e (.tup [.int (0 + (m : Int))]) = H5 at s5 k5
        refine .inr (.inl ⟨t, e, r.map V.int, [.int (0 + (m : Int))], rfl, rfl, .inl (.inl (s5 _ _ (e4 _ _ ht))), .inl (.inl k5), Nat.le_of_lt (lt_size (by rw [List.length_map]; show r.length + 1 ≤ 1000000; omega)), ?_⟩)
        refine ⟨fun z => ?_, fun _ z => (by cases z), fun _ _ q nq => ?_⟩
        · have hr0 : r = [] := List.map_eq_nil_iff.mp z
          subst hr0
          refine hQ _ _ s5 ⟨e, rfl, ?_⟩
          rw [k5, Int.zero_add]
          rfl
        · refine hQ _ _ (Same.trans s5 (Same.newT nq)) ⟨q, rfl, ?_⟩
          rw [upd_same, Int.zero_add, List.map_append]
          rfl
      · obtain ⟨nw, sm, zs, e, pr2⟩ := L
        exact ⟨_, _, _, D2, zs, rfl, none_same s3 nw, Same.trans s3 sm, e, pr2⟩
    · rintro σ H3 ⟨v3, v4, v5, D, ys, rfl, n3, s3, k3, pr⟩
      walk_at "s"
      exact q D ys H3 n3 s3 k3 pr
/-- a view that stands: the mode and the row -/
def ViewAt (z : Int × List Int) (y : V) (H : Hp) : Prop := ∃ v t, y = .ref v ∧ H v = some (.tup [.int z.1, .ref t]) ∧ H t = some (.tup (z.2.map V.int))
def viewsN (n k : Nat) : List (Int × List Int) := (List.range n).flatMap fun (m : Nat) => (rowsN n k).map fun r => ((m : Int), r)
theorem viewsN_len {n k : Nat} (hn : n ≤ 4) (hk : k ≤ 4) : (viewsN n k).length ≤ 100000 := by
  have h : ∀ j, ((List.range j).flatMap fun (m : Nat) => (rowsN n k).map fun r => ((m : Int), r)).length = j * (rowsN n k).length := by
    intro j
    induction j with
    | zero => simp
    | succ j ih =>
      rw [List.range_succ, List.flatMap_append, List.length_append, ih, Nat.succ_mul]
      simp
  have := rowsN_len hn hk
  unfold viewsN
  rw [h n]
  exact Nat.le_trans (Nat.mul_le_mul hn this) (by decide)
theorem lst_ne {H : Hp} {D t : Addr} {acc xs : List V} (a : H D = some (.lst acc)) (b : H t = some (.tup xs)) : t ≠ D := fun z => by
  subst z
  rw [a] at b
  cases b
def spAllViews : Sp := fun vs H Q _ => ∃ n k : Nat, vs = [.int n, .int k] ∧ n ≤ 4 ∧ k ≤ 4 ∧
  ∀ (t : Addr) (ys : List V) H', Same H H' → H' t = some (.tup ys) → Paired (fun z y => ViewAt z y H') (viewsN n k) ys → Q (.ref t) H'
theorem ok_all_views (T : Txt P K mg AA) : Kept P w K mg base CX0 2 "all_views" s_all_views ["modes", "degree"] spAllViews := by
  have O_mode_rows := ok_mode_rows (w := w) (base := base) T
  refine keep0 T.d_all_views sc_all_views (fun vs H Q E h => ?_) (fun f cdv A outer s H vs Q E hr h => ?_)
  · obtain ⟨n, k, rfl, _⟩ := h
    rfl
  · obtain ⟨n, k, rfl, hn, hk, q⟩ := h
    refine ⟨_, (pss_one (ps_ret (pe_callTy cTuple (by rfl) T.n_tuple (by decide +kernel) (pa_cons (pe_lc2 (own := [("mode", 2), ("row", 3)]) (vs1 := [3]) (g := gName 2) (g1 := gName 3) (tt := tYes) (tt1 := tYes) (by rfl) sc_all_views.nd (pi_range1 rfl T.n_range (pa_cons (pv 0) pa_nil)) (blkOk_by (own := [("mode", 2), ("row", 3)]) (N := ["modes", "degree", "mode", "row"]) (sc := defScope s_all_views) (by decide +kernel)) (by decide) (fun _ _ _ _ _ => (pg_name (i := 2) sc_all_views.nd rfl (by first | exact Or.inl rfl | exact Or.inr rfl))) (fun _ _ _ _ _ => pts_nil) (fun _ _ _ _ _ => (show PI _ _ _ (iList K _) from pi_list (pk_call O_mode_rows (hr.mono (by decide)) (pa_cons (pv 0) (pa_cons (pv 1) pa_nil))))) (fun _ _ _ _ _ => (pg_name (i := 3) sc_all_views.nd rfl (by first | exact Or.inl rfl | exact Or.inr rfl))) (fun _ _ _ _ _ => pts_nil) (fun _ _ _ _ _ => (pe_tup (pa_cons (pv 2) (pa_cons (pv 3) pa_nil))))) pa_nil)))), ?_⟩
    walk_at "s"
    refine w_lc2R ?_
    walk_at "s"
    refine ⟨by omega, by omega, ?_⟩
    rw [Int.toNat_natCast]
    refine lc2_relR (K := K) (n := n) (fun z y H' => ViewAt z y H') (rowsN n k) (fun r y H' => RowAt r y H') (fun m r => ((m : Int), r)) (lt_size (Nat.le_trans (viewsN_len hn hk) (by decide))) (fun _ => rfl) (fun _ _ => rfl)
      (fun D2 n2 z y Ha Hb hl hr far => ?_) (fun D2 n2 r y Ha Hb hl hr far => ?_) (fun m hm H3 e3 R' hR => ?_) (fun m r x hm H3 e3 hx Q' hQ => ?_) (fun D2 H4 L => ?_)
    · obtain ⟨v, t, rfl, h1, h2⟩ := hr
      obtain ⟨acc, hl⟩ := hl
      exact ⟨v, t, rfl, far v _ (lst_ne hl h1) h1, far t _ (lst_ne hl h2) h2⟩
    · obtain ⟨t, rfl, h1⟩ := hr
      obtain ⟨acc, hl⟩ := hl
      exact ⟨t, rfl, far t _ (lst_ne hl h1) h1⟩
    · show tCall spModeRows [] E0 _ _ H3 _
      walk_at "s"
      refine ⟨n, k, rfl, hn, hk, fun D ys H4 nD s4 k4 pr => ?_⟩
      exact ⟨D, rfl, ⟨_, SqL.of k4⟩, hR D ys H4 s4 nD (SqL.of k4) pr⟩
    · obtain ⟨t, rfl, ht⟩ := hx
      walk_at "s"
      refine ⟨show 2 ≤ sizeLine by decide +kernel, fun v nv => ?_⟩
      have s5 : Same H3 _ := Same.newT (o := .tup [.int (0 + (m : Int)), .ref t]) nv
      refine hQ _ _ s5 ⟨v, t, rfl, ?_, s5 _ _ ht⟩
      rw [upd_same, Int.zero_add]
    · obtain ⟨nw, sm, ys, e, pr⟩ := L
      walk_at "s"
      refine ⟨D2, ys, rfl, .inl ⟨SqL.of e, fun t nt => ?_⟩⟩
      have s5 : Same H4 _ := Same.newT (o := .tup ys) nt
      refine q t ys _ (Same.trans sm s5) upd_same (Paired.mapP pr fun z y hv => ?_)
      obtain ⟨v, u, rfl, h1, h2⟩ := hv
      exact ⟨v, u, rfl, s5 _ _ h1, s5 _ _ h2⟩
end

end K02
set_option maxRecDepth 100000
set_option maxHeartbeats 2000000
set_option pp.maxSteps 600
namespace K02
open PySem L2 NL
local macro_rules | `(tactic| walk_at "s1") => `(tactic| with_reducible first
  | refine w_seq ?_ | refine w_asg ?_ | refine w_drop ?_ | refine w_ret ?_ | refine w_next ?_ | refine w_ifS ?_
  | refine w_c ?_ | refine w_op ?_ | refine w_un ?_ | refine w_test ?_ | refine w_B ?_ | refine w_bl ?_ | refine w_not ?_ | refine w_and ?_ | refine w_or ?_
  | refine w_andV ?_ | refine w_orV ?_ | refine w_notV ?_ | refine w_blP ?_ | refine w_if ?_ | refine w_nil ?_ | refine w_cons ?_ | refine w_call ?_ | refine w_callS ?_ | refine w_callW ?_
  | refine w_cb ?_ | refine w_tup ?_ | refine w_lst ?_ | refine w_par ?_ | refine w_two ?_ | refine w_addI ?_ | refine w_I0 ?_ | refine w_neg ?_ | refine w_eqI ?_ | refine w_neI ?_
  | refine w_absI ?_ | refine w_intI ?_ | refine w_sub ?_ | refine w_bm0 ?_ | refine w_bm ?_ | refine w_iteT ?_ | refine w_iteF ?_ | refine w_iteNF ?_ | refine w_iteNT ?_ | refine w_lcT ?_ | refine w_lcL ?_
  | refine w_ref ?_ | refine w_sl ?_ | refine w_npart ?_ | refine w_part ?_ | refine w_iv ?_ | refine w_rev ?_ | refine w_forL ?_ | refine w_forT ?_ | refine w_forR1 ?_ | refine w_one ?_ | refine w_g ?_
  | refine w_asgT ?_ | refine w_gcons ?_ | refine w_gnil ?_ | refine w_lcR1 ?_
  | refine w_var (by with_unfolding_all rfl) ?_)
local macro_rules | `(tactic| walk_at "s") => `(tactic| repeat (walk_at "s1"))

/-! ### the law's own rows -/
theorem range_from (lo : Nat) : ∀ n : Nat, (List.range n).filter (fun m => decide (lo ≤ m)) = (List.range (n - lo)).map (lo + ·)
  | 0 => by simp
  | n + 1 => by
    rw [List.range_succ, List.filter_append, range_from lo n]
    by_cases h : lo ≤ n
    · rw [show n + 1 - lo = (n - lo) + 1 by omega, List.range_succ, List.map_append]
      simp [h]
    · rw [show n + 1 - lo = n - lo by omega]
      simp [h]
theorem rowsN_last {n : Nat} : ∀ {k : Nat} {r : List Int}, r ∈ rowsN n k → ∃ z : Nat, lastI r = z ∧ z ≤ n
  | 0, r, h => by
    rw [List.mem_singleton.mp h]
    exact ⟨0, rfl, Nat.zero_le _⟩
  | k + 1, r, h => by
    obtain ⟨q, hq, h2⟩ := List.mem_flatMap.mp h
    obtain ⟨m, hm, rfl⟩ := List.mem_map.mp h2
    have hm2 := List.mem_range.mp (List.mem_filter.mp hm).1
    refine ⟨m, ?_, by omega⟩
    unfold lastI
    simp
def lowOf (r : List Int) : Int := if r = [] then 0 else lastI r
theorem more_rng {n : Nat} {r : List Int} {z : Nat} (hz : lowOf r = z) : ((List.range n).filter (moreP r)) = (List.range (n - z)).map (z + ·) := by
  rw [← range_from]
  refine List.filter_congr fun m _ => ?_
  unfold moreP
  unfold lowOf at hz
  by_cases h : r = []
  · rw [if_pos h] at hz
    rw [decide_eq_true h, Bool.true_or]
    symm
    rw [decide_eq_true_eq]
    omega
  · rw [if_neg h] at hz
    rw [decide_eq_false h, Bool.false_or, hz]
    exact decide_eq_decide.mpr (by omega)
theorem rngV_more {n : Nat} {r : List Int} {z : Nat} (hz : lowOf r = z) : rngV (z : Int) (n - z) = ((List.range n).filter (moreP r)).map fun m => V.int ((m : Nat) : Int) := by
  rw [more_rng hz, List.map_map]
  unfold rngV
  refine List.map_congr_left fun i _ => ?_
  show V.int ((z : Int) + (i : Int)) = V.int (((z + i : Nat)) : Int)
  rw [Int.natCast_add]
theorem paired_map {α β γ : Type} {F : α → γ → Prop} {G : β → γ → Prop} (f : β → α) (h : ∀ b c, F (f b) c → G b c) : ∀ {l : List β} {ys : List γ}, Paired F (l.map f) ys → Paired G l ys
  | [], _, .nil => .nil
  | b :: l, _, .cons p t => .cons (h b _ p) (paired_map f h t)
theorem paired_map' {α β γ : Type} {G : α → γ → Prop} (f : β → α) : ∀ {l : List β} {ys : List γ}, Paired (fun b c => G (f b) c) l ys → Paired G (l.map f) ys
  | [], _, .nil => .nil
  | b :: l, _, .cons p t => .cons p (paired_map' f t)
theorem paired_app {α γ : Type} {F : α → γ → Prop} : ∀ {l1 l2 : List α} {m1 m2 : List γ}, Paired F l1 m1 → Paired F l2 m2 → Paired F (l1 ++ l2) (m1 ++ m2)
  | _, _, _, _, .nil, q => q
  | _, _, _, _, .cons h t, q => .cons h (paired_app t q)
theorem paired_get2 {α γ : Type} {F : α → γ → Prop} : ∀ {l1 : List α} {l2 : List γ} {i : Nat} {y : γ}, Paired F l1 l2 → l2[i]? = some y → ∃ x, l1[i]? = some x ∧ F x y
  | _, _, 0, x, .cons h t, e => by
    cases (Option.some.inj e)
    exact ⟨_, rfl, h⟩
  | _, _, i + 1, x, .cons h t, e => paired_get2 (i := i) t e
theorem w_neT {K : PySem.W.Frag} {H : Hp} {Q : VK} {x y : Addr} {ns ms : List Int} (hx : SqT K H x (ns.map V.int)) (hy : SqT K H y (ms.map V.int)) (h : Q (.bl (!decide (ns = ms))) H) : aNe K (.ref x) (.ref y) H Q :=
  .inr ⟨.tuple (dInts ns), .tuple (dInts ms), .tup hx (dp_ints ns), .tup hy (dp_ints ms), shp_tup ns, shp_tup ms, by
    rw [show PyData.eqv (.tuple (dInts ns)) (.tuple (dInts ms)) = PyData.eqvAll (dInts ns) (dInts ms) from rfl, eqv_ints]
    exact h⟩
section
variable {P : Program} {w : World} {K : PySem.W.Frag} {mg : Str → Option Value} {base : Heap} {AA : Ad}
theorem w_lcR2 {σ : L2.St} {H : Hp} {Q : VK} {te : TE} {tt : TT} {vs : List Nat} {j : Nat} {tr : TA} (h : tr σ H fun xs H1 => ∃ i k : Int, xs = [.int i, .int k] ∧ (-(2 ^ 62) ≤ i ∧ i < 2 ^ 62 ∧ -(2 ^ 62) ≤ k ∧ k < 2 ^ 62) ∧ LcGo (Itr i (k - i).toNat) j tt te vs σ H1 Q) :
    tLc (iRng2 tr) (gName j) tt te vs σ H Q := h
theorem RowAt.same {r : List Int} {y : V} {H H' : Hp} (h : RowAt r y H) (e : Same H H') : RowAt r y H' := by
  obtain ⟨t, rfl, h⟩ := h
  exact ⟨t, rfl, e _ _ h⟩
theorem ok__law_rows (T : Txt P K mg AA) : Kept P w K mg base CX0 1 "_law_rows" s__law_rows ["_law_kinds", "_law_many"] spModeRows := by
  refine keep0 T.d__law_rows sc__law_rows (fun vs H Q E h => ?_) (fun f cdv A outer s H vs Q E hr h => ?_)
  · obtain ⟨n, k, rfl, _⟩ := h
    rfl
  · obtain ⟨n, k, rfl, hn, hk, q⟩ := h
    refine ⟨_, (pss_cons (ps_asg (pe_lst (pa_cons (pe_tup pa_nil) pa_nil)) (pg_name (i := 2) sc__law_rows.nd rfl (by first | exact Or.inl rfl | exact Or.inr rfl)))
      (pss_cons (ps_for PassesOwn.never rfl (pi_range1 rfl T.n_range (pa_cons (pv 1) pa_nil)) (pg_name (i := 3) sc__law_rows.nd rfl (by first | exact Or.inl rfl | exact Or.inr rfl))
        (pss_cons (ps_asg (pe_lst pa_nil) (pg_name (i := 4) sc__law_rows.nd rfl (by first | exact Or.inl rfl | exact Or.inr rfl)))
      (pss_cons (ps_for PassesOwn.never rfl (pi_list (pv 2)) (pg_name (i := 5) sc__law_rows.nd rfl (by first | exact Or.inl rfl | exact Or.inr rfl))
        (pss_one (ps_asg (pe_op oAdd (pv 4) (pe_lc (own := [("_law_mode", 6)]) (g := gName 6) (tt := tYes) (by rfl) sc__law_rows.nd (pi_range2 rfl T.n_range (pa_cons (pe_ifExp (pt_cmpR (oNe (ru64 hr)) (pv 5) (pe_tup pa_nil) (nomark _)) (pe_ix ix_seq (pv 5) (pe_un un_neg pe_int) (fun _ _ => rfl)) pe_int) (pa_cons (pv 0) pa_nil))) (blkOk_by (own := [("_law_mode", 6)]) (N := ["_law_kinds", "_law_many", "_law_found", "_law_turn", "_law_longer", "_law_row", "_law_mode"]) (sc := defScope s__law_rows) (by decide +kernel)) (fun _ _ _ _ _ => (pg_name (i := 6) sc__law_rows.nd rfl (by first | exact Or.inl rfl | exact Or.inr rfl))) (fun _ _ _ _ _ => pts_nil) (fun _ _ _ _ _ => (pe_op (show OpR _ _ (aAdd K) from oAdd) (pv 5) (pe_tup (pa_cons (pv 6) pa_nil)))))) (pg_name (i := 4) sc__law_rows.nd rfl (by first | exact Or.inl rfl | exact Or.inr rfl)))))
      (pss_one (ps_asg (pv 4) (pg_name (i := 2) sc__law_rows.nd rfl (by first | exact Or.inl rfl | exact Or.inr rfl)))))))
      (pss_one (ps_ret (pv 2))))), ?_⟩
    walk_at "s"
    refine ⟨show 0 ≤ sizeLine by decide +kernel, fun p np => ?_⟩
    have s1 : Same H _ := Same.newT (o := .tup []) np
    have k1 : upd H p (.tup []) p = some (.tup []) := upd_same
    generalize upd H p (.tup []) = H1 at s1 k1
    walk_at "s"
    refine ⟨show 1 ≤ sizeLine by decide +kernel, fun D0 nD => ?_⟩
    have s2 : Same H1 _ := Same.newT (o := .lst [.ref p]) nD
    have k2 : upd H1 D0 (.lst [.ref p]) D0 = some (.lst [.ref p]) := upd_same
    generalize upd H1 D0 (.lst [.ref p]) = H2 at s2 k2
    have s12 := Same.trans s1 s2
    walk_at "s"
    refine ⟨by omega, by omega, ?_⟩
    rw [Int.toNat_natCast]
    refine fgR (fun i σ H' => ∃ (v3 v4 v5 v6 : Option V) (D : Addr) (ys : List V), σ = [some (.int n), some (.int k), some (.ref D), v3, v4, v5, v6] ∧ H D = none ∧ Same H H' ∧ H' D = some (.lst ys) ∧ Paired (fun r y => RowAt r y H') (rowsN n i) ys)
      ⟨_, _, _, _, D0, [.ref p], rfl, none_same s1 nD, s12, k2, .cons ⟨p, rfl, s2 _ _ k1⟩ .nil⟩ ?_ ?_
    · rintro i σ H3 hi ⟨v3, v4, v5, v6, D, ys, rfl, n3, s3, k3, pr⟩
      walk_at "s"
      refine ⟨show 0 ≤ sizeLine by decide +kernel, fun L0 nL => ?_⟩
      have s4 : Same H3 _ := Same.newT (o := .lst []) nL
      have k4 : upd H3 L0 (.lst []) L0 = some (.lst []) := upd_same
      generalize upd H3 L0 (.lst []) = H4 at s4 k4
      walk_at "s"
      refine ⟨⟨_, SqL.of (s4 _ _ k3)⟩, ?_⟩
      have hlen := Paired.length pr
      refine fgL (xs := ys) (fun q σ H' => ∃ (u3 u5 u6 : Option V) (L : Addr) (zs : List V), σ = [some (.int n), some (.int k), some (.ref D), u3, some (.ref L), u5, u6] ∧ H L = none ∧ Same H3 H' ∧ H' L = some (.lst zs) ∧
          Paired (fun r y => RowAt r y H') (stepR n ((rowsN n i).take q)) zs) ⟨_, _, _, L0, [], rfl, none_same s3 nL, s4, k4, .nil⟩ ?_ ?_ ?_
      · rintro q σ H' _ ⟨u3, u5, u6, L, zs, rfl, nL, s5, k5, pr5⟩
        exact SqL.of (s5 _ _ k3)
      · rintro q x σ H5 hx ⟨u3, u5, u6, L, zs, rfl, nL, s5, k5, pr5⟩
        obtain ⟨r, hr, t, rfl, ht⟩ := paired_get2 pr hx
        have hmem := List.mem_of_getElem? hr
        have hrl := rowsN_mem hmem
        obtain ⟨z, hz, hzn⟩ : ∃ z : Nat, lowOf r = z ∧ z ≤ n := by
          unfold lowOf
          split
          · exact ⟨0, rfl, Nat.zero_le _⟩
          · exact rowsN_last hmem
        refine w_g ?_
        generalize hI : tIf _ _ _ = TI
        have cond : ∀ Q' : VK, (∀ H', Same H5 H' → Q' (.int z) H') → TI [some (.int n), some (.int k), some (.ref D), u3, some (.ref L), some (.ref t), u6] H5 Q' := by
          intro Q' hQ
          subst hI
          walk_at "s"
          refine ⟨show 0 ≤ sizeLine by decide +kernel, fun e ne => ?_⟩
          have s6 : Same H5 _ := Same.newT (o := .tup []) ne
          refine w_neT (ns := r) (ms := []) (.inl (.inl (s6 _ _ (s5 _ _ ht)))) (.inl (.inl upd_same)) ?_
          generalize upd H5 e (.tup []) = H6 at s6
          walk_at "s"
          refine w_iteN (fun h0 => ?_) (fun h0 => ?_)
          · walk_at "s"
            refine w_ixT (.inl (.inl (s6 _ _ (s5 _ _ ht)))) (at_last h0) ?_
            have hQ := hQ H6 s6
            rw [← hz, lowOf, if_neg h0, lastI, List.getLastD_eq_getLast?, List.getLast?_eq_some_getLast h0] at hQ
            exact hQ
          · walk_at "s"
            have hQ := hQ H6 s6
            rw [← hz, lowOf, if_pos h0] at hQ
            exact hQ
        clear hI
        walk_at "s"
        refine w_lcR2 ?_
        walk_at "s"
        refine cond _ fun H6 s6 => ?_
        walk_at "s"
        refine ⟨z, n, rfl, ⟨by omega, by omega, by omega, by omega⟩, ?_⟩
        rw [show ((n : Int) - z).toNat = n - z by omega]
        have mo : ∀ D2, MonoD (fun (v : Int) y H' => RowAt (r ++ [v]) y H') D2 := fun D2 v y Ha Hb hl hr far => by
          obtain ⟨t, rfl, h1⟩ := hr
          obtain ⟨acc, hl⟩ := hl
          exact ⟨t, rfl, far t _ (lst_ne hl h1) h1⟩
        refine lc_rng_inv (fun D2 j H' => LcG (fun (v : Int) y H' => RowAt (r ++ [v]) y H') H6 D2 ((List.range j).map fun (m : Nat) => (z : Int) + (m : Int)) H') (fun D2 nD => ⟨nD, Same.newT nD, [], upd_same, .nil⟩) (fun _ => rfl) (fun D2 j H' nD hj L6 => ?_) (fun D2 H7 nD L7 => ?_)
        · have hT := L6.sm _ _ (s6 _ _ (s5 _ _ ht))
          have sn : ((List.range (j + 1)).map fun (m : Nat) => (z : Int) + (m : Int)) = ((List.range j).map fun (m : Nat) => (z : Int) + (m : Int)) ++ [(z : Int) + (j : Int)] := by
            rw [List.range_succ, List.map_append]
            rfl
          have fin : ∀ y H8, Same H' H8 → RowAt (r ++ [(z : Int) + (j : Int)]) y H8 → ∃ acc, H8 D2 = some (.lst acc) ∧ acc.length < sizeLine ∧
              LcG (fun (v : Int) y H' => RowAt (r ++ [v]) y H') H6 D2 ((List.range (j + 1)).map fun (m : Nat) => (z : Int) + (m : Int)) (upd H8 D2 (.lst (acc ++ [y]))) := by
            intro y H8 s8 r8
            rw [sn]
            exact (L6.keep (mo D2) s8).push (mo D2) r8 (lt_size (by rw [List.length_map, List.length_range]; omega))
          walk_at "s"
          refine ⟨show 1 ≤ sizeLine by decide +kernel, fun e ne => ?_⟩
          have s8 : Same H' _ := Same.newT (o := .tup [.int ((z : Int) + (j : Int))]) ne
          have k8 : upd H' e (.tup [.int ((z : Int) + (j : Int))]) e = some (.tup [.int ((z : Int) + (j : Int))]) := upd_same
          generalize upd H' e (.tup [.int ((z : Int) + (j : Int))]) = H8 at s8 k8
          refine .inr (.inl ⟨t, e, r.map V.int, [.int ((z : Int) + (j : Int))], rfl, rfl, .inl (.inl (s8 _ _ hT)), .inl (.inl k8), Nat.le_of_lt (lt_size (by rw [List.length_map]; show r.length + 1 ≤ 1000000; omega)), ?_⟩)
          refine ⟨fun zz => ?_, fun _ zz => (by cases zz), fun _ _ u nu => ?_⟩
          · have hr0 : r = [] := List.map_eq_nil_iff.mp zz
            subst hr0
            exact fin _ _ s8 ⟨e, rfl, k8⟩
          · refine fin _ _ (Same.trans s8 (Same.newT nu)) ⟨u, rfl, ?_⟩
            rw [upd_same, List.map_append]
            rfl
        · obtain ⟨nw7, sm7, ws, e7, pr7⟩ := L7
          have s67 := Same.trans s6 sm7
          have hl1 := Paired.length pr5
          have hl2 := Paired.length pr7
          rw [List.length_map, List.length_range] at hl2
          have hl3 : (stepR n ((rowsN n i).take q)).length ≤ 4 * 256 := Nat.le_trans (stepR_len n _) (Nat.mul_le_mul hn (Nat.le_trans (List.length_take_le' _ _) (rowsN_len hn (by omega))))
          walk_at "s"
          refine .inr (.inr ⟨L, D2, zs, ws, rfl, rfl, s67 _ _ k5, e7, Nat.le_of_lt (lt_size (by omega)), fun N9 n9 => ?_⟩)
          have s9 : Same H7 _ := Same.newT (o := .lst (zs ++ ws)) n9
          have s59 := Same.trans s67 s9
          walk_at "s"
          refine ⟨_, _, _, N9, zs ++ ws, rfl, none_same (Same.trans s3 (Same.trans s5 s67)) n9, Same.trans s5 s59, upd_same, ?_⟩
          rw [take_snoc hr]
          have e1 : stepR n ((rowsN n i).take q ++ [r]) = stepR n ((rowsN n i).take q) ++ ((List.range (n - z)).map fun (m : Nat) => r ++ [(z : Int) + (m : Int)]) := by
            unfold stepR
            rw [List.flatMap_append, List.flatMap_cons, List.flatMap_nil, List.append_nil, more_rng hz, List.map_map]
            congr 1
          rw [e1]
          refine paired_app (Paired.mapP pr5 fun a b h => RowAt.same h s59) ?_
          refine paired_map' _ (paired_map (fun (m : Nat) => (z : Int) + (m : Int)) (fun b c h => ?_) pr7)
          exact RowAt.same h s9
      · rintro σ H5 ⟨u3, u5, u6, L, zs, rfl, nL, s5, k5, pr5⟩
        rw [← hlen, List.take_length] at pr5
        walk_at "s"
        exact ⟨_, _, _, _, L, zs, rfl, nL, Same.trans s3 s5, k5, pr5⟩
    · rintro σ H3 ⟨v3, v4, v5, v6, D, ys, rfl, n3, s3, k3, pr⟩
      walk_at "s"
      exact q D ys H3 n3 s3 k3 pr
end

end K02
set_option maxRecDepth 100000
set_option maxHeartbeats 2000000
set_option pp.maxSteps 600
namespace K02
open PySem L2 NL
local macro_rules | `(tactic| walk_at "s1") => `(tactic| with_reducible first
  | refine w_seq ?_ | refine w_asg ?_ | refine w_drop ?_ | refine w_ret ?_ | refine w_next ?_ | refine w_ifS ?_
  | refine w_c ?_ | refine w_op ?_ | refine w_un ?_ | refine w_test ?_ | refine w_B ?_ | refine w_bl ?_ | refine w_not ?_ | refine w_and ?_ | refine w_or ?_
  | refine w_andV ?_ | refine w_orV ?_ | refine w_notV ?_ | refine w_blP ?_ | refine w_if ?_ | refine w_nil ?_ | refine w_cons ?_ | refine w_call ?_ | refine w_callS ?_ | refine w_callW ?_
  | refine w_cb ?_ | refine w_tup ?_ | refine w_lst ?_ | refine w_par ?_ | refine w_two ?_ | refine w_addI ?_ | refine w_I0 ?_ | refine w_neg ?_ | refine w_eqI ?_ | refine w_neI ?_
  | refine w_absI ?_ | refine w_intI ?_ | refine w_sub ?_ | refine w_bm0 ?_ | refine w_bm ?_ | refine w_iteT ?_ | refine w_iteF ?_ | refine w_iteNF ?_ | refine w_iteNT ?_ | refine w_lcT ?_ | refine w_lcL ?_
  | refine w_ref ?_ | refine w_sl ?_ | refine w_npart ?_ | refine w_part ?_ | refine w_iv ?_ | refine w_rev ?_ | refine w_forL ?_ | refine w_forT ?_ | refine w_forR1 ?_ | refine w_one ?_ | refine w_g ?_
  | refine w_asgT ?_ | refine w_gcons ?_ | refine w_gnil ?_ | refine w_lcR1 ?_
  | refine w_var (by with_unfolding_all rfl) ?_)
local macro_rules | `(tactic| walk_at "s") => `(tactic| repeat (walk_at "s1"))

/-! ### the deal -/
section
variable {P : Program} {w : World} {K : PySem.W.Frag} {mg : Str → Option Value} {base : Heap} {AA : Ad}
def absV : V → V
  | .int n => .int (n.natAbs : Nat)
  | x => x
def bigV : V → Bool
  | .int n => decide (10 ^ 18 ≤ n)
  | _ => false
theorem filter_big (ns : List Int) : (ns.map V.int).filter bigV = (ns.filter fun n => decide (10 ^ 18 ≤ n)).map V.int := by
  rw [List.filter_map]
  rfl
theorem ok__law_draw (T : Txt P K mg AA) : Kept P w K mg base CX0 1 "_law_draw" s__law_draw ["_law_script", "_law_salt"] (spDraw K) := by
  refine keep0 T.d__law_draw sc__law_draw (fun vs H Q E h => ?_) (fun f cdv A outer s H vs Q E hr h => ?_)
  · obtain ⟨p, ns, z, rfl, _⟩ := h
    rfl
  · obtain ⟨p, ns, z, rfl, S, z0, z1, q⟩ := h
    refine ⟨_, (pss_cons (ps_setLc (i := 2) (own := [("_law_cell", 3)]) (g := gName 3) (tt := tYes) (by rfl) sc__law_draw.nd rfl rfl (sw_true rfl rfl rfl (by decide +kernel)) (pi_list (pe_slice sl_any (pv 0) po_none (po_some pe_int))) (blkOk_by (own := [("_law_cell", 3)]) (N := ["_law_script", "_law_salt", "_law_cells", "_law_cell", "_law_blend"]) (sc := defScope s__law_draw) (by decide +kernel)) (fun _ _ _ _ _ => (pg_name (i := 3) sc__law_draw.nd rfl (by first | exact Or.inl rfl | exact Or.inr rfl))) (fun _ _ _ _ _ => pts_nil) (fun _ _ _ _ _ => (pe_callB cAbs (by rfl) T.n_abs (by decide +kernel) (pa_cons (pe_callTy cInt (by rfl) T.n_int (by decide +kernel) (pa_cons (pv 3) pa_nil)) pa_nil))))
      (pss_cons (ps_asg (pe_op oAdd pe_int (pe_op oMul pe_int (pv 1))) (pg_name (i := 4) sc__law_draw.nd rfl (by first | exact Or.inl rfl | exact Or.inr rfl)))
      (pss_cons (ps_for PassesOwn.never rfl (pi_list (pv 2)) (pg_name (i := 3) sc__law_draw.nd rfl (by first | exact Or.inl rfl | exact Or.inr rfl))
        (pss_one (ps_asg (pe_op oMod (pe_callTy cInt (by rfl) T.n_int (by decide +kernel) (pa_cons (pe_op oAdd (pe_op oAdd (pe_op oMul (pv 4) pe_int) (pe_op oMod (pv 3) pe_int)) pe_int) pa_nil)) pe_int) (pg_name (i := 4) sc__law_draw.nd rfl (by first | exact Or.inl rfl | exact Or.inr rfl)))))
      (pss_one (ps_ret (pe_lst (pa_cons (pe_revL (pe_lc (own := [("_law_cell", 3)]) (g := gName 3) (by rfl) sc__law_draw.nd (pi_list (pv 2)) (blkOk_by (own := [("_law_cell", 3)]) (N := ["_law_script", "_law_salt", "_law_cells", "_law_cell", "_law_blend"]) (sc := defScope s__law_draw) (by decide +kernel)) (fun _ _ _ _ _ => (pg_name (i := 3) sc__law_draw.nd rfl (by first | exact Or.inl rfl | exact Or.inr rfl))) (fun _ _ _ _ _ => (pts_one (pt_cmpR op_ge (pv 3) (pe_op oPow pe_int pe_int) (nomark _)))) (fun _ _ _ _ _ => (pv 3)))) (pa_cons (pv 4) pa_nil)))))))), ?_⟩
    walk_at "s"
    refine w_slL S (fun p1 n1 => ?_)
    walk_at "s"
    have e1 : upd H p1 (.lst (cutV (ns.map V.int) none (some 48))) p1 = some (.lst ((ns.take 48).map V.int)) := by
      rw [upd_same, show cutV (ns.map V.int) none (some 48) = _ from cut_to _ 48, List.map_take]
    have hz : (ns.take 48).length ≤ 48 := List.length_take_le _ _
    have S1 := SqL.of (K := K) e1
    refine ⟨⟨_, S1⟩, ?_⟩
    refine lc_lst_rel (fun x y _ => y = absV x) (fun _ => true) S1 (by rw [List.length_map]; exact Nat.lt_of_le_of_lt hz (by decide +kernel)) (fun _ => rfl) (fun _ _ _ _ _ _ r _ => r) (fun x _ => turn_yes) (fun x hx _ => ?_) (fun D H' L => ?_)
    · intro H1 s1 Q1 q1
      obtain ⟨n, _, rfl⟩ := List.mem_map.mp hx
      walk_at "s"
      rw [abs_nat]
      exact q1 _ _ (Same.refl _) rfl
    rw [filter_true] at L
    obtain ⟨nw, sm, ys, e, pr⟩ := L
    have e2 := paired_eq pr
    subst e2
    rw [List.map_map] at e
    have e : H' D = some (.lst (((ns.take 48).map fun n => (n.natAbs : Int)).map V.int)) := by
      rw [List.map_map]
      exact e
    have hl : ((ns.take 48).map fun n => (n.natAbs : Int)).length ≤ 48 := by
      rw [List.length_map]
      exact hz
    have hp : ∀ n ∈ (ns.take 48).map fun n => (n.natAbs : Int), 0 ≤ n := fun n hn => by
      obtain ⟨m, _, rfl⟩ := List.mem_map.mp hn
      omega
    generalize (ns.take 48).map (fun n => (n.natAbs : Int)) = cs at e hl hp
    have sm1 : Same H H' := (Same.newT n1).trans sm
    clear e1 S1 sm nw hz pr
    walk_at "s"
    refine w_mul (wide_mul (a := 64) (b := 64) (by decide) (by omega) (by decide) (by decide) (by decide)) ?_
    walk_at "s"
    refine ⟨⟨_, SqL.of e⟩, ?_⟩
    refine fgL (xs := cs.map V.int) (fun i σ H1 => H1 = H' ∧ ∃ (v : Option V) (b : Int), σ = [some (.ref p), some (.int z), some (.ref D), v, some (.int b)] ∧ 0 ≤ b ∧ b < 2147483647) ⟨rfl, _, _, rfl, by omega, by omega⟩ ?_ ?_ ?_
    · rintro i σ H1 _ ⟨rfl, _⟩
      exact SqL.of e
    · rintro i x σ H1 hx ⟨rfl, v, b, rfl, b0, b1⟩
      obtain ⟨n, hn, rfl⟩ := List.mem_map.mp (List.mem_of_getElem? hx)
      walk_at "s"
      refine w_mul (wide_mul (a := 64) (b := 64) (by omega) (by decide) (by decide) (by decide) (by decide)) ?_
      walk_at "s"
      refine w_mod (by decide) ?_
      walk_at "s"
      refine w_mod (by decide) ?_
      walk_at "s"
      exact ⟨rfl, _, _, rfl, Int.fmod_nonneg_of_pos _ (by decide), Int.fmod_lt_of_pos _ (by decide)⟩
    · rintro σ H1 ⟨rfl, v, b, rfl, b0, b1⟩
      walk_at "s"
      refine ⟨⟨_, SqL.of e⟩, ?_⟩
      refine lc_lst_rel (fun x y _ => y = x) bigV (SqL.of e) (by rw [List.length_map]; exact Nat.lt_of_le_of_lt hl (by decide +kernel)) (fun _ => rfl) (fun _ _ _ _ _ _ r _ => r) (fun x hx => ?_) (fun x hx _ => ?_) (fun D2 H2 L => ?_)
      · intro H1 s1 Q1 q1
        obtain ⟨n, _, rfl⟩ := List.mem_map.mp hx
        walk_at "s"
        refine w_pow ⟨by decide, by decide, by decide⟩ ?_
        walk_at "s"
        exact q1 _ (Same.refl _)
      · intro H1 s1 Q1 q1
        walk_at "s"
        exact q1 _ _ (Same.refl _) rfl
      rw [filter_big] at L
      obtain ⟨nw, sm, ys, e3, pr⟩ := L
      have e2 : ys = _ := (paired_eq (f := fun x => x) pr).trans (List.map_id _)
      subst e2
      refine ⟨D2, _, rfl, SqL.of e3, fun l nl => ?_⟩
      walk_at "s"
      refine ⟨show 2 ≤ sizeLine by decide +kernel, fun a na => ?_⟩
      have ne : l ≠ a := fun z => by
        subst z
        rw [upd_same] at na
        cases na
      have nl' : H l = none := none_same (sm1.trans sm) nl
      have na' : H2 a = none := by
        rw [upd_ne (Ne.symm ne)] at na
        exact na
      refine q a l _ (none_same (sm1.trans sm) na') nl' ⟨ne, (cs.filter fun n => decide (10 ^ 18 ≤ n)).reverse, b, upd_same, ?_, ?_, ?_, b0, b1⟩ ?_
      · rw [upd_ne ne, upd_same, List.map_reverse]
      · intro n hn
        exact hp n (List.mem_filter.mp (List.mem_reverse.mp hn)).1
      · rw [List.length_reverse]
        exact Nat.le_trans (List.length_filter_le _ _) hl
      · exact Same.putT (Same.putT (Same.trans sm1 sm) nl') (none_same (sm1.trans sm) na')
theorem ok__law_any (T : Txt P K mg AA) : Kept P w K mg base CX0 1 "_law_any" s__law_any ["_law_deal", "_law_bound"] spAny := by
  refine keep0 T.d__law_any sc__law_any (fun vs H Q E h => ?_) (fun f cdv A outer s H vs Q E hr h => ?_)
  · obtain ⟨a, l, n, rfl, _⟩ := h
    rfl
  · obtain ⟨a, l, n, rfl, n0, n1, D, q⟩ := h
    have n2 : n.natAbs < 2 ^ 100 := by omega
    refine ⟨_, (pss_cons (ps_while PassesOwn.never (PW.pt (pw_and (pt_cmpR (oNe (ru64 hr)) (pe_ix ix_seq (pv 0) pe_int (fun _ _ => rfl)) (pe_lst pa_nil) (nomark _)) (pw_and1 (pt_cmpR (oEq (ru64 hr)) (pe_ix ix_seq (pe_ix ix_seq (pv 0) pe_int (fun _ _ => rfl)) (pe_un un_neg pe_int) (fun _ _ => rfl)) pe_int (nomark _))))) (pss_one (ps_expr (pe_bm0 PySem.F.plainAttrs_list PySem.F.slot_list_pop PySem.F.type_list_pop mt_pop (pe_ix ix_seq (pv 0) pe_int (fun _ _ => rfl))))))
      (pss_cons (ps_if (pt_cmpR (oNe (ru64 hr)) (pe_ix ix_seq (pv 0) pe_int (fun _ _ => rfl)) (pe_lst pa_nil) (nomark _))
        (pss_cons (ps_asg (pe_callTy cInt (by rfl) T.n_int (by decide +kernel) (pa_cons (pe_bm0 PySem.F.plainAttrs_list PySem.F.slot_list_pop PySem.F.type_list_pop mt_pop (pe_ix ix_seq (pv 0) pe_int (fun _ _ => rfl))) pa_nil)) (pg_name (i := 2) sc__law_any.nd rfl (by first | exact Or.inl rfl | exact Or.inr rfl)))
      (pss_cons (ps_expr (pe_bm PySem.F.plainAttrs_list PySem.F.slot_list_append PySem.F.type_list_append mt_append (pe_ix ix_seq (pv 0) pe_int (fun _ _ => rfl)) (pa_cons (pe_op oDiv (pv 2) (pv 1)) pa_nil)))
      (pss_one (ps_ret (pe_op oMod (pv 2) (pv 1)))))) pss_nil)
      (pss_cons (ps_asg (pe_op oMod (pe_callTy cInt (by rfl) T.n_int (by decide +kernel) (pa_cons (pe_op oAdd (pe_op oMul (pe_ix ix_seq (pv 0) pe_int (fun _ _ => rfl)) pe_int) pe_int) pa_nil)) pe_int) (pg_sub (pv 0) pe_int set_list))
      (pss_one (ps_ret (pe_op oMod (pe_callTy cInt (by rfl) T.n_int (by decide +kernel) (pa_cons (pe_op oDiv (pe_ix ix_seq (pv 0) pe_int (fun _ _ => rfl)) pe_int) pa_nil)) (pv 1))))))), ?_⟩
    walk_at "s"
    obtain ⟨ne, ns, b, e1, e2, hp, hl, b0, b1⟩ := D
    refine w_while (m := ns.length) (fun m σ H' => Fr a l H H' ∧ ∃ (ns' : List Int) (v : Option V), σ = [some (.ref a), some (.int n), v] ∧ m = ns'.length ∧ H' a = some (.lst [.ref l, .int b]) ∧
      H' l = some (.lst (ns'.map V.int)) ∧ (∀ n ∈ ns', 0 ≤ n) ∧ ns'.length ≤ 48) ⟨Fr.refl, ns, none, rfl, rfl, e1, e2, hp, hl⟩ ?_
    rintro m σ H' ⟨fr, ns, v, rfl, rfl, e1, e2, hp, hl⟩
    clear hr
    walk_at "s"
    refine w_ixL (SqL.of e1) rfl ?_
    walk_at "s"
    refine ⟨by decide +kernel, fun t1 nt1 => ?_⟩
    have ne1 : a ≠ t1 := ne_of_none e1 nt1
    have ne2 : l ≠ t1 := ne_of_none e2 nt1
    have f1 : upd H' t1 (.lst []) a = some (.lst [.ref l, .int b]) := by rw [upd_ne ne1]; exact e1
    have f2 : upd H' t1 (.lst []) l = some (.lst (ns.map V.int)) := by rw [upd_ne ne2]; exact e2
    have fr1 := fr.newT (o := .lst []) nt1
    refine w_neL (ns := ns) (ms := []) (SqL.of f2) (SqL.of upd_same) ?_
    generalize upd H' t1 (.lst []) = H1 at f1 f2 fr1
    clear e1 e2 fr nt1 ne1 ne2
    walk_at "s"
    refine w_iteN (fun h0 => ?_) (fun h0 => ?_)
    · walk_at "s"
      refine w_ixL (SqL.of f1) rfl ?_
      walk_at "s"
      refine w_ixL (SqL.of f2) (at_last h0) ?_
      walk_at "s"
      refine w_iteD (fun h1 => ?_) (fun h1 => ?_)
      · refine w_go ?_
        walk_at "s"
        refine w_ixL (SqL.of f1) rfl ?_
        refine w_pop f2 (get_last h0) ?_
        have hn : ns.length - 1 < ns.length := by
          have := List.length_pos_iff.mpr h0
          omega
        refine ⟨_, hn, fr1.updL, ns.dropLast, v, rfl, List.length_dropLast.symm, ?_, ?_, fun n hn => hp n (mem_drop_last hn), ?_⟩
        · rw [upd_ne (Ne.symm ne)]
          exact f1
        · rw [upd_same, map_drop_last]
        · rw [List.length_dropLast]
          omega
      · walk_at "s"
        refine w_ixL (SqL.of f1) rfl ?_
        walk_at "s"
        refine ⟨by decide +kernel, fun t1 nt1 => ?_⟩
        have ne1 : a ≠ t1 := ne_of_none f1 nt1
        have ne2 : l ≠ t1 := ne_of_none f2 nt1
        have g1 : upd H1 t1 (.lst []) a = some (.lst [.ref l, .int b]) := by rw [upd_ne ne1]; exact f1
        have g2 : upd H1 t1 (.lst []) l = some (.lst (ns.map V.int)) := by rw [upd_ne ne2]; exact f2
        have fr2 := fr1.newT (o := .lst []) nt1
        refine w_neL (ns := ns) (ms := []) (SqL.of g2) (SqL.of upd_same) ?_
        generalize upd H1 t1 (.lst []) = H2 at g1 g2 fr2
        clear f1 f2 fr1 nt1 ne1 ne2
        walk_at "s"
        refine w_iteN (fun _ => ?_) (fun z => absurd z h0)
        walk_at "s"
        refine w_ixL (SqL.of g1) rfl ?_
        refine w_pop g2 (get_last h0) ?_
        walk_at "s"
        have r0 := hp _ (last_mem h0)
        generalize ns.getLast h0 = r at r0 h1
        have k1 : upd H2 l (.lst (ns.map V.int).dropLast) a = some (.lst [.ref l, .int b]) := by rw [upd_ne (Ne.symm ne)]; exact g1
        refine w_ixL (SqL.of k1) rfl ?_
        walk_at "s"
        refine ⟨tyL upd_same, ?_⟩
        walk_at "s"
        refine w_divP n0 n2 (by decide) (by decide) ?_
        walk_at "s"
        refine w_append upd_same (by rw [map_drop_last, List.length_map, List.length_dropLast]; exact Nat.lt_of_le_of_lt (Nat.le_trans (Nat.sub_le _ _) hl) (by decide +kernel)) ?_
        walk_at "s"
        refine w_mod (by omega) ?_
        refine q _ _ (Int.fmod_nonneg_of_pos _ n0) (Int.fmod_lt_of_pos _ n0) ⟨ne, ns.dropLast ++ [r / n], b, ?_, ?_, ?_, ?_, b0, b1⟩ fr2.updL.updL
        · rw [upd_ne (Ne.symm ne), upd_ne (Ne.symm ne)]
          exact g1
        · rw [upd_same, map_drop_last, List.map_append]
          rfl
        · intro x hx
          rcases List.mem_append.mp hx with hx | hx
          · exact hp x (mem_drop_last hx)
          · rw [List.mem_singleton.mp hx]
            exact Int.ediv_nonneg r0 (by omega)
        · have := List.length_pos_iff.mpr h0
          rw [List.length_append, List.length_dropLast]
          show ns.length - 1 + 1 ≤ 48
          omega
    · subst h0
      walk_at "s"
      refine w_ixL (SqL.of f1) rfl ?_
      walk_at "s"
      refine ⟨by decide +kernel, fun t1 nt1 => ?_⟩
      have ne1 : a ≠ t1 := ne_of_none f1 nt1
      have ne2 : l ≠ t1 := ne_of_none f2 nt1
      have g1 : upd H1 t1 (.lst []) a = some (.lst [.ref l, .int b]) := by rw [upd_ne ne1]; exact f1
      have g2 : upd H1 t1 (.lst []) l = some (.lst []) := by rw [upd_ne ne2]; exact f2
      have fr2 := fr1.newT (o := .lst []) nt1
      refine w_neL (ns := []) (ms := []) (SqL.of g2) (SqL.of upd_same) ?_
      generalize upd H1 t1 (.lst []) = H2 at g1 g2 fr2
      clear f1 f2 fr1 nt1 ne1 ne2
      walk_at "s"
      refine w_iteN (fun z => absurd rfl z) (fun _ => ?_)
      walk_at "s"
      refine w_ixL (SqL.of g1) rfl ?_
      refine w_mul (wide_mul (a := 64) (b := 64) (by omega) (by decide) (by decide) (by decide) (by decide)) ?_
      walk_at "s"
      refine w_mod (by decide) ?_
      walk_at "s"
      refine w_setL g1 rfl ?_
      walk_at "s"
      have k1 : upd H2 a (.lst ([V.ref l, V.int b].set 1 (.int ((b * 40693 + 71).fmod 2147483647)))) a = some (.lst [.ref l, .int ((b * 40693 + 71).fmod 2147483647)]) := upd_same
      refine w_ixL (SqL.of k1) rfl ?_
      refine w_divP (b := 10) (by decide) (by decide) (by decide) (by decide) ?_
      walk_at "s"
      refine w_mod (by omega) ?_
      refine q _ _ (Int.fmod_nonneg_of_pos _ n0) (Int.fmod_lt_of_pos _ n0) ⟨ne, [], _, k1, ?_, hp, hl, Int.fmod_nonneg_of_pos _ (by decide), Int.fmod_lt_of_pos _ (by decide)⟩ fr2.updA
      rw [upd_ne ne]
      exact g2
theorem ok__law_of (T : Txt P K mg AA) : Kept P w K mg base CX0 2 "_law_of" s__law_of ["_law_deal", "_law_some"] (spOf K) := by
  have O__law_any := ok__law_any (w := w) (base := base) T
  refine keep0 T.d__law_of sc__law_of (fun vs H Q E h => ?_) (fun f cdv A outer s H vs Q E hr h => ?_)
  · obtain ⟨a, l, p, xs, rfl, _⟩ := h
    rfl
  · obtain ⟨a, l, p, xs, rfl, D, S, e1, e2, h1, h2, q⟩ := h
    refine ⟨_, (pss_one (ps_ret (pe_ix ix_seq (pv 1) (pk_call O__law_any (hr.mono (by decide)) (pa_cons (pv 0) (pa_cons (pe_callB cLen (by rfl) T.n_len PySem.boot_len (pa_cons (pv 1) pa_nil)) pa_nil))) (fun _ _ => rfl)))), ?_⟩
    walk_at "s"
    refine w_lenL S ?_
    walk_at "s"
    refine ⟨a, l, xs.length, rfl, by omega, by omega, D, fun r H' r0 r1 D' fr => ?_⟩
    have hr' : r.toNat < xs.length := by omega
    refine w_ixL (v := xs[r.toNat]) (fr.sqL S e1 e2) ?_ ?_
    · unfold atI ixN
      rw [if_pos r0, if_pos r1]
      show xs[r.toNat]? = _
      exact List.getElem?_eq_getElem hr'
    · exact q _ (List.getElem_mem hr') _ D' fr
end

/-! ### _law_refused: what an error of the class InvalidView bears -/
theorem w_tref {K : PySem.W.Frag} {H : Hp} {Q : VK} {CQ CN : Addr} {tl : XK → Hp → VK → Prop} (h : tl (fun cls d H' => ∃ (C dd : Addr) (v : V), cls = .ref C ∧ d = some dd ∧ Heard K C CQ CN ∧ H' dd = some (.xd [("at", v)]) ∧ Q v H') H fun _ H' => Q .non H') : TRef K CQ CN tl H Q := h
theorem gv__law_refused {X : Cx} {AA : Ad} {q : Str} {g : Addr} {cdg : Value} (T : Txt X.prog X.K X.mg AA) :
    LamX.GivesTo X ["_law_work", "e"] "_law_refused" (defScope s__law_refused) g cdg (defBody s__law_refused) "_law_work" q (TRef X.K AA.InvalidView AA.NetError) := by
  intro f c' s H Q tl act hc h
  refine ⟨_, pss_cons (ps_try_as (i := 1) (tb := fun W => tAct 2 f c' q tl W) (Wout := fun _ _ _ _ => False) rfl rfl sc__law_refused.nd rfl rfl ⟨rfl, by decide, Or.inl T.c_InvalidView⟩ LamX.takes0
    (fun W pn xe tk _ => pss_act act tk)
    (fun a oe cls d pn hz hf => pss_one (ps_ret (pe_ifExp (pt_val (pe_callB (call_isErr hz hf) rfl T.n_isinstance (by decide +kernel) (pa_cons (pv 1) (pa_cons (pe_glob (v := .ref AA.NetError) rfl T.c_NetError rfl) pa_nil)))) (pe_at hz hf (pv 1)) pe_non))))
    (pss_one (ps_ret pe_non)), ?_⟩
  refine ⟨_, ?_, rfl, hc, h⟩
  rintro cls d σ' H' hl ⟨C, dd, v, rfl, rfl, he, hd, qv⟩
  match σ', hl with
  | [x0, x1], _ =>
  refine ⟨true, he.yes, fun _ a na => ?_, fun z => Bool.noConfusion z⟩
  walk_at "s"
  refine ⟨C, .ref AA.NetError, .ref AA.NetError, true, rfl, rfl, he.ec, fun u r => r, he.isn, .inr ⟨dd, _, rfl, hd⟩, ?_⟩
  walk_at "s"
  refine ⟨_, rfl, rfl, C, dd, v, rfl, rfl, he.ec, he.noAt, hd, qv⟩

end K02
set_option maxRecDepth 100000
set_option maxHeartbeats 4000000
set_option pp.maxSteps 300
namespace K02
open PySem L2 NL
local macro_rules | `(tactic| walk_at "s1") => `(tactic| with_reducible first
  | refine w_seq ?_ | refine w_asg ?_ | refine w_drop ?_ | refine w_ret ?_ | refine w_next ?_ | refine w_ifS ?_
  | refine w_c ?_ | refine w_op ?_ | refine w_un ?_ | refine w_test ?_ | refine w_B ?_ | refine w_bl ?_ | refine w_not ?_ | refine w_and ?_ | refine w_or ?_
  | refine w_andV ?_ | refine w_orV ?_ | refine w_notV ?_ | refine w_blP ?_ | refine w_if ?_ | refine w_nil ?_ | refine w_cons ?_ | refine w_call ?_ | refine w_callS ?_ | refine w_callW ?_
  | refine w_cb ?_ | refine w_tup ?_ | refine w_lst ?_ | refine w_par ?_ | refine w_two ?_ | refine w_addI ?_ | refine w_I0 ?_ | refine w_neg ?_ | refine w_eqI ?_ | refine w_neI ?_
  | refine w_absI ?_ | refine w_intI ?_ | refine w_sub ?_ | refine w_bm0 ?_ | refine w_bm ?_ | refine w_iteT ?_ | refine w_iteF ?_ | refine w_iteNF ?_ | refine w_iteNT ?_ | refine w_lcT ?_ | refine w_lcL ?_
  | refine w_ref ?_ | refine w_sl ?_ | refine w_npart ?_ | refine w_part ?_ | refine w_iv ?_ | refine w_rev ?_ | refine w_forL ?_ | refine w_forT ?_ | refine w_forR1 ?_ | refine w_one ?_ | refine w_g ?_
  | refine w_asgT ?_ | refine w_gcons ?_ | refine w_gnil ?_ | refine w_lcR1 ?_
  | refine w_var (by with_unfolding_all rfl) ?_)
local macro_rules | `(tactic| walk_at "s") => `(tactic| repeat (walk_at "s1"))

/-! ### values that are no views -/
theorem no_lst {m : Int} {ds : List PyData} : viewD 4 (.tuple [.int m, .list ds]) = false := by
  show (ixD 4 (.int m) && false) = false
  rw [Bool.and_false]
theorem no_non {m : Int} : viewD 4 (.tuple [.int m, .none]) = false := by
  show (ixD 4 (.int m) && false) = false
  rw [Bool.and_false]
theorem no_ix {d r : PyData} (h : ixD 4 d = false) : viewD 4 (.tuple [d, r]) = false := by
  show (ixD 4 d && rowD 4 r) = false
  rw [h, Bool.false_and]
theorem no_long {m : Int} {ns : List Int} : viewD 4 (.tuple [.int m, .tuple (dInts ns ++ dInts [3, 3, 3, 3, 3])]) = false := by
  show (ixD 4 (.int m) && (decide ((dInts ns ++ dInts [3, 3, 3, 3, 3]).length ≤ 4) && _ && _)) = false
  rw [decide_eq_false (by rw [List.length_append]; show ¬ (_ + 5 ≤ 4); omega), Bool.false_and, Bool.false_and, Bool.and_false]
theorem no_dec {m : Int} {ns : List Int} (h : incI ns = false) : viewD 4 (.tuple [.int m, .tuple (dInts ns)]) = false := by
  show (ixD 4 (.int m) && (_ && _ && incI (intsOf (dInts ns)))) = false
  rw [intsOf_d, h, Bool.and_false, Bool.and_false]
theorem no_row {ns : List Int} : viewD 4 (.tuple (dInts ns)) = false := by
  match ns with
  | [] => rfl
  | [_] => rfl
  | [a, b] =>
    show (ixD 4 (.int a) && false) = false
    rw [Bool.and_false]
  | _ :: _ :: _ :: _ => rfl
theorem no_in {m : Int} {ds es : List PyData} {d : PyData} (h : ixD 4 d = false) : viewD 4 (.tuple [.int m, .tuple ((ds ++ [d]) ++ es)]) = false := by
  show (ixD 4 (.int m) && (_ && ((ds ++ [d]) ++ es).all (ixD 4) && _)) = false
  rw [List.all_append, List.all_append, show [d].all (ixD 4) = false by rw [List.all_cons, h]; rfl, Bool.and_false, Bool.false_and, Bool.and_false, Bool.false_and, Bool.and_false]
theorem mv_ix {d r : PyData} (h : ixD 4 d = false) : mvD d r = false := by
  unfold mvD
  rw [h, Bool.and_false]
theorem mv_app {m : PyData} {ds : List PyData} {d : PyData} (h : ixD 4 d = false) : mvD m (.list (ds ++ [d])) = false := by
  show (true && (ds ++ [d]).all (ixD 4) && _ && _) = false
  rw [List.all_append, show [d].all (ixD 4) = false by rw [List.all_cons, h]; rfl, Bool.and_false, Bool.and_false, Bool.false_and, Bool.false_and]
/-- the strange things -/
theorem strange {K : PySem.W.Frag} {H : Hp} {p1 : Addr} {x : V} (h : x ∈ [V.int 4, V.int (0 - 1), V.non, V.bl true, V.str "0", V.ref p1, V.int 100]) (hp : H p1 = some (.tup [.int 0])) : ∃ d, Dp K H x d ∧ ixD 4 d = false := by
  simp only [List.mem_cons, List.not_mem_nil, or_false] at h
  rcases h with rfl | rfl | rfl | rfl | rfl | rfl | rfl
  · exact ⟨_, .int 4, by decide⟩
  · exact ⟨_, .int (0 - 1), by decide⟩
  · exact ⟨_, .non, rfl⟩
  · exact ⟨_, .bl true, rfl⟩
  · exact ⟨_, .str _, rfl⟩
  · exact ⟨.tuple [.int 0], .tup (.inl (.inl hp)) (.cons (.int 0) .nil), rfl⟩
  · exact ⟨_, .int 100, by decide⟩
/-- what stands while the views are tried -/
theorem noseq {K : PySem.W.Frag} {H : Hp} {p : Addr} {x : V} (h : x ∈ [V.non, V.int 3, V.str "01", V.ref p, V.bl true]) (hp : H p = some (.dK [])) : ∃ d, Dv K H x d ∧ seqD d = false ∧ (elemsD d).length ≤ 100000 := by
  simp only [List.mem_cons, List.not_mem_nil, or_false] at h
  rcases h with rfl | rfl | rfl | rfl | rfl
  · exact ⟨_, .dp .non, rfl, by decide⟩
  · exact ⟨_, .dp (.int 3), rfl, by decide⟩
  · exact ⟨_, .dp (.str _), rfl, Nat.zero_le _⟩
  · exact ⟨_, .dct (.base (.dK hp)), rfl, by decide⟩
  · exact ⟨_, .dp (.bl true), rfl, by decide⟩
theorem mv_seq {m d : PyData} (h : seqD d = false) : mvD m d = false := by
  unfold mvD
  rw [h, Bool.false_and, Bool.false_and, Bool.false_and]
structure Bd (a l PT t p1 : Addr) (ns : List Int) (Hs H : Hp) : Prop where
  d : DealAt H a l
  tb : LamX.Tabs [(PT, ("_law_bad_right" : Str) ++ ".<locals>." ++ "<lambda>")] H
  ht : H t = some (.tup (ns.map V.int))
  hp : H p1 = some (.tup [.int 0])
  fr : ∀ b o, Hs b = some o → b ≠ a → b ≠ l → (∀ ps, o ≠ .tbl ps) → H b = some o
section
variable {a l PT t p1 : Addr} {ns : List Int} {Hs H H' : Hp}
theorem Bd.same (B : Bd a l PT t p1 ns Hs H) (e : Same H H') : Bd a l PT t p1 ns Hs H' := ⟨B.d.same e, B.tb.ext e, e _ _ B.ht, e _ _ B.hp, fun b o h1 h2 h3 h4 => e _ _ (B.fr b o h1 h2 h3 h4)⟩
theorem Bd.extN (B : Bd a l PT t p1 ns Hs H) (e : LamX.ExtN H H') (T : LamX.Tabs [(PT, ("_law_bad_right" : Str) ++ ".<locals>." ++ "<lambda>")] H') : Bd a l PT t p1 ns Hs H' :=
  ⟨B.d.extN e, T, e _ _ B.ht (fun _ z => by cases z), e _ _ B.hp (fun _ z => by cases z), fun b o h1 h2 h3 h4 => e _ _ (B.fr b o h1 h2 h3 h4) h4⟩
theorem Bd.draw (B : Bd a l PT t p1 ns Hs H) (D : DealAt H' a l) (f : Fr a l H H') : Bd a l PT t p1 ns Hs H' :=
  ⟨D, B.d.tabs f B.tb, B.d.keep f B.ht (fun _ z => by cases z), B.d.keep f B.hp (fun _ z => by cases z), fun b o h1 h2 h3 h4 => f _ _ (B.fr b o h1 h2 h3 h4) h2 h3⟩
end
section
variable {K : PySem.W.Frag} {H H' : Hp} {x y : V} {t p q : Addr} {m : Int} {ns : List Int} {dx : PyData}
def NoV (K : PySem.W.Frag) (H : Hp) (x : V) : Prop := ∃ d, Dv K H x d ∧ viewD 4 d = false
theorem NoV.same (h : NoV K H x) (e : Same H H') : NoV K H' x := by
  obtain ⟨d, h, b⟩ := h
  exact ⟨d, h.same e, b⟩
theorem dp_row (e : Same H H') (h : H t = some (.tup (ns.map V.int))) : Dp K H' (.ref t) (.tuple (dInts ns)) := .tup (.inl (.inl (e _ _ h))) (dp_ints ns)
theorem no_mid {lo hi : Option Int} (u : H q = some (.tup [.int m, .ref p])) (S : SqT K H p ((cutV (ns.map V.int) none hi ++ [x]) ++ cutV (ns.map V.int) lo none)) (h : Dp K H x dx) (b : ixD 4 dx = false) : NoV K H (.ref q) := by
  obtain ⟨ms, e1, _⟩ := cut_map ns none hi
  obtain ⟨ls, e2, _⟩ := cut_map ns lo none
  rw [e1, e2] at S
  exact ⟨_, .dp (.tup (.inl (.inl u)) (.cons (.int m) (.cons (.tup S (dp_app (dp_app (dp_ints ms) (.cons h .nil)) (dp_ints ls))) .nil))), no_in b⟩
theorem allV0 : ∀ x ∈ ([] : List V), NoV K H x := fun x h => by cases h
theorem allV {xs : List V} (h : NoV K H x) (A : ∀ x ∈ xs, NoV K H x) : ∀ y ∈ x :: xs, NoV K H y := fun y hy => by
  rcases List.mem_cons.mp hy with rfl | hy
  · exact h
  · exact A y hy
end
section
variable {P : Program} {w : World} {K : PySem.W.Frag} {mg : Str → Option Value} {base : Heap} {AA : Ad} {c PT : Addr}
abbrev TB2 (PT : Addr) : List (Addr × Str) := [(PT, ("_law_bad_right" : Str) ++ ".<locals>." ++ "<lambda>")]
/-- a view (m, row) of at most four kinds; the deal -/
def spBad (K : PySem.W.Frag) (PT : Addr) : Sp := fun vs H Q _ => ∃ (a l v t : Addr) (m : Int) (ns : List Int), vs = [.ref a, .ref v] ∧ DealAt H a l ∧ LamX.Tabs (TB2 PT) H ∧ H v = some (.tup [.int m, .ref t]) ∧ H t = some (.tup (ns.map V.int)) ∧
  0 ≤ m ∧ m < 4 ∧ (∀ x ∈ ns, 0 ≤ x ∧ x < 4) ∧ ns.length ≤ 4 ∧ ∀ H', DealAt H' a l → LamX.Tabs (TB2 PT) H' → (∀ b o, H b = some o → b ≠ a → b ≠ l → (∀ ps, o ≠ .tbl ps) → H' b = some o) → Q (.bl true) H'
theorem ok__law_bad_right (T : Txt P K mg AA) (D : DefC K mg "_law_bad_right" s__law_bad_right ["_law_deal", "_law_view"] c) (TB : LamX.TabB base mg c PT) (hh : Heard K AA.InvalidView AA.InvalidView AA.NetError) :
    KeptG P w K mg base CX0 9 "_law_bad_right" s__law_bad_right ["_law_deal", "_law_view"] (spBad K PT) := by
  have O_is_view := ok_is_view (w := w) (base := base) T
  have O_made_view := ok_made_view (w := w) (base := base) T
  have O__law_any := ok__law_any (w := w) (base := base) T
  have O__law_of := ok__law_of (w := w) (base := base) T
  refine keepGC D sc__law_bad_right (fun vs H Q E h => ?_) (fun f A outer s H vs Q E hgd hr h => ?_)
  · obtain ⟨a, l, v, t, m, ns, rfl, _⟩ := h
    rfl
  · obtain ⟨a, l, v, t, m, ns, rfl, D1, T1, hv, ht, m0, m1, hx, hl, q⟩ := h
    refine ⟨_, (pss_cons (ps_asg (pv 1) (pg_tup rfl (pgs_cons (pg_name (i := 2) sc__law_bad_right.nd rfl (by first | exact Or.inl rfl | exact Or.inr rfl)) (pgs_cons (pg_name (i := 3) sc__law_bad_right.nd rfl (by first | exact Or.inl rfl | exact Or.inr rfl)) pgs_nil))))
      (pss_cons (ps_asg (pk_call O__law_of (hr.mono (by decide)) (pa_cons (pv 0) (pa_cons (pe_lst (pa_cons pe_int (pa_cons (pe_op op_sub pe_int pe_int) (pa_cons pe_non (pa_cons pe_bl (pa_cons pe_str (pa_cons (pe_tup (pa_cons pe_int pa_nil)) (pa_cons pe_int pa_nil)))))))) pa_nil))) (pg_name (i := 4) sc__law_bad_right.nd rfl (by first | exact Or.inl rfl | exact Or.inr rfl)))
      (pss_cons (ps_asg (pk_call O__law_any (hr.mono (by decide)) (pa_cons (pv 0) (pa_cons (pe_op oAdd (pe_callB cLen (by rfl) T.n_len PySem.boot_len (pa_cons (pv 3) pa_nil)) pe_int) pa_nil))) (pg_name (i := 5) sc__law_bad_right.nd rfl (by first | exact Or.inl rfl | exact Or.inr rfl)))
      (pss_cons (ps_asg (pe_lst (pa_cons (pe_lst (pa_cons (pv 2) (pa_cons (pv 3) pa_nil))) (pa_cons (pe_tup (pa_cons (pv 2) (pa_cons (pe_callTy cList (by rfl) T.n_list (by decide +kernel) (pa_cons (pv 3) pa_nil)) pa_nil))) (pa_cons (pe_tup (pa_cons (pv 4) (pa_cons (pv 3) pa_nil))) (pa_cons (pe_tup (pa_cons (pv 2) pa_nil)) (pa_cons (pe_tup (pa_cons (pv 2) (pa_cons (pv 3) (pa_cons (pe_tup pa_nil) pa_nil)))) (pa_cons pe_non (pa_cons (pv 3) (pa_cons (pv 2) (pa_cons (pe_tup (pa_cons (pv 2) (pa_cons (pe_op oAdd (pv 3) (pe_tup (pa_cons pe_int (pa_cons pe_int (pa_cons pe_int (pa_cons pe_int (pa_cons pe_int pa_nil))))))) pa_nil))) pa_nil)))))))))) (pg_name (i := 6) sc__law_bad_right.nd rfl (by first | exact Or.inl rfl | exact Or.inr rfl)))
      (pss_cons (ps_asg (pe_op oAdd (pv 6) (pe_lst (pa_cons (pe_tup (pa_cons (pv 2) (pa_cons (pe_op oAdd (pe_op oAdd (pe_slice sl_any (pv 3) po_none (po_some (pv 5))) (pe_tup (pa_cons (pv 4) pa_nil))) (pe_slice sl_any (pv 3) (po_some (pv 5)) po_none)) pa_nil))) (pa_cons (pe_tup (pa_cons (pv 2) (pa_cons pe_non pa_nil))) (pa_cons (pe_tup (pa_cons (pv 2) (pa_cons (pe_tup (pa_cons pe_int (pa_cons pe_int pa_nil))) pa_nil))) (pa_cons (pe_tup (pa_cons (pv 2) (pa_cons (pe_tup (pa_cons pe_int (pa_cons pe_int (pa_cons pe_int pa_nil)))) pa_nil))) (pa_cons pe_str (pa_cons (pe_tup (pa_cons (pe_tup (pa_cons (pv 2) pa_nil)) (pa_cons (pv 3) pa_nil))) pa_nil)))))))) (pg_name (i := 6) sc__law_bad_right.nd rfl (by first | exact Or.inl rfl | exact Or.inr rfl)))
      (pss_cons (ps_for PassesOwn.never rfl (pi_list (pv 6)) (pg_name (i := 7) sc__law_bad_right.nd rfl (by first | exact Or.inl rfl | exact Or.inr rfl))
        (pss_one (ps_if (pt_cmpR oNis (pk_call O_is_view (hr.mono (by decide)) (pa_cons (pv 7) pa_nil)) pe_bl (nomark _))
        (pss_one (ps_ret pe_bl)) pss_nil)))
      (pss_cons (ps_if (pt_cmpR (oNe (ru64 hr)) (pk_lam (k := 6) T.d__law_refused sc__law_refused rfl (Or.inl rfl) (fun g cdg => gv__law_refused T) TB rfl (List.mem_singleton.mpr rfl) (fun p hp _ => by rw [List.mem_singleton.mp hp]) (hr.mono (by decide)) (LamX.lamS_by (sc := defScope s__law_bad_right) (by decide +kernel)) (fun A outer s H E f c' hr => (pk_callX O_made_view (takes_of rfl rfl rfl rfl) (hr.mono (by decide)) (pa_cons (pv 4) (pa_cons (pv 3) pa_nil))))) pe_int (nomark _))
        (pss_one (ps_ret pe_bl)) pss_nil)
      (pss_cons (ps_if (pt_cmpR (oNe (ru64 hr)) (pk_lam (k := 6) T.d__law_refused sc__law_refused rfl (Or.inl rfl) (fun g cdg => gv__law_refused T) TB rfl (List.mem_singleton.mpr rfl) (fun p hp _ => by rw [List.mem_singleton.mp hp]) (hr.mono (by decide)) (LamX.lamS_by (sc := defScope s__law_bad_right) (by decide +kernel)) (fun A outer s H E f c' hr => (pk_callX O_made_view (takes_of rfl rfl rfl rfl) (hr.mono (by decide)) (pa_cons (pv 2) (pa_cons (pe_lst (pa_cons pe_int (pa_cons pe_int (pa_cons pe_int (pa_cons pe_int (pa_cons pe_int pa_nil)))))) pa_nil))))) pe_int (nomark _))
        (pss_one (ps_ret pe_bl)) pss_nil)
      (pss_cons (ps_if (pt_cmpR (oNe (ru64 hr)) (pk_lam (k := 6) T.d__law_refused sc__law_refused rfl (Or.inl rfl) (fun g cdg => gv__law_refused T) TB rfl (List.mem_singleton.mpr rfl) (fun p hp _ => by rw [List.mem_singleton.mp hp]) (hr.mono (by decide)) (LamX.lamS_by (sc := defScope s__law_bad_right) (by decide +kernel)) (fun A outer s H E f c' hr => (pk_callX O_made_view (takes_of rfl rfl rfl rfl) (hr.mono (by decide)) (pa_cons (pv 2) (pa_cons (pk_call O__law_of (hr.mono (by decide)) (pa_cons (pv 0) (pa_cons (pe_lst (pa_cons pe_non (pa_cons pe_int (pa_cons pe_str (pa_cons pe_dnewK (pa_cons pe_bl pa_nil)))))) pa_nil))) pa_nil))))) pe_int (nomark _))
        (pss_one (ps_ret pe_bl)) pss_nil)
      (pss_one (ps_ret (pe_cmpR (oEq (ru64 hr)) (pk_lam (k := 6) T.d__law_refused sc__law_refused rfl (Or.inl rfl) (fun g cdg => gv__law_refused T) TB rfl (List.mem_singleton.mpr rfl) (fun p hp _ => by rw [List.mem_singleton.mp hp]) (hr.mono (by decide)) (LamX.lamS_by (sc := defScope s__law_bad_right) (by decide +kernel)) (fun A outer s H E f c' hr => (pk_callW0 (ks := ["neighbours", "mode"]) (idx := [1, 0]) O_made_view (passes_call (takes_of rfl rfl rfl rfl) fun _ _ _ _ h => h) (fun _ _ _ _ _ _ us ws h1 h2 => match us, ws, h1, h2 with | [], [_, _], _, _ => rfl) (hr.mono (by decide)) (pk_cons (pe_op (show OpR _ _ (aAdd K) from oAdd) (pe_callTy (show CallR _ _ (aList K) from cList) (by rfl) T.n_list (by decide +kernel) (pa_cons (pe_slice (show SlR _ (fun x lo hi H Q => rSlL K x lo hi H Q ∨ rSlA K x lo hi H Q) from sl_any) (pv 3) po_none (po_some (pv 5))) pa_nil)) (pe_lst (pa_cons (pv 4) pa_nil))) (pk_cons (pv 2) pk_nil))))) pe_int (nomark _))))))))))))), ?_⟩
    walk_at "s"
    refine w_gtup (.inl (.inl hv)) rfl ?_
    walk_at "s"
    refine ⟨show 1 ≤ sizeLine by decide +kernel, fun p1 n1 => ?_⟩
    have s1 : Same H _ := Same.newT (o := .tup [.int 0]) n1
    have u1 : upd H p1 (.tup [.int 0]) p1 = some (.tup [.int 0]) := upd_same
    generalize upd H p1 (.tup [.int 0]) = H1 at s1 u1
    walk_at "s"
    refine ⟨show 7 ≤ sizeLine by decide +kernel, fun p2 n2 => ?_⟩
    have s2 : Same H1 _ := Same.newT (o := .lst [.int 4, .int (0 - 1), .non, .bl true, .str "0", .ref p1, .int 100]) n2
    have u2 : upd H1 p2 (.lst [.int 4, .int (0 - 1), .non, .bl true, .str "0", .ref p1, .int 100]) p2 = some (.lst [.int 4, .int (0 - 1), .non, .bl true, .str "0", .ref p1, .int 100]) := upd_same
    generalize upd H1 p2 (.lst [.int 4, .int (0 - 1), .non, .bl true, .str "0", .ref p1, .int 100]) = H2 at s2 u2
    have s12 := Same.trans s1 s2
    walk_at "s"
    have o2 := (D1.same s1).off n2
    refine ⟨a, l, p2, _, rfl, D1.same s12, SqL.of u2, o2.1, o2.2, show 0 < 7 by decide, show 7 ≤ 2 ^ 24 by decide, fun x hxm H3 D3 f3 => ?_⟩
    have D2 := D1.same s12
    have hp3 : H3 p1 = some (.tup [.int 0]) := D2.keep f3 (s2 _ _ u1) fun _ z => by cases z
    have hv3 : H3 v = some (.tup [.int m, .ref t]) := D2.keep f3 (s12 _ _ hv) fun _ z => by cases z
    have ht3 : H3 t = some (.tup (ns.map V.int)) := D2.keep f3 (s12 _ _ ht) fun _ z => by cases z
    have T3 := D2.tabs f3 (T1.ext s12)
    walk_at "s"
    refine w_lenT (.inl (.inl ht3)) ?_
    rw [List.length_map]
    walk_at "s"
    refine ⟨a, l, (ns.length : Int) + 1, rfl, by omega, by omega, D3, fun at0 A0 a0 a1 D4 f4 => ?_⟩
    have hv4 := D3.keep f4 hv3 fun _ z => by cases z
    have ht4 := D3.keep f4 ht3 fun _ z => by cases z
    have T4 := D3.tabs f4 T3
    have hp4 := D3.keep f4 hp3 fun _ z => by cases z
    have B0 : Bd a l PT t p1 ns H A0 := ⟨D4, T4, ht4, hp4, fun b o h1 h2 h3 _ => f4 _ _ (f3 _ _ (s12 _ _ h1) h2 h3) h2 h3⟩
    obtain ⟨dx, hdx, bx⟩ := strange (K := K) hxm hp4
    clear s1 s2 s12 n1 n2 u1 u2 o2 D2 f3 f4 D3 T3 hp3 hv3 ht3
    walk_at "s"
    have a0 : Same A0 A0 := Same.refl A0
    refine ⟨show 2 ≤ sizeLine by decide +kernel, fun q1 m1 => ?_⟩
    have s1 : Same A0 _ := Same.newT (o := .lst [.int m, .ref t]) m1
    have u1 : upd A0 q1 (.lst [.int m, .ref t]) q1 = some (.lst [.int m, .ref t]) := upd_same
    generalize upd A0 q1 (.lst [.int m, .ref t]) = A1 at s1 u1
    have a1 := Same.trans a0 s1
    have F1 : NoV K A1 (.ref q1) := ⟨_, .dp (.lst (SqL.of u1) (.cons (.int m) (.cons (dp_row a1 ht4) .nil))), rfl⟩
    walk_at "s"
    refine ⟨t, _, rfl, .inr (.inl (.inl (a1 _ _ ht4))), fun q2 m2 => ?_⟩
    have s2 : Same A1 _ := Same.newT (o := .lst (ns.map V.int)) m2
    have u2 : upd A1 q2 (.lst (ns.map V.int)) q2 = some (.lst (ns.map V.int)) := upd_same
    generalize upd A1 q2 (.lst (ns.map V.int)) = A2 at s2 u2
    have a2 := Same.trans a1 s2
    have F1 := NoV.same F1 s2
    walk_at "s"
    refine ⟨show 2 ≤ sizeLine by decide +kernel, fun q3 m3 => ?_⟩
    have s3 : Same A2 _ := Same.newT (o := .tup [.int m, .ref q2]) m3
    have u3 : upd A2 q3 (.tup [.int m, .ref q2]) q3 = some (.tup [.int m, .ref q2]) := upd_same
    generalize upd A2 q3 (.tup [.int m, .ref q2]) = A3 at s3 u3
    have a3 := Same.trans a2 s3
    have F1 := NoV.same F1 s3
    have u2 := s3 _ _ u2
    have F3 : NoV K A3 (.ref q3) := ⟨_, .dp (.tup (.inl (.inl u3)) (.cons (.int m) (.cons (.lst (SqL.of u2) (dp_ints ns)) .nil))), no_lst⟩
    walk_at "s"
    refine ⟨show 2 ≤ sizeLine by decide +kernel, fun q4 m4 => ?_⟩
    have s4 : Same A3 _ := Same.newT (o := .tup [x, .ref t]) m4
    have u4 : upd A3 q4 (.tup [x, .ref t]) q4 = some (.tup [x, .ref t]) := upd_same
    generalize upd A3 q4 (.tup [x, .ref t]) = A4 at s4 u4
    have a4 := Same.trans a3 s4
    have F1 := NoV.same F1 s4
    have F3 := NoV.same F3 s4
    have u2 := s4 _ _ u2
    have F4 : NoV K A4 (.ref q4) := ⟨_, .dp (.tup (.inl (.inl u4)) (.cons (Dp.same hdx a4) (.cons (dp_row a4 ht4) .nil))), no_ix bx⟩
    walk_at "s"
    refine ⟨show 1 ≤ sizeLine by decide +kernel, fun q5 m5 => ?_⟩
    have s5 : Same A4 _ := Same.newT (o := .tup [.int m]) m5
    have u5 : upd A4 q5 (.tup [.int m]) q5 = some (.tup [.int m]) := upd_same
    generalize upd A4 q5 (.tup [.int m]) = A5 at s5 u5
    have a5 := Same.trans a4 s5
    have F1 := NoV.same F1 s5
    have F3 := NoV.same F3 s5
    have F4 := NoV.same F4 s5
    have u2 := s5 _ _ u2
    have F5 : NoV K A5 (.ref q5) := ⟨_, .dp (.tup (.inl (.inl u5)) (.cons (.int m) .nil)), rfl⟩
    walk_at "s"
    refine ⟨show 0 ≤ sizeLine by decide +kernel, fun q6 m6 => ?_⟩
    have s6 : Same A5 _ := Same.newT (o := .tup []) m6
    have u6 : upd A5 q6 (.tup []) q6 = some (.tup []) := upd_same
    generalize upd A5 q6 (.tup []) = A6 at s6 u6
    have a6 := Same.trans a5 s6
    have F1 := NoV.same F1 s6
    have F3 := NoV.same F3 s6
    have F4 := NoV.same F4 s6
    have F5 := NoV.same F5 s6
    have u2 := s6 _ _ u2
    walk_at "s"
    refine ⟨show 3 ≤ sizeLine by decide +kernel, fun q7 m7 => ?_⟩
    have s7 : Same A6 _ := Same.newT (o := .tup [.int m, .ref t, .ref q6]) m7
    have u7 : upd A6 q7 (.tup [.int m, .ref t, .ref q6]) q7 = some (.tup [.int m, .ref t, .ref q6]) := upd_same
    generalize upd A6 q7 (.tup [.int m, .ref t, .ref q6]) = A7 at s7 u7
    have a7 := Same.trans a6 s7
    have F1 := NoV.same F1 s7
    have F3 := NoV.same F3 s7
    have F4 := NoV.same F4 s7
    have F5 := NoV.same F5 s7
    have u2 := s7 _ _ u2
    have u6 := s7 _ _ u6
    have F7 : NoV K A7 (.ref q7) := ⟨_, .dp (.tup (.inl (.inl u7)) (.cons (.int m) (.cons (dp_row a7 ht4) (.cons (.tup (.inl (.inl u6)) .nil) .nil)))), rfl⟩
    walk_at "s"
    refine ⟨show 5 ≤ sizeLine by decide +kernel, fun q8 m8 => ?_⟩
    have s8 : Same A7 _ := Same.newT (o := .tup [.int 3, .int 3, .int 3, .int 3, .int 3]) m8
    have u8 : upd A7 q8 (.tup [.int 3, .int 3, .int 3, .int 3, .int 3]) q8 = some (.tup [.int 3, .int 3, .int 3, .int 3, .int 3]) := upd_same
    generalize upd A7 q8 (.tup [.int 3, .int 3, .int 3, .int 3, .int 3]) = A8 at s8 u8
    have a8 := Same.trans a7 s8
    have F1 := NoV.same F1 s8
    have F3 := NoV.same F3 s8
    have F4 := NoV.same F4 s8
    have F5 := NoV.same F5 s8
    have F7 := NoV.same F7 s8
    have u2 := s8 _ _ u2
    have u6 := s8 _ _ u6
    walk_at "s"
    refine .inr (.inl (w_catA (xs := ns.map V.int) (ys := [3, 3, 3, 3, 3].map V.int) (.inl (.inl (a8 _ _ ht4))) (.inl (.inl u8)) (by rw [List.length_map]; exact Nat.le_of_lt (lt_size (by show ns.length + 5 ≤ 1000000; omega))) (fun q9 A9 s9 u9 => ?_)))
    have a9 := Same.trans a8 s9
    have F1 := NoV.same F1 s9
    have F3 := NoV.same F3 s9
    have F4 := NoV.same F4 s9
    have F5 := NoV.same F5 s9
    have F7 := NoV.same F7 s9
    have u2 := s9 _ _ u2
    have u6 := s9 _ _ u6
    walk_at "s"
    refine ⟨show 2 ≤ sizeLine by decide +kernel, fun q10 m10 => ?_⟩
    have s10 : Same A9 _ := Same.newT (o := .tup [.int m, .ref q9]) m10
    have u10 : upd A9 q10 (.tup [.int m, .ref q9]) q10 = some (.tup [.int m, .ref q9]) := upd_same
    generalize upd A9 q10 (.tup [.int m, .ref q9]) = A10 at s10 u10
    have a10 := Same.trans a9 s10
    have F1 := NoV.same F1 s10
    have F3 := NoV.same F3 s10
    have F4 := NoV.same F4 s10
    have F5 := NoV.same F5 s10
    have F7 := NoV.same F7 s10
    have u2 := s10 _ _ u2
    have u6 := s10 _ _ u6
    have u9 := same_t s10 u9
    have F10 : NoV K A10 (.ref q10) := ⟨_, .dp (.tup (.inl (.inl u10)) (.cons (.int m) (.cons (.tup u9 (dp_app (dp_ints ns) (dp_ints [3, 3, 3, 3, 3]))) .nil))), no_long⟩
    walk_at "s"
    refine ⟨show 9 ≤ sizeLine by decide +kernel, fun q11 m11 => ?_⟩
    have s11 : Same A10 _ := Same.newT (o := .lst [.ref q1, .ref q3, .ref q4, .ref q5, .ref q7, .non, .ref t, .int m, .ref q10]) m11
    have u11 : upd A10 q11 (.lst [.ref q1, .ref q3, .ref q4, .ref q5, .ref q7, .non, .ref t, .int m, .ref q10]) q11 = some (.lst [.ref q1, .ref q3, .ref q4, .ref q5, .ref q7, .non, .ref t, .int m, .ref q10]) := upd_same
    generalize upd A10 q11 (.lst [.ref q1, .ref q3, .ref q4, .ref q5, .ref q7, .non, .ref t, .int m, .ref q10]) = A11 at s11 u11
    have a11 := Same.trans a10 s11
    have F1 := NoV.same F1 s11
    have F3 := NoV.same F3 s11
    have F4 := NoV.same F4 s11
    have F5 := NoV.same F5 s11
    have F7 := NoV.same F7 s11
    have F10 := NoV.same F10 s11
    have u2 := s11 _ _ u2
    have u6 := s11 _ _ u6
    have u9 := same_t s11 u9
    walk_at "s"
    refine w_slT (.inl (.inl (a11 _ _ ht4))) (fun q12 A12 s12 u12 => ?_)
    have a12 := Same.trans a11 s12
    have F1 := NoV.same F1 s12
    have F3 := NoV.same F3 s12
    have F4 := NoV.same F4 s12
    have F5 := NoV.same F5 s12
    have F7 := NoV.same F7 s12
    have F10 := NoV.same F10 s12
    have u2 := s12 _ _ u2
    have u6 := s12 _ _ u6
    have u9 := same_t s12 u9
    have u11 := s12 _ _ u11
    walk_at "s"
    refine ⟨show 1 ≤ sizeLine by decide +kernel, fun q13 m13 => ?_⟩
    have s13 : Same A12 _ := Same.newT (o := .tup [x]) m13
    have u13 : upd A12 q13 (.tup [x]) q13 = some (.tup [x]) := upd_same
    generalize upd A12 q13 (.tup [x]) = A13 at s13 u13
    have a13 := Same.trans a12 s13
    have F1 := NoV.same F1 s13
    have F3 := NoV.same F3 s13
    have F4 := NoV.same F4 s13
    have F5 := NoV.same F5 s13
    have F7 := NoV.same F7 s13
    have F10 := NoV.same F10 s13
    have u2 := s13 _ _ u2
    have u6 := s13 _ _ u6
    have u9 := same_t s13 u9
    have u11 := s13 _ _ u11
    have u12 := same_t s13 u12
    walk_at "s"
    refine .inr (.inl (w_catA (xs := cutV (ns.map V.int) none (some at0)) (ys := [x]) u12 (.inl (.inl u13)) (by have := cut_len (ns.map V.int) none (some at0); rw [List.length_map] at this; exact Nat.le_of_lt (lt_size (by show _ + 1 ≤ 1000000; omega))) (fun q14 A14 s14 u14 => ?_)))
    have a14 := Same.trans a13 s14
    have F1 := NoV.same F1 s14
    have F3 := NoV.same F3 s14
    have F4 := NoV.same F4 s14
    have F5 := NoV.same F5 s14
    have F7 := NoV.same F7 s14
    have F10 := NoV.same F10 s14
    have u2 := s14 _ _ u2
    have u6 := s14 _ _ u6
    have u9 := same_t s14 u9
    have u11 := s14 _ _ u11
    have u12 := same_t s14 u12
    walk_at "s"
    refine w_slT (.inl (.inl (a14 _ _ ht4))) (fun q15 A15 s15 u15 => ?_)
    have a15 := Same.trans a14 s15
    have F1 := NoV.same F1 s15
    have F3 := NoV.same F3 s15
    have F4 := NoV.same F4 s15
    have F5 := NoV.same F5 s15
    have F7 := NoV.same F7 s15
    have F10 := NoV.same F10 s15
    have u2 := s15 _ _ u2
    have u6 := s15 _ _ u6
    have u9 := same_t s15 u9
    have u11 := s15 _ _ u11
    have u12 := same_t s15 u12
    have u14 := same_t s15 u14
    walk_at "s"
    refine .inr (.inl (w_catA (xs := cutV (ns.map V.int) none (some at0) ++ [x]) (ys := cutV (ns.map V.int) (some at0) none) u14 u15 (by have h1 := cut_len (ns.map V.int) none (some at0); have h2 := cut_len (ns.map V.int) (some at0) none; rw [List.length_map] at h1 h2; rw [List.length_append]; exact Nat.le_of_lt (lt_size (by show _ + 1 + _ ≤ 1000000; omega))) (fun q16 A16 s16 u16 => ?_)))
    have a16 := Same.trans a15 s16
    have F1 := NoV.same F1 s16
    have F3 := NoV.same F3 s16
    have F4 := NoV.same F4 s16
    have F5 := NoV.same F5 s16
    have F7 := NoV.same F7 s16
    have F10 := NoV.same F10 s16
    have u2 := s16 _ _ u2
    have u6 := s16 _ _ u6
    have u9 := same_t s16 u9
    have u11 := s16 _ _ u11
    have u12 := same_t s16 u12
    have u14 := same_t s16 u14
    have u15 := same_t s16 u15
    walk_at "s"
    refine ⟨show 2 ≤ sizeLine by decide +kernel, fun q17 m17 => ?_⟩
    have s17 : Same A16 _ := Same.newT (o := .tup [.int m, .ref q16]) m17
    have u17 : upd A16 q17 (.tup [.int m, .ref q16]) q17 = some (.tup [.int m, .ref q16]) := upd_same
    generalize upd A16 q17 (.tup [.int m, .ref q16]) = A17 at s17 u17
    have a17 := Same.trans a16 s17
    have F1 := NoV.same F1 s17
    have F3 := NoV.same F3 s17
    have F4 := NoV.same F4 s17
    have F5 := NoV.same F5 s17
    have F7 := NoV.same F7 s17
    have F10 := NoV.same F10 s17
    have u2 := s17 _ _ u2
    have u6 := s17 _ _ u6
    have u9 := same_t s17 u9
    have u11 := s17 _ _ u11
    have u12 := same_t s17 u12
    have u14 := same_t s17 u14
    have u15 := same_t s17 u15
    have u16 := same_t s17 u16
    have F17 : NoV K A17 (.ref q17) := no_mid u17 u16 (Dp.same hdx a17) bx
    walk_at "s"
    refine ⟨show 2 ≤ sizeLine by decide +kernel, fun q18 m18 => ?_⟩
    have s18 : Same A17 _ := Same.newT (o := .tup [.int m, .non]) m18
    have u18 : upd A17 q18 (.tup [.int m, .non]) q18 = some (.tup [.int m, .non]) := upd_same
    generalize upd A17 q18 (.tup [.int m, .non]) = A18 at s18 u18
    have a18 := Same.trans a17 s18
    have F1 := NoV.same F1 s18
    have F3 := NoV.same F3 s18
    have F4 := NoV.same F4 s18
    have F5 := NoV.same F5 s18
    have F7 := NoV.same F7 s18
    have F10 := NoV.same F10 s18
    have F17 := NoV.same F17 s18
    have u2 := s18 _ _ u2
    have u6 := s18 _ _ u6
    have u9 := same_t s18 u9
    have u11 := s18 _ _ u11
    have u12 := same_t s18 u12
    have u14 := same_t s18 u14
    have u15 := same_t s18 u15
    have u16 := same_t s18 u16
    have F18 : NoV K A18 (.ref q18) := ⟨_, .dp (.tup (.inl (.inl u18)) (.cons (.int m) (.cons .non .nil))), no_non⟩
    walk_at "s"
    refine ⟨show 2 ≤ sizeLine by decide +kernel, fun q19 m19 => ?_⟩
    have s19 : Same A18 _ := Same.newT (o := .tup [.int 1, .int 0]) m19
    have u19 : upd A18 q19 (.tup [.int 1, .int 0]) q19 = some (.tup [.int 1, .int 0]) := upd_same
    generalize upd A18 q19 (.tup [.int 1, .int 0]) = A19 at s19 u19
    have a19 := Same.trans a18 s19
    have F1 := NoV.same F1 s19
    have F3 := NoV.same F3 s19
    have F4 := NoV.same F4 s19
    have F5 := NoV.same F5 s19
    have F7 := NoV.same F7 s19
    have F10 := NoV.same F10 s19
    have F17 := NoV.same F17 s19
    have F18 := NoV.same F18 s19
    have u2 := s19 _ _ u2
    have u6 := s19 _ _ u6
    have u9 := same_t s19 u9
    have u11 := s19 _ _ u11
    have u12 := same_t s19 u12
    have u14 := same_t s19 u14
    have u15 := same_t s19 u15
    have u16 := same_t s19 u16
    walk_at "s"
    refine ⟨show 2 ≤ sizeLine by decide +kernel, fun q20 m20 => ?_⟩
    have s20 : Same A19 _ := Same.newT (o := .tup [.int m, .ref q19]) m20
    have u20 : upd A19 q20 (.tup [.int m, .ref q19]) q20 = some (.tup [.int m, .ref q19]) := upd_same
    generalize upd A19 q20 (.tup [.int m, .ref q19]) = A20 at s20 u20
    have a20 := Same.trans a19 s20
    have F1 := NoV.same F1 s20
    have F3 := NoV.same F3 s20
    have F4 := NoV.same F4 s20
    have F5 := NoV.same F5 s20
    have F7 := NoV.same F7 s20
    have F10 := NoV.same F10 s20
    have F17 := NoV.same F17 s20
    have F18 := NoV.same F18 s20
    have u2 := s20 _ _ u2
    have u6 := s20 _ _ u6
    have u9 := same_t s20 u9
    have u11 := s20 _ _ u11
    have u12 := same_t s20 u12
    have u14 := same_t s20 u14
    have u15 := same_t s20 u15
    have u16 := same_t s20 u16
    have u19 := s20 _ _ u19
    have F20 : NoV K A20 (.ref q20) := ⟨_, .dp (.tup (.inl (.inl u20)) (.cons (.int m) (.cons (.tup (.inl (.inl u19)) (dp_ints [1, 0])) .nil))), no_dec (by decide)⟩
    walk_at "s"
    refine ⟨show 3 ≤ sizeLine by decide +kernel, fun q21 m21 => ?_⟩
    have s21 : Same A20 _ := Same.newT (o := .tup [.int 3, .int 2, .int 2]) m21
    have u21 : upd A20 q21 (.tup [.int 3, .int 2, .int 2]) q21 = some (.tup [.int 3, .int 2, .int 2]) := upd_same
    generalize upd A20 q21 (.tup [.int 3, .int 2, .int 2]) = A21 at s21 u21
    have a21 := Same.trans a20 s21
    have F1 := NoV.same F1 s21
    have F3 := NoV.same F3 s21
    have F4 := NoV.same F4 s21
    have F5 := NoV.same F5 s21
    have F7 := NoV.same F7 s21
    have F10 := NoV.same F10 s21
    have F17 := NoV.same F17 s21
    have F18 := NoV.same F18 s21
    have F20 := NoV.same F20 s21
    have u2 := s21 _ _ u2
    have u6 := s21 _ _ u6
    have u9 := same_t s21 u9
    have u11 := s21 _ _ u11
    have u12 := same_t s21 u12
    have u14 := same_t s21 u14
    have u15 := same_t s21 u15
    have u16 := same_t s21 u16
    have u19 := s21 _ _ u19
    walk_at "s"
    refine ⟨show 2 ≤ sizeLine by decide +kernel, fun q22 m22 => ?_⟩
    have s22 : Same A21 _ := Same.newT (o := .tup [.int m, .ref q21]) m22
    have u22 : upd A21 q22 (.tup [.int m, .ref q21]) q22 = some (.tup [.int m, .ref q21]) := upd_same
    generalize upd A21 q22 (.tup [.int m, .ref q21]) = A22 at s22 u22
    have a22 := Same.trans a21 s22
    have F1 := NoV.same F1 s22
    have F3 := NoV.same F3 s22
    have F4 := NoV.same F4 s22
    have F5 := NoV.same F5 s22
    have F7 := NoV.same F7 s22
    have F10 := NoV.same F10 s22
    have F17 := NoV.same F17 s22
    have F18 := NoV.same F18 s22
    have F20 := NoV.same F20 s22
    have u2 := s22 _ _ u2
    have u6 := s22 _ _ u6
    have u9 := same_t s22 u9
    have u11 := s22 _ _ u11
    have u12 := same_t s22 u12
    have u14 := same_t s22 u14
    have u15 := same_t s22 u15
    have u16 := same_t s22 u16
    have u19 := s22 _ _ u19
    have u21 := s22 _ _ u21
    have F22 : NoV K A22 (.ref q22) := ⟨_, .dp (.tup (.inl (.inl u22)) (.cons (.int m) (.cons (.tup (.inl (.inl u21)) (dp_ints [3, 2, 2])) .nil))), no_dec (by decide)⟩
    walk_at "s"
    refine ⟨show 1 ≤ sizeLine by decide +kernel, fun q23 m23 => ?_⟩
    have s23 : Same A22 _ := Same.newT (o := .tup [.int m]) m23
    have u23 : upd A22 q23 (.tup [.int m]) q23 = some (.tup [.int m]) := upd_same
    generalize upd A22 q23 (.tup [.int m]) = A23 at s23 u23
    have a23 := Same.trans a22 s23
    have F1 := NoV.same F1 s23
    have F3 := NoV.same F3 s23
    have F4 := NoV.same F4 s23
    have F5 := NoV.same F5 s23
    have F7 := NoV.same F7 s23
    have F10 := NoV.same F10 s23
    have F17 := NoV.same F17 s23
    have F18 := NoV.same F18 s23
    have F20 := NoV.same F20 s23
    have F22 := NoV.same F22 s23
    have u2 := s23 _ _ u2
    have u6 := s23 _ _ u6
    have u9 := same_t s23 u9
    have u11 := s23 _ _ u11
    have u12 := same_t s23 u12
    have u14 := same_t s23 u14
    have u15 := same_t s23 u15
    have u16 := same_t s23 u16
    have u19 := s23 _ _ u19
    have u21 := s23 _ _ u21
    walk_at "s"
    refine ⟨show 2 ≤ sizeLine by decide +kernel, fun q24 m24 => ?_⟩
    have s24 : Same A23 _ := Same.newT (o := .tup [.ref q23, .ref t]) m24
    have u24 : upd A23 q24 (.tup [.ref q23, .ref t]) q24 = some (.tup [.ref q23, .ref t]) := upd_same
    generalize upd A23 q24 (.tup [.ref q23, .ref t]) = A24 at s24 u24
    have a24 := Same.trans a23 s24
    have F1 := NoV.same F1 s24
    have F3 := NoV.same F3 s24
    have F4 := NoV.same F4 s24
    have F5 := NoV.same F5 s24
    have F7 := NoV.same F7 s24
    have F10 := NoV.same F10 s24
    have F17 := NoV.same F17 s24
    have F18 := NoV.same F18 s24
    have F20 := NoV.same F20 s24
    have F22 := NoV.same F22 s24
    have u2 := s24 _ _ u2
    have u6 := s24 _ _ u6
    have u9 := same_t s24 u9
    have u11 := s24 _ _ u11
    have u12 := same_t s24 u12
    have u14 := same_t s24 u14
    have u15 := same_t s24 u15
    have u16 := same_t s24 u16
    have u19 := s24 _ _ u19
    have u21 := s24 _ _ u21
    have u23 := s24 _ _ u23
    have F24 : NoV K A24 (.ref q24) := ⟨_, .dp (.tup (.inl (.inl u24)) (.cons (.tup (.inl (.inl u23)) (.cons (.int m) .nil)) (.cons (dp_row a24 ht4) .nil))), no_ix rfl⟩
    walk_at "s"
    refine ⟨show 6 ≤ sizeLine by decide +kernel, fun q25 m25 => ?_⟩
    have s25 : Same A24 _ := Same.newT (o := .lst [.ref q17, .ref q18, .ref q20, .ref q22, .str "00", .ref q24]) m25
    have u25 : upd A24 q25 (.lst [.ref q17, .ref q18, .ref q20, .ref q22, .str "00", .ref q24]) q25 = some (.lst [.ref q17, .ref q18, .ref q20, .ref q22, .str "00", .ref q24]) := upd_same
    generalize upd A24 q25 (.lst [.ref q17, .ref q18, .ref q20, .ref q22, .str "00", .ref q24]) = A25 at s25 u25
    have a25 := Same.trans a24 s25
    have F1 := NoV.same F1 s25
    have F3 := NoV.same F3 s25
    have F4 := NoV.same F4 s25
    have F5 := NoV.same F5 s25
    have F7 := NoV.same F7 s25
    have F10 := NoV.same F10 s25
    have F17 := NoV.same F17 s25
    have F18 := NoV.same F18 s25
    have F20 := NoV.same F20 s25
    have F22 := NoV.same F22 s25
    have F24 := NoV.same F24 s25
    have u2 := s25 _ _ u2
    have u6 := s25 _ _ u6
    have u9 := same_t s25 u9
    have u11 := s25 _ _ u11
    have u12 := same_t s25 u12
    have u14 := same_t s25 u14
    have u15 := same_t s25 u15
    have u16 := same_t s25 u16
    have u19 := s25 _ _ u19
    have u21 := s25 _ _ u21
    have u23 := s25 _ _ u23
    walk_at "s"
    refine .inr (.inr ⟨q11, q25, _, _, rfl, rfl, u11, u25, show 15 ≤ sizeLine by decide +kernel, fun q26 m26 => ?_⟩)
    simp only [List.cons_append, List.nil_append]
    have s26 : Same A25 _ := Same.newT (o := .lst [.ref q1, .ref q3, .ref q4, .ref q5, .ref q7, .non, .ref t, .int m, .ref q10, .ref q17, .ref q18, .ref q20, .ref q22, .str "00", .ref q24]) m26
    have u26 : upd A25 q26 (.lst [.ref q1, .ref q3, .ref q4, .ref q5, .ref q7, .non, .ref t, .int m, .ref q10, .ref q17, .ref q18, .ref q20, .ref q22, .str "00", .ref q24]) q26 = some (.lst [.ref q1, .ref q3, .ref q4, .ref q5, .ref q7, .non, .ref t, .int m, .ref q10, .ref q17, .ref q18, .ref q20, .ref q22, .str "00", .ref q24]) := upd_same
    generalize upd A25 q26 (.lst [.ref q1, .ref q3, .ref q4, .ref q5, .ref q7, .non, .ref t, .int m, .ref q10, .ref q17, .ref q18, .ref q20, .ref q22, .str "00", .ref q24]) = A26 at s26 u26
    have a26 := Same.trans a25 s26
    have F1 := NoV.same F1 s26
    have F3 := NoV.same F3 s26
    have F4 := NoV.same F4 s26
    have F5 := NoV.same F5 s26
    have F7 := NoV.same F7 s26
    have F10 := NoV.same F10 s26
    have F17 := NoV.same F17 s26
    have F18 := NoV.same F18 s26
    have F20 := NoV.same F20 s26
    have F22 := NoV.same F22 s26
    have F24 := NoV.same F24 s26
    have u2 := s26 _ _ u2
    have u6 := s26 _ _ u6
    have u9 := same_t s26 u9
    have u11 := s26 _ _ u11
    have u12 := same_t s26 u12
    have u14 := same_t s26 u14
    have u15 := same_t s26 u15
    have u16 := same_t s26 u16
    have u19 := s26 _ _ u19
    have u21 := s26 _ _ u21
    have u23 := s26 _ _ u23
    have AF : ∀ x ∈ ([.ref q1, .ref q3, .ref q4, .ref q5, .ref q7, .non, .ref t, .int m, .ref q10, .ref q17, .ref q18, .ref q20, .ref q22, .str "00", .ref q24] : List V), NoV K A26 x := (allV F1 (allV F3 (allV F4 (allV F5 (allV F7 (allV ⟨_, .dp .non, rfl⟩ (allV ⟨_, .dp (dp_row a26 ht4), no_row⟩ (allV ⟨_, .dp (.int m), rfl⟩ (allV F10 (allV F17 (allV F18 (allV F20 (allV F22 (allV ⟨_, .dp (.str _), rfl⟩ (allV F24 allV0)))))))))))))))
    generalize ([.ref q1, .ref q3, .ref q4, .ref q5, .ref q7, .non, .ref t, .int m, .ref q10, .ref q17, .ref q18, .ref q20, .ref q22, .str "00", .ref q24] : List V) = LL at u26 AF
    clear F1 F3 F4 F5 F7 F10 F17 F18 F20 F22 F24 u2 u6 u9 u11 u12 u14 u15 u16 u19 u21 u23 s1 s2 s3 s4 s5 s6 s7 s8 s9 s10 s11 s12 s13 s14 s15 s16 s17 s18 s19 s20 s21 s22 s23 s24 s25 s26
    walk_at "s"
    refine ⟨⟨_, SqL.of u26⟩, ?_⟩
    refine fgL (xs := LL) (fun i σ H' => Same A26 H' ∧ ∃ v7 : Option V, σ = [some (.ref a), some (.ref v), some (.int m), some (.ref t), some x, some (.int at0), some (.ref q26), v7]) ⟨Same.refl _, _, rfl⟩ ?_ ?_ ?_
    · rintro i σ H' _ ⟨e, _⟩
      exact SqL.of (e _ _ u26)
    · rintro i y σ H' hy ⟨e, v7, rfl⟩
      walk_at "s"
      obtain ⟨d, hd, bd⟩ := AF y (List.mem_of_getElem? hy)
      refine ⟨y, d, rfl, hd.same e, fun H2 e2 => ?_⟩
      rw [bd]
      walk_at "s"
      refine w_nisS ?_
      walk_at "s"
      exact ⟨Same.trans e e2, _, rfl⟩
    · rintro σ H' ⟨e, v7, rfl⟩
      have B1 := B0.same (Same.trans a26 e)
      clear e AF u26 a26 B0
      walk_at "s"
      refine ⟨B1.tb, fun H1 e1 T1 => ?_⟩
      have B2 := B1.extN e1 T1
      refine w_tref ?_
      walk_at "s"
      obtain ⟨d1, h1, b1⟩ := strange (K := K) hxm B2.hp
      refine ⟨x, .ref t, d1, .tuple (dInts ns), rfl, h1, .dp (dp_row (Same.refl _) B2.ht), ?_, .inl ⟨mv_ix b1, fun dd H2 s2 nd => ⟨AA.InvalidView, dd, .int 0, rfl, rfl, hh, upd_same, ?_⟩⟩⟩
      · show (dInts ns).length ≤ 100000
        unfold dInts
        rw [List.length_map]
        omega
      have B3 := (B2.same s2).same (Same.newT (o := .xd [("at", .int 0)]) nd)
      generalize upd H2 dd (.xd [("at", .int 0)]) = H3 at B3
      clear B1 B2 h1 s2 nd e1 T1
      walk_at "s"
      refine w_iteN (fun z => absurd rfl z) (fun _ => ?_)
      walk_at "s"
      refine ⟨B3.tb, fun H4 e4 T4 => ?_⟩
      have B4 := B3.extN e4 T4
      refine w_tref ?_
      walk_at "s"
      refine ⟨show 5 ≤ sizeLine by decide +kernel, fun r1 n1 => ?_⟩
      have B5 := B4.same (Same.newT (o := .lst [.int 0, .int 1, .int 0, .int 1, .int 0]) n1)
      have k5 : upd H4 r1 (.lst [.int 0, .int 1, .int 0, .int 1, .int 0]) r1 = some (.lst [.int 0, .int 1, .int 0, .int 1, .int 0]) := upd_same
      generalize upd H4 r1 (.lst [.int 0, .int 1, .int 0, .int 1, .int 0]) = H5 at B5 k5
      walk_at "s"
      refine ⟨.int m, .ref r1, .int m, .list (dInts [0, 1, 0, 1, 0]), rfl, .int m, .dp (.lst (SqL.of k5) (dp_ints [0, 1, 0, 1, 0])), show 5 ≤ 100000 by decide, .inl ⟨rfl, fun dd H6 s6 nd => ⟨AA.InvalidView, dd, .int 0, rfl, rfl, hh, upd_same, ?_⟩⟩⟩
      have B6 := (B5.same s6).same (Same.newT (o := .xd [("at", .int 0)]) nd)
      generalize upd H6 dd (.xd [("at", .int 0)]) = H7 at B6
      clear B3 B4 B5 k5 s6 nd e4 T4 n1
      walk_at "s"
      refine w_iteN (fun z => absurd rfl z) (fun _ => ?_)
      walk_at "s"
      refine ⟨B6.tb, fun H8 e8 T8 => ?_⟩
      have B8 := B6.extN e8 T8
      refine w_tref ?_
      walk_at "s"
      refine fun dk ndk => ?_
      have o8 := B8.d.off ndk
      have B9 := B8.same (Same.newT (o := .dK []) ndk)
      have k9 : upd H8 dk (.dK []) dk = some (.dK []) := upd_same
      generalize upd H8 dk (.dK []) = H9 at B9 k9
      walk_at "s"
      refine ⟨show 5 ≤ sizeLine by decide +kernel, fun r2 n2 => ?_⟩
      have o9 := B9.d.off n2
      have s10 : Same H9 _ := Same.newT (o := .lst [.non, .int 3, .str "01", .ref dk, .bl true]) n2
      have B10 := B9.same s10
      have k10 := s10 _ _ k9
      have j10 : upd H9 r2 (.lst [.non, .int 3, .str "01", .ref dk, .bl true]) r2 = some (.lst [.non, .int 3, .str "01", .ref dk, .bl true]) := upd_same
      generalize upd H9 r2 (.lst [.non, .int 3, .str "01", .ref dk, .bl true]) = H10 at B10 k10 j10
      walk_at "s"
      refine ⟨a, l, r2, _, rfl, B10.d, SqL.of j10, o9.1, o9.2, show 0 < 5 by decide, show 5 ≤ 2 ^ 24 by decide, fun y hy H11 D11 f11 => ?_⟩
      have B11 := B10.draw D11 f11
      obtain ⟨dy, hdy, sy, ly⟩ := noseq (K := K) hy (f11 _ _ k10 o8.1 o8.2)
      walk_at "s"
      refine ⟨.int m, y, .int m, dy, rfl, .int m, hdy, ly, .inl ⟨mv_seq sy, fun dd H12 s12 nd => ⟨AA.InvalidView, dd, .int 0, rfl, rfl, hh, upd_same, ?_⟩⟩⟩
      have B13 := (B11.same s12).same (Same.newT (o := .xd [("at", .int 0)]) nd)
      generalize upd H12 dd (.xd [("at", .int 0)]) = H13 at B13
      clear B6 B8 B9 B10 B11 k9 s10 k10 j10 D11 f11 hdy s12 nd e8 T8 n2 ndk hy
      walk_at "s"
      refine w_iteN (fun z => absurd rfl z) (fun _ => ?_)
      walk_at "s"
      refine ⟨B13.tb, fun H14 e14 T14 => ?_⟩
      have B14 := B13.extN e14 T14
      refine w_tref ?_
      walk_at "s"
      refine w_slT (.inl (.inl B14.ht)) (fun c1 H15 s15 S15 => ?_)
      have B15 := B14.same s15
      walk_at "s"
      refine ⟨c1, _, rfl, .inr S15, fun c2 n2 => ?_⟩
      obtain ⟨ms, ems, _⟩ := cut_map ns none (some at0)
      have lms := cut_len (ns.map V.int) none (some at0)
      rw [ems, List.length_map, List.length_map] at lms
      rw [ems]
      have B16 := B15.same (Same.newT (o := .lst (ms.map V.int)) n2)
      have k16 : upd H15 c2 (.lst (ms.map V.int)) c2 = some (.lst (ms.map V.int)) := upd_same
      generalize upd H15 c2 (.lst (ms.map V.int)) = H16 at B16 k16
      walk_at "s"
      refine ⟨show 1 ≤ sizeLine by decide +kernel, fun c3 n3 => ?_⟩
      have s17 : Same H16 _ := Same.newT (o := .lst [x]) n3
      have B17 := B16.same s17
      have k17 := s17 _ _ k16
      have j17 : upd H16 c3 (.lst [x]) c3 = some (.lst [x]) := upd_same
      generalize upd H16 c3 (.lst [x]) = H17 at B17 k17 j17
      walk_at "s"
      refine .inr (.inr ⟨c2, c3, _, _, rfl, rfl, k17, j17, ?_, fun c4 n4 => ?_⟩)
      · rw [List.length_map]
        exact Nat.le_of_lt (lt_size (by show ms.length + 1 ≤ 1000000; omega))
      have B18 := B17.same (Same.newT (o := .lst (ms.map V.int ++ [x])) n4)
      have k18 : upd H17 c4 (.lst (ms.map V.int ++ [x])) c4 = some (.lst (ms.map V.int ++ [x])) := upd_same
      generalize upd H17 c4 (.lst (ms.map V.int ++ [x])) = H18 at B18 k18
      obtain ⟨d18, h18, b18⟩ := strange (K := K) hxm B18.hp
      walk_at "s"
      refine ⟨rfl, rfl, .int m, .ref c4, .int m, .list (dInts ms ++ [d18]), rfl, .int m, .dp (.lst (SqL.of k18) (dp_app (dp_ints ms) (.cons h18 .nil))), ?_, .inl ⟨mv_app b18, fun dd H19 s19 nd => ⟨AA.InvalidView, dd, .int 0, rfl, rfl, hh, upd_same, ?_⟩⟩⟩
      · show (dInts ms ++ [d18]).length ≤ 100000
        unfold dInts
        rw [List.length_append, List.length_map]
        show ms.length + 1 ≤ 100000
        omega
      have B20 := (B18.same s19).same (Same.newT (o := .xd [("at", .int 0)]) nd)
      generalize upd H19 dd (.xd [("at", .int 0)]) = H20 at B20
      walk_at "s"
      exact q _ B20.d B20.tb B20.fr
end

end K02
set_option maxRecDepth 100000
set_option maxHeartbeats 4000000
set_option pp.maxSteps 300
namespace K02
open PySem L2 NL
local macro_rules | `(tactic| walk_at "s1") => `(tactic| with_reducible first
  | refine w_seq ?_ | refine w_asg ?_ | refine w_drop ?_ | refine w_ret ?_ | refine w_next ?_ | refine w_ifS ?_
  | refine w_c ?_ | refine w_op ?_ | refine w_un ?_ | refine w_test ?_ | refine w_B ?_ | refine w_bl ?_ | refine w_not ?_ | refine w_and ?_ | refine w_or ?_
  | refine w_andV ?_ | refine w_orV ?_ | refine w_notV ?_ | refine w_blP ?_ | refine w_if ?_ | refine w_nil ?_ | refine w_cons ?_ | refine w_call ?_ | refine w_callS ?_ | refine w_callW ?_
  | refine w_cb ?_ | refine w_tup ?_ | refine w_lst ?_ | refine w_par ?_ | refine w_two ?_ | refine w_addI ?_ | refine w_I0 ?_ | refine w_neg ?_ | refine w_eqI ?_ | refine w_neI ?_
  | refine w_absI ?_ | refine w_intI ?_ | refine w_sub ?_ | refine w_bm0 ?_ | refine w_bm ?_ | refine w_iteT ?_ | refine w_iteF ?_ | refine w_iteNF ?_ | refine w_iteNT ?_ | refine w_lcT ?_ | refine w_lcL ?_
  | refine w_ref ?_ | refine w_sl ?_ | refine w_npart ?_ | refine w_part ?_ | refine w_iv ?_ | refine w_rev ?_ | refine w_forL ?_ | refine w_forT ?_ | refine w_forR1 ?_ | refine w_one ?_ | refine w_g ?_
  | refine w_asgT ?_ | refine w_gcons ?_ | refine w_gnil ?_ | refine w_lcR1 ?_
  | refine w_var (by with_unfolding_all rfl) ?_)
local macro_rules | `(tactic| walk_at "s") => `(tactic| repeat (walk_at "s1"))

section
variable {P : Program} {w : World} {K : PySem.W.Frag} {mg : Str → Option Value} {base : Heap} {AA : Ad} {PT : Addr}
theorem one' {a b : List Int} (p : a.Perm b) (x : a.Pairwise (· ≤ ·)) (y : b.Pairwise (· ≤ ·)) : a = b := PySem.W.Srt.one a b p x y
theorem w_neSS {K : PySem.W.Frag} {H : Hp} {Q : VK} {x : Str} (h : Q (.bl false) H) : aNe K (.str x) (.str x) H Q := w_neS (by rw [decide_eq_true rfl]; exact h)
theorem dInts_inj {a b : List Int} (h : dInts a = dInts b) : a = b := by
  have := congrArg intsOf h
  rw [intsOf_d, intsOf_d] at this
  exact this
theorem view_ok {m : Int} {ns : List Int} (h0 : 0 ≤ m) (h1 : m < 4) (hx : ∀ x ∈ ns, 0 ≤ x ∧ x < 4) (hl : ns.length ≤ 4) (pw : ns.Pairwise (· ≤ ·)) : viewD 4 (.tuple [.int m, .tuple (dInts ns)]) = true := by
  have a : (dInts ns).all (ixD 4) = true := by
    rw [ix_ints, List.all_eq_true]
    intro x h
    rw [Bool.and_eq_true, decide_eq_true_eq, decide_eq_true_eq]
    exact hx x h
  show (ixD 4 (.int m) && rowD 4 (.tuple (dInts ns))) = true
  rw [row_sorted (List.Perm.refl ns) pw a, decide_eq_true hl]
  show ((decide (0 ≤ m) && decide (m < 4)) && true) = true
  rw [decide_eq_true h0, decide_eq_true h1]
  rfl
/-- what stands between the steps of a turn -/
structure St (a l PT : Addr) (H : Hp) : Prop where
  d : DealAt H a l
  t : LamX.Tabs (TB2 PT) H
theorem tupOff' {H : Hp} {a l c : Addr} {xs : List V} (d : DealAt H a l) (e : H c = some (.tup xs)) : c ≠ a ∧ c ≠ l := by
  obtain ⟨ne, ns, b, e1, e2, r⟩ := d
  constructor
  · rintro rfl
    rw [e] at e1
    cases e1
  · rintro rfl
    rw [e] at e2
    cases e2
theorem St.fr {a l PT : Addr} {H H' : Hp} (s : St a l PT H) (D : DealAt H' a l) (f : Fr a l H H') : St a l PT H' := ⟨D, s.d.tabs f s.t⟩
theorem St.same {a l PT : Addr} {H H' : Hp} (s : St a l PT H) (e : Same H H') : St a l PT H' := ⟨s.d.same e, s.t.ext e⟩
theorem St.keepT {a l PT c : Addr} {H H' : Hp} {xs : List V} (s : St a l PT H) (f : Fr a l H H') (e : H c = some (.tup xs)) : H' c = some (.tup xs) := s.d.keep f e fun _ z => by cases z
theorem cnt_show {ns : List Int} {g : Int → Bool} (h : ns.length ≤ 4) : (((ns.filter g).length : Nat) : Int).natAbs.log2 < 1920 := by
  have h1 := List.length_filter_le g ns
  refine small_show (n := 10) ?_ (by decide) (by decide)
  omega
def viewsTo (n k j : Nat) : List (Int × List Int) := (List.range j).flatMap fun (m : Nat) => (rowsN n k).map fun r => ((m : Int), r)
theorem viewsTo_len {n k j : Nat} (hn : n ≤ 4) (hk : k ≤ 4) (hj : j ≤ 4) : (viewsTo n k j).length ≤ 1024 := by
  have h : ∀ j, (viewsTo n k j).length = j * (rowsN n k).length := by
    intro j
    unfold viewsTo
    induction j with
    | zero => simp
    | succ j ih =>
      rw [List.range_succ, List.flatMap_append, List.length_append, ih, Nat.succ_mul]
      simp
  rw [h j]
  exact Nat.le_trans (Nat.mul_le_mul hj (rowsN_len hn hk)) (by decide)
theorem ViewAt.same {z : Int × List Int} {y : V} {H H' : Hp} (h : ViewAt z y H) (e : Same H H') : ViewAt z y H' := by
  obtain ⟨v, t, rfl, h1, h2⟩ := h
  exact ⟨v, t, rfl, e _ _ h1, e _ _ h2⟩
/-- a view as data -/
def vD (z : Int × List Int) : PyData := .tuple [.int z.1, .tuple (dInts z.2)]
theorem dp_views {K : PySem.W.Frag} {H : Hp} : ∀ {zs : List (Int × List Int)} {ys : List V}, Paired (fun z y => ViewAt z y H) zs ys → DpAll K H ys (zs.map vD)
  | _, _, .nil => .nil
  | _, _, .cons h t => by
    obtain ⟨v, u, rfl, h1, h2⟩ := h
    exact .cons (.tup (.inl (.inl h1)) (.cons (.int _) (.cons (.tup (.inl (.inl h2)) (dp_ints _)) .nil))) (dp_views t)
theorem rowsN_elem {n : Nat} (hn : n ≤ 4) : ∀ {k : Nat} {r : List Int}, r ∈ rowsN n k → ∀ x ∈ r, 0 ≤ x ∧ x < 4
  | 0, r, h, x, hx => by
    rw [List.mem_singleton.mp h] at hx
    cases hx
  | k + 1, r, h, x, hx => by
    obtain ⟨q, hq, h2⟩ := List.mem_flatMap.mp h
    obtain ⟨m, hm, rfl⟩ := List.mem_map.mp h2
    have hm2 := List.mem_range.mp (List.mem_filter.mp hm).1
    rcases List.mem_append.mp hx with hx | hx
    · exact rowsN_elem hn hq x hx
    · rw [List.mem_singleton.mp hx]
      omega
theorem okView {z : Int × List Int} (h0 : 0 ≤ z.1) (h1 : z.1 < 4) (hx : ∀ x ∈ z.2, 0 ≤ x ∧ x < 4) (hl : z.2.length ≤ 4) : OkD 282 2 (vD z) := by
  have r : OkD 140 1 (.tuple (dInts z.2)) := by
    have o := OkD.tup (w := 34) (p := 0) (ds := dInts z.2) fun d hd => by
      obtain ⟨i, hi, rfl⟩ := List.mem_map.mp hd
      have := hx i hi
      exact OkD.int this.1 (by omega)
    refine o.mono ?_ (Nat.le_refl _)
    unfold dInts
    rw [List.length_map]
    omega
  refine (OkD.tup (w := 140) (p := 1) (ds := [.int z.1, .tuple (dInts z.2)]) fun d hd => ?_).mono (Nat.le_refl _) (Nat.le_refl _)
  simp only [List.mem_cons, List.not_mem_nil, or_false] at hd
  rcases hd with rfl | rfl
  · exact (OkD.int h0 (by omega)).mono (by decide) (by decide)
  · exact r
theorem mv_ok {m : Int} {ns : List Int} {r : PyData} (h0 : 0 ≤ m) (h1 : m < 4) (hx : ∀ x ∈ ns, 0 ≤ x ∧ x < 4) (hl : ns.length ≤ 4) (hr : r = .list (dInts ns) ∨ r = .tuple (dInts ns)) : mvD (.int m) r = true := by
  have e : seqD r = true ∧ elemsD r = dInts ns := by rcases hr with rfl | rfl <;> exact ⟨rfl, rfl⟩
  have a : (dInts ns).all (ixD 4) = true := by
    rw [ix_ints, List.all_eq_true]
    intro x h
    rw [Bool.and_eq_true, decide_eq_true_eq, decide_eq_true_eq]
    exact hx x h
  unfold mvD
  rw [e.1, e.2, a, decide_eq_true (p := (dInts ns).length ≤ 4) (by unfold dInts; rw [List.length_map]; exact hl)]
  show (true && true && true && (decide (0 ≤ m) && decide (m < 4))) = true
  rw [decide_eq_true h0, decide_eq_true h1]
  rfl
def spLaw (K : PySem.W.Frag) (PT : Addr) : Sp := fun vs H Q _ => ∃ (p : Addr) (ns : List Int), vs = [.ref p] ∧ SqL K H p (ns.map V.int) ∧ H PT = some (.tbl #[]) ∧ ∀ H', Q (.bl true) H'
theorem ok_law (T : Txt P K mg AA) (Dl : Def K mg "law" s_law ["_law_script"]) (O__law_bad_right : KeptG P w K mg base CX0 9 "_law_bad_right" s__law_bad_right ["_law_deal", "_law_view"] (spBad K PT)) :
    KeptG P w K mg base CX0 10 "law" s_law ["_law_script"] (spLaw K PT) := by
  have O_is_view := ok_is_view (w := w) (base := base) T
  have O_made_view := ok_made_view (w := w) (base := base) T
  have O_seen := ok_seen (w := w) (base := base) T
  have O_all_views := ok_all_views (w := w) (base := base) T
  have O__law_draw := ok__law_draw (w := w) (base := base) T
  have O__law_any := ok__law_any (w := w) (base := base) T
  have O__law_other := ok__law_other (w := w) (base := base) T O__law_any
  have O__law_mixed := ok__law_mixed (w := w) (base := base) T O__law_any
  have O__law_rows := ok__law_rows (w := w) (base := base) T
  refine keepG Dl sc_law (fun vs H Q E h => ?_) (fun f cdv A outer s H vs Q E hgd hr h => ?_)
  · obtain ⟨p, ns, rfl, _⟩ := h
    rfl
  · obtain ⟨p, ns, rfl, S, ht, q⟩ := h
    refine ⟨_, (pss_cons (ps_asg (pk_call O__law_draw (hr.mono (by decide)) (pa_cons (pv 0) (pa_cons pe_int pa_nil))) (pg_name (i := 1) sc_law.nd rfl (by first | exact Or.inl rfl | exact Or.inr rfl)))
      (pss_cons (ps_for PassesOwn.never rfl (pi_range1 rfl T.n_range (pa_cons pe_int pa_nil)) (pg_name (i := 2) sc_law.nd rfl (by first | exact Or.inl rfl | exact Or.inr rfl))
        (pss_cons (ps_asg (pe_op oAdd pe_int (pk_call O__law_any (hr.mono (by decide)) (pa_cons (pv 1) (pa_cons pe_int pa_nil)))) (pg_name (i := 3) sc_law.nd rfl (by first | exact Or.inl rfl | exact Or.inr rfl)))
      (pss_cons (ps_asg (pk_call O__law_other (hr.mono (by decide)) (pa_cons (pv 1) (pa_cons (pv 3) (pa_cons pe_non pa_nil)))) (pg_name (i := 4) sc_law.nd rfl (by first | exact Or.inl rfl | exact Or.inr rfl)))
      (pss_cons (ps_asg (pk_call O__law_mixed (hr.mono (by decide)) (pa_cons (pv 1) (pa_cons (pe_ix ix_seq (pv 4) pe_int (fun _ _ => rfl)) pa_nil))) (pg_name (i := 5) sc_law.nd rfl (by first | exact Or.inl rfl | exact Or.inr rfl)))
      (pss_cons (ps_asg (pe_callTy cList (by rfl) T.n_list (by decide +kernel) (pa_cons (pv 5) pa_nil)) (pg_name (i := 6) sc_law.nd rfl (by first | exact Or.inl rfl | exact Or.inr rfl)))
      (pss_cons (ps_if (PW.pt (pw_or (pt_cmpR (oNe (ru64 hr)) (pe_callB (call_repr hgd (ru64 hr)) (by rfl) T.n_repr (by decide +kernel) (pa_cons (pk_callL O_made_view (hr.mono (by decide)) (pa_cons (pe_ix ix_seq (pv 4) pe_int (fun _ _ => rfl)) (pa_cons (pv 5) pa_nil))) pa_nil)) (pe_callB (call_repr hgd (ru64 hr)) (by rfl) T.n_repr (by decide +kernel) (pa_cons (pv 4) pa_nil)) (nomark _)) (pw_or1 (pt_cmpR (oNe (ru64 hr)) (pe_callB (call_repr hgd (ru64 hr)) (by rfl) T.n_repr (by decide +kernel) (pa_cons (pk_callW0 (ks := ["neighbours", "mode"]) (idx := [1, 0]) O_made_view passL (fun _ _ _ _ _ _ us ws h1 h2 => match us, ws, h1, h2 with | [], [_, _], _, _ => rfl) (hr.mono (by decide)) (pk_cons (pe_callTy cTuple (by rfl) T.n_tuple (by decide +kernel) (pa_cons (pv 5) pa_nil)) (pk_cons (pe_ix ix_seq (pv 4) pe_int (fun _ _ => rfl)) pk_nil))) pa_nil)) (pe_callB (call_repr hgd (ru64 hr)) (by rfl) T.n_repr (by decide +kernel) (pa_cons (pv 4) pa_nil)) (nomark _)))))
        (pss_one (ps_ret pe_bl)) pss_nil)
      (pss_cons (ps_if (PW.pt (pw_or (pt_cmpR (oNe (ru64 hr)) (pv 5) (pv 6) (nomark _)) (pw_or (pt_cmpR oNis (pk_call O_is_view (hr.mono (by decide)) (pa_cons (pv 4) pa_nil)) pe_bl (nomark _)) (pw_or1 (pt_not (pt_val (pk_callG O__law_bad_right hgd (hr.mono (by decide)) (pa_cons (pv 1) (pa_cons (pv 4) pa_nil)))))))))
        (pss_one (ps_ret pe_bl)) pss_nil)
      (pss_cons (ps_for PassesOwn.never rfl (pi_range1 rfl T.n_range (pa_cons pe_int pa_nil)) (pg_name (i := 7) sc_law.nd rfl (by first | exact Or.inl rfl | exact Or.inr rfl))
        (pss_one (ps_if (pt_cmpR (oNe (ru64 hr)) (pe_callB (call_repr hgd (ru64 hr)) (by rfl) T.n_repr (by decide +kernel) (pa_cons (pk_call O_seen (hr.mono (by decide)) (pa_cons (pv 4) (pa_cons (pv 7) pa_nil))) pa_nil)) (pe_callB (call_repr hgd (ru64 hr)) (by rfl) T.n_repr (by decide +kernel) (pa_cons (pe_callB cLen (by rfl) T.n_len PySem.boot_len (pa_cons (pe_lc (own := [("_law_one", 8)]) (g := gName 8) (by rfl) sc_law.nd (pi_list (pv 5)) (blkOk_by (own := [("_law_one", 8)]) (N := ["_law_script", "_law_deal", "_law_turn", "_law_kinds", "_law_view", "_law_row", "_law_kept", "_law_mode", "_law_one", "_law_many", "_law_due", "_law_line"]) (sc := defScope s_law) (by decide +kernel)) (fun _ _ _ _ _ => (pg_name (i := 8) sc_law.nd rfl (by first | exact Or.inl rfl | exact Or.inr rfl))) (fun _ _ _ _ _ => (pts_one (pt_cmpR (show OpR _ _ (aEq K) from (oEq (ru64 hr))) (pv 8) (pv 7) (nomark _)))) (fun _ _ _ _ _ => (pv 8))) pa_nil)) pa_nil)) (nomark _))
        (pss_one (ps_ret pe_bl)) pss_nil)))
      (pss_cons (ps_if (pt_cmpR (oNe (ru64 hr)) (pe_callB (call_repr hgd (ru64 hr)) (by rfl) T.n_repr (by decide +kernel) (pa_cons (pk_callW0 (ks := ["mode", "view"]) (idx := [1, 0]) O_seen pass0 (fun _ _ _ _ _ _ us ws h1 h2 => match us, ws, h1, h2 with | [], [_, _], _, _ => rfl) (hr.mono (by decide)) (pk_cons (pe_ix ix_seq (pv 4) pe_int (fun _ _ => rfl)) (pk_cons (pv 4) pk_nil))) pa_nil)) (pe_callB (call_repr hgd (ru64 hr)) (by rfl) T.n_repr (by decide +kernel) (pa_cons (pe_callB cLen (by rfl) T.n_len PySem.boot_len (pa_cons (pe_lc (own := [("_law_one", 8)]) (g := gName 8) (by rfl) sc_law.nd (pi_list (pv 5)) (blkOk_by (own := [("_law_one", 8)]) (N := ["_law_script", "_law_deal", "_law_turn", "_law_kinds", "_law_view", "_law_row", "_law_kept", "_law_mode", "_law_one", "_law_many", "_law_due", "_law_line"]) (sc := defScope s_law) (by decide +kernel)) (fun _ _ _ _ _ => (pg_name (i := 8) sc_law.nd rfl (by first | exact Or.inl rfl | exact Or.inr rfl))) (fun _ _ _ _ _ => (pts_one (pt_cmpR (show OpR _ _ (aEq K) from (oEq (ru64 hr))) (pv 8) (pe_ix (show IxR _ (rIx K) from ix_seq) (pv 4) pe_int (fun _ _ => rfl)) (nomark _)))) (fun _ _ _ _ _ => (pv 8))) pa_nil)) pa_nil)) (nomark _))
        (pss_one (ps_ret pe_bl)) pss_nil)
      (pss_cons (ps_asg (pk_call O__law_any (hr.mono (by decide)) (pa_cons (pv 1) (pa_cons pe_int pa_nil))) (pg_name (i := 9) sc_law.nd rfl (by first | exact Or.inl rfl | exact Or.inr rfl)))
      (pss_cons (ps_asg (pe_lst pa_nil) (pg_name (i := 10) sc_law.nd rfl (by first | exact Or.inl rfl | exact Or.inr rfl)))
      (pss_cons (ps_for PassesOwn.never rfl (pi_range1 rfl T.n_range (pa_cons (pv 3) pa_nil)) (pg_name (i := 7) sc_law.nd rfl (by first | exact Or.inl rfl | exact Or.inr rfl))
        (pss_one (ps_asg (pe_op oAdd (pv 10) (pe_lc (own := [("_law_line", 11)]) (g := gName 11) (tt := tYes) (by rfl) sc_law.nd (pi_list (pk_call O__law_rows (hr.mono (by decide)) (pa_cons (pv 3) (pa_cons (pv 9) pa_nil)))) (blkOk_by (own := [("_law_line", 11)]) (N := ["_law_script", "_law_deal", "_law_turn", "_law_kinds", "_law_view", "_law_row", "_law_kept", "_law_mode", "_law_one", "_law_many", "_law_due", "_law_line"]) (sc := defScope s_law) (by decide +kernel)) (fun _ _ _ _ _ => (pg_name (i := 11) sc_law.nd rfl (by first | exact Or.inl rfl | exact Or.inr rfl))) (fun _ _ _ _ _ => pts_nil) (fun _ _ _ _ _ => (pe_tup (pa_cons (pv 7) (pa_cons (pv 11) pa_nil)))))) (pg_name (i := 10) sc_law.nd rfl (by first | exact Or.inl rfl | exact Or.inr rfl)))))
      (pss_one (ps_if (PW.pt (pw_or (pt_cmpR (oNe (ru64 hr)) (pe_callB (call_repr hgd (ru64 hr)) (by rfl) T.n_repr (by decide +kernel) (pa_cons (pk_call O_all_views (hr.mono (by decide)) (pa_cons (pv 3) (pa_cons (pv 9) pa_nil))) pa_nil)) (pe_callB (call_repr hgd (ru64 hr)) (by rfl) T.n_repr (by decide +kernel) (pa_cons (pe_callTy cTuple (by rfl) T.n_tuple (by decide +kernel) (pa_cons (pv 10) pa_nil)) pa_nil)) (nomark _)) (pw_or1 (pt_cmpR (oNe (ru64 hr)) (pe_callB (call_repr hgd (ru64 hr)) (by rfl) T.n_repr (by decide +kernel) (pa_cons (pk_callW0 (ks := ["degree", "modes"]) (idx := [1, 0]) O_all_views pass0 (fun _ _ _ _ _ _ us ws h1 h2 => match us, ws, h1, h2 with | [], [_, _], _, _ => rfl) (hr.mono (by decide)) (pk_cons (pv 9) (pk_cons (pv 3) pk_nil))) pa_nil)) (pe_callB (call_repr hgd (ru64 hr)) (by rfl) T.n_repr (by decide +kernel) (pa_cons (pe_callTy cTuple (by rfl) T.n_tuple (by decide +kernel) (pa_cons (pv 10) pa_nil)) pa_nil)) (nomark _)))))
        (pss_one (ps_ret pe_bl)) pss_nil))))))))))))))
      (pss_one (ps_ret pe_bl)))), ?_⟩
    walk_at "s"
    refine ⟨p, ns, 2, rfl, S, by decide, by decide, fun a l H1 na nl D1 s1 => ?_⟩
    have S1 : St a l PT H1 := ⟨D1, fun x hx => by
      rw [List.mem_singleton.mp hx]
      exact LamX.TabS.nil (s1 _ _ ht)⟩
    clear S ht s1 na nl D1
    walk_at "s"
    refine ⟨by decide, by decide, ?_⟩
    refine fgR (fun i σ H' => ∃ v0 v2 v3 v4 v5 v6 v7 v8 v9 v10 v11 : Option V, σ = [v0, some (.ref a), v2, v3, v4, v5, v6, v7, v8, v9, v10, v11] ∧ St a l PT H') ⟨_, _, _, _, _, _, _, _, _, _, _, rfl, S1⟩ ?_ ?_
    · clear S1 H1
      rintro i σ H1 _ ⟨v0, v2, v3, v4, v5, v6, v7, v8, v9, v10, v11, rfl, S1⟩
      walk_at "s"
      refine ⟨a, l, 4, rfl, by decide, by decide, S1.d, fun kd H2 k0 k1 D2 f2 => ?_⟩
      have S2 := S1.fr D2 f2
      walk_at "s"
      refine ⟨a, l, 1 + kd, .non, rfl, D2, by omega, by omega, .inl rfl, fun p t m ns H3 D3 f3 m0 m1 hx pw hl _ hp ht => ?_⟩
      have S3 := S2.fr D3 f3
      have D3' := D3
      have hl := hl rfl
      walk_at "s"
      refine w_ixT (.inl (.inl hp)) rfl ?_
      walk_at "s"
      refine ⟨a, l, t, ns, rfl, D3, .inr (.inl (.inl ht)), by omega, fun f1 ns1 H4 D4 f4 nf1 pm1 k4 => ?_⟩
      have S4 := S3.fr D4 f4
      have hp4 := S3.keepT f4 hp
      have ht4 := S3.keepT f4 ht
      walk_at "s"
      refine ⟨f1, _, rfl, .inl (SqL.of k4), fun g1 ng1 => ?_⟩
      have s5 : Same H4 _ := Same.newT (o := .lst (ns1.map V.int)) ng1
      have g5 : upd H4 g1 (.lst (ns1.map V.int)) g1 = some (.lst (ns1.map V.int)) := upd_same
      generalize upd H4 g1 (.lst (ns1.map V.int)) = H5 at s5 g5
      have S5 := S4.same s5
      have hp5 := s5 _ _ hp4
      have ht5 := s5 _ _ ht4
      have k5 := s5 _ _ k4
      have hx4 : ∀ x ∈ ns, 0 ≤ x ∧ x < 4 := fun x h => ⟨(hx x h).1, by have := (hx x h).2; omega⟩
      have hx1 : ∀ x ∈ ns1, 0 ≤ x ∧ x < 4 := fun x h => hx4 x (pm1.mem_iff.mp h)
      have okv := okView (z := (m, ns)) m0 (by omega) hx4 hl
      clear S1 S2 S3 S4 D2 D3 D4 f2 f3 f4 hp ht hp4 ht4 k4 s5
      walk_at "s"
      refine w_ixT (.inl (.inl hp5)) rfl ?_
      walk_at "s"
      refine ⟨.int m, .ref f1, .int m, .list (dInts ns1), rfl, .int m, .dp (.lst (SqL.of k5) (dp_ints ns1)), ?_, .inr ⟨mv_ok m0 (by omega) hx1 (by rw [pm1.length_eq]; exact hl) (.inl rfl), fun ms ms' p2 t2 H6 em pm2 pw2 e6 hp6 ht6 => ?_⟩⟩
      · show (dInts ns1).length ≤ 100000
        unfold dInts
        rw [List.length_map, pm1.length_eq]
        omega
      have ems : ms = ns1 := dInts_inj (a := ms) (b := ns1) em.symm
      subst ems
      have em2 : ms' = ns := one' (pm2.trans pm1) pw2 pw
      subst em2
      have d6 : Dp K H6 (.ref p2) (vD (m, ms')) := .tup (.inl (.inl hp6)) (.cons (.int m) (.cons (.tup (.inl (.inl ht6)) (dp_ints ms')) .nil))
      have DV : ∀ {H'}, Same H5 H' → Dp K H' (.ref p) (vD (m, ms')) := fun e => .tup (.inl (.inl (e _ _ hp5))) (.cons (.int m) (.cons (.tup (.inl (.inl (e _ _ ht5))) (dp_ints ms')) .nil))
      walk_at "s"
      refine w_rprO d6 (okv.mono (Nat.le_refl _) (by decide)) (by decide) ?_
      walk_at "s"
      refine w_rprO (DV e6) (okv.mono (Nat.le_refl _) (by decide)) (by decide) ?_
      refine w_neSS ?_
      walk_at "s"
      refine ⟨f1, _, rfl, .inl ⟨SqL.of (e6 _ _ k5), fun t7 nt7 => ?_⟩⟩
      have e7 := Same.trans e6 (Same.newT (o := .tup (ms.map V.int)) nt7)
      have k7 : upd H6 t7 (.tup (ms.map V.int)) t7 = some (.tup (ms.map V.int)) := upd_same
      generalize upd H6 t7 (.tup (ms.map V.int)) = H7 at e7 k7
      walk_at "s"
      refine w_ixT (.inl (.inl (e7 _ _ hp5))) rfl ?_
      walk_at "s"
      refine ⟨rfl, rfl, .int m, .ref t7, .int m, .tuple (dInts ms), rfl, .int m, .dp (.tup (.inl (.inl k7)) (dp_ints ms)), ?_, .inr ⟨mv_ok m0 (by omega) hx1 (by rw [pm1.length_eq]; exact hl) (.inr rfl), fun ls ls' p8 t8 H8 el pm8 pw8 e8 hp8 ht8 => ?_⟩⟩
      · show (dInts ms).length ≤ 100000
        unfold dInts
        rw [List.length_map, pm1.length_eq]
        omega
      have els : ls = ms := dInts_inj (a := ls) (b := ms) el.symm
      subst els
      have el2 : ls' = ms' := one' (pm8.trans pm1) pw8 pw
      subst el2
      have e8 := Same.trans e7 e8
      walk_at "s"
      refine w_rprO (.tup (.inl (.inl hp8)) (.cons (.int m) (.cons (.tup (.inl (.inl ht8)) (dp_ints ls')) .nil)) : Dp K H8 (.ref p8) (vD (m, ls'))) (okv.mono (Nat.le_refl _) (by decide)) (by decide) ?_
      walk_at "s"
      refine w_rprO (DV e8) (okv.mono (Nat.le_refl _) (by decide)) (by decide) ?_
      refine w_neSS ?_
      walk_at "s"
      refine w_neL (ns := ls) (ms := ls) (SqL.of (e8 _ _ k5)) (SqL.of (e8 _ _ g5)) ?_
      rw [decide_eq_true rfl]
      walk_at "s"
      refine ⟨.ref p, vD (m, ls'), rfl, .dp (DV e8), fun H9 e9 => ?_⟩
      have e9 := Same.trans e8 e9
      rw [show viewD 4 (vD (m, ls')) = true from view_ok m0 (by omega) hx4 hl pw]
      walk_at "s"
      refine w_nisS ?_
      walk_at "s"
      have S9 := S5.same e9
      refine ⟨a, l, p, t, m, ls', rfl, S9.d, S9.t, e9 _ _ hp5, e9 _ _ ht5, m0, by omega, hx4, hl, fun H10 D10 T10 keep => ?_⟩
      have off1 : f1 ≠ a ∧ f1 ≠ l := D3'.off nf1
      have nt : ∀ (xs : List V) (ps : Array Value), HO.tup xs ≠ .tbl ps := fun _ _ z => by cases z
      have nl' : ∀ (xs : List V) (ps : Array Value), HO.lst xs ≠ .tbl ps := fun _ _ z => by cases z
      have hpO : p ≠ a ∧ p ≠ l := tupOff' S9.d (e9 _ _ hp5)
      have htO : t ≠ a ∧ t ≠ l := tupOff' S9.d (e9 _ _ ht5)
      have hpX := keep p _ (e9 _ _ hp5) hpO.1 hpO.2 (nt _)
      have htX := keep t _ (e9 _ _ ht5) htO.1 htO.2 (nt _)
      have kX := keep f1 _ (e9 _ _ k5) off1.1 off1.2 (nl' _)
      have S10 : St a l PT H10 := ⟨D10, T10⟩
      clear e6 e7 e8 e9 keep DV hp5 ht5 k5 g5 S5 S9 D10 T10 k7 hp6 ht6 hp8 ht8 d6
      walk_at "s"
      refine ⟨by decide, by decide, ?_⟩
      refine fgR (fun i σ H' => ∃ w0 w2 w6 w7 w8 w9 w10 w11 : Option V, σ = [w0, some (.ref a), w2, some (.int (1 + kd)), some (.ref p), some (.ref f1), w6, w7, w8, w9, w10, w11] ∧ Same H10 H') ⟨_, _, _, _, _, _, _, _, rfl, Same.refl _⟩ ?_ ?_
      · rintro j σ H11 _ ⟨w0, w2, w6, w7, w8, w9, w10, w11, rfl, e11⟩
        walk_at "s"
        refine ⟨p, t, .int m, ls', 0 + (j : Int), rfl, .inl (.inl (e11 _ _ hpX)), .inl (.inl (e11 _ _ htX)), by omega, fun H12 e12 => ?_⟩
        have e12 := Same.trans e11 e12
        walk_at "s"
        refine w_rprI (cnt_show hl) ?_
        walk_at "s"
        refine ⟨⟨_, SqL.of (e12 _ _ kX)⟩, ?_⟩
        refine lc_lst_rel (fun x y _ => y = x) (isV (0 + (j : Int))) (SqL.of (e12 _ _ kX)) (lt_size (by rw [List.length_map, pm1.length_eq]; omega)) (fun _ => rfl) (fun _ _ _ _ _ _ r _ => r) (fun x hx => ?_) (fun x hx _ => ?_) (fun D13 H13 L => ?_)
        · intro H13 s13 Q1 q1
          obtain ⟨n, _, rfl⟩ := List.mem_map.mp hx
          walk_at "s"
          exact q1 _ (Same.refl _)
        · intro H13 s13 Q1 q1
          walk_at "s"
          exact q1 _ _ (Same.refl _) rfl
        rw [show (ls.map V.int).filter (isV (0 + (j : Int))) = (ls.filter fun i => decide (i = 0 + (j : Int))).map V.int by rw [List.filter_map]; rfl] at L
        obtain ⟨nw, sm, ys, e, pr⟩ := L
        have e2 : ys = _ := (paired_eq (f := fun x => x) pr).trans (List.map_id _)
        subst e2
        have e13 := Same.trans e12 sm
        walk_at "s"
        refine w_lenL (SqL.of e) ?_
        rw [List.length_map, (pm1.filter _).length_eq]
        walk_at "s"
        refine w_rprI (cnt_show hl) ?_
        refine w_neSS ?_
        walk_at "s"
        exact ⟨_, _, _, _, _, _, _, _, rfl, e13⟩
      · rintro σ H11 ⟨w0, w2, w6, w7, w8, w9, w10, w11, rfl, e11⟩
        walk_at "s"
        refine w_ixT (.inl (.inl (e11 _ _ hpX))) rfl ?_
        walk_at "s"
        refine ⟨rfl, rfl, p, t, .int m, ls', m, rfl, .inl (.inl (e11 _ _ hpX)), .inl (.inl (e11 _ _ htX)), by omega, fun H12 e12 => ?_⟩
        have e12 := Same.trans e11 e12
        walk_at "s"
        refine w_rprI (cnt_show hl) ?_
        walk_at "s"
        refine ⟨⟨_, SqL.of (e12 _ _ kX)⟩, ?_⟩
        refine lc_lst_rel (fun x y _ => y = x) (isV m) (SqL.of (e12 _ _ kX)) (lt_size (by rw [List.length_map, pm1.length_eq]; omega)) (fun _ => rfl) (fun _ _ _ _ _ _ r _ => r) (fun x hx => ?_) (fun x hx _ => ?_) (fun D13 H13 L => ?_)
        · intro H13 s13 Q1 q1
          obtain ⟨n, _, rfl⟩ := List.mem_map.mp hx
          walk_at "s"
          refine w_ixT (.inl (.inl (s13 _ _ (e12 _ _ hpX)))) rfl ?_
          walk_at "s"
          exact q1 _ (Same.refl _)
        · intro H13 s13 Q1 q1
          walk_at "s"
          exact q1 _ _ (Same.refl _) rfl
        rw [show (ls.map V.int).filter (isV m) = (ls.filter fun i => decide (i = m)).map V.int by rw [List.filter_map]; rfl] at L
        obtain ⟨nw, sm, ys, e, pr⟩ := L
        have e2 : ys = _ := (paired_eq (f := fun x => x) pr).trans (List.map_id _)
        subst e2
        have e13 := Same.trans e12 sm
        walk_at "s"
        refine w_lenL (SqL.of e) ?_
        rw [List.length_map, (pm1.filter _).length_eq]
        walk_at "s"
        refine w_rprI (cnt_show hl) ?_
        refine w_neSS ?_
        walk_at "s"
        have S13 := S10.same e13
        refine ⟨a, l, 5, rfl, by decide, by decide, S13.d, fun mn H14 n0 n1 D14 f14 => ?_⟩
        have S14 := S13.fr D14 f14
        walk_at "s"
        refine ⟨show 0 ≤ sizeLine by decide +kernel, fun Du nDu => ?_⟩
        have s15 : Same H14 _ := Same.newT (o := .lst []) nDu
        have k15 : upd H14 Du (.lst []) Du = some (.lst []) := upd_same
        generalize upd H14 Du (.lst []) = H15 at s15 k15
        have S15 := S14.same s15
        walk_at "s"
        have hkd : ∃ kn : Nat, 1 + kd = kn := ⟨(1 + kd).toNat, by omega⟩
        obtain ⟨kn, hkn⟩ := hkd
        have hmd : ∃ mN : Nat, mn = mN := ⟨mn.toNat, by omega⟩
        obtain ⟨mN, hmN⟩ := hmd
        subst hmN
        rw [hkn]
        have kn4 : kn ≤ 4 := by omega
        have mN4 : mN ≤ 4 := by omega
        refine ⟨by omega, by omega, ?_⟩
        rw [Int.toNat_natCast]
        refine fgR (fun i σ H' => ∃ (w0 w2 w7 w8 w11 w6 : Option V) (Du : Addr) (ys : List V), σ = [w0, some (.ref a), w2, some (.int kn), some (.ref p), some (.ref f1), w6, w7, w8, some (.int mN), some (.ref Du), w11] ∧ Same H15 H' ∧ H' Du = some (.lst ys) ∧
          Paired (fun z y => ViewAt z y H') (viewsTo kn mN i) ys) ⟨_, _, _, _, _, _, Du, [], rfl, Same.refl _, k15, .nil⟩ ?_ ?_
        · rintro q σ H16 hq ⟨w0, w2, w7, w8, w11, w6, Du, ys, rfl, e16, k16, pr16⟩
          walk_at "s"
          refine ⟨kn, mN, rfl, kn4, mN4, fun D7 ys7 H17 nD7 s17 k17 pr17 => ?_⟩
          walk_at "s"
          refine ⟨⟨_, SqL.of k17⟩, ?_⟩
          have mo : ∀ D2, MonoD (fun (z : Int × List Int) y H' => ViewAt z y H') D2 := fun D2 z y Ha Hb hl hr far => by
            obtain ⟨v, t, rfl, h1, h2⟩ := hr
            obtain ⟨acc, hl⟩ := hl
            exact ⟨v, t, rfl, far v _ (lst_ne hl h1) h1, far t _ (lst_ne hl h2) h2⟩
          have hlr := Paired.length pr17
          have hr256 := rowsN_len kn4 mN4
          refine lc_lst_inv (fun D2 i H' => LcG (fun (z : Int × List Int) y H' => ViewAt z y H') H17 D2 (((rowsN kn mN).take i).map fun r => ((q : Int), r)) H') (fun D2 nD => ⟨nD, Same.newT nD, [], upd_same, .nil⟩) (fun D2 i H' nD L => SqL.of (L.sm _ _ k17)) (fun _ => rfl) (fun D2 i x H' nD hx2 L => ?_) (fun D2 H18 nD L => ?_)
          · obtain ⟨r, hr2, t9, rfl, ht9⟩ := paired_get2 pr17 hx2
            walk_at "s"
            refine ⟨show 2 ≤ sizeLine by decide +kernel, fun v9 nv9 => ?_⟩
            have s9 : Same H' _ := Same.newT (o := .tup [.int (0 + (q : Int)), .ref t9]) nv9
            have k9 : upd H' v9 (.tup [.int (0 + (q : Int)), .ref t9]) v9 = some (.tup [.int (0 + (q : Int)), .ref t9]) := upd_same
            rw [take_snoc hr2, List.map_append]
            refine (L.keep (mo D2) s9).push (mo D2) ⟨v9, t9, rfl, ?_, s9 _ _ (L.sm _ _ ht9)⟩ (lt_size ?_)
            · rw [k9, Int.zero_add]
            · rw [List.length_map]
              exact Nat.le_trans (List.length_take_le' _ _) (Nat.le_trans hr256 (by decide))
          · rw [← hlr, List.take_length] at L
            obtain ⟨nw, sm, ws, ek, prk⟩ := L
            have e17 := Same.trans s17 sm
            have l1 := Paired.length pr16
            have l2 := Paired.length prk
            have l3 : (viewsTo kn mN q).length ≤ 1024 := viewsTo_len kn4 mN4 (by omega)
            rw [List.length_map] at l2
            walk_at "s"
            refine .inr (.inr ⟨Du, D2, ys, ws, rfl, rfl, e17 _ _ k16, ek, Nat.le_of_lt (lt_size (by omega)), fun N9 n9 => ?_⟩)
            have s9 : Same H18 _ := Same.newT (o := .lst (ys ++ ws)) n9
            walk_at "s"
            refine ⟨_, _, _, _, _, _, N9, ys ++ ws, rfl, Same.trans e16 (Same.trans e17 s9), upd_same, ?_⟩
            rw [show viewsTo kn mN (q + 1) = viewsTo kn mN q ++ (rowsN kn mN).map (fun r => ((q : Int), r)) by
              unfold viewsTo
              rw [List.range_succ, List.flatMap_append]
              simp]
            exact paired_app (Paired.mapP pr16 fun z y h => ViewAt.same h (Same.trans e17 s9)) (Paired.mapP prk fun z y h => ViewAt.same h s9)
        · rintro σ H16 ⟨w0, w2, w7, w8, w11, w6, Du, ys, rfl, e16, k16, pr16⟩
          walk_at "s"
          have okA : OkD (1024 * 283) 3 (.tuple ((viewsTo kn mN kn).map vD)) := by
            have o := OkD.tup (w := 282) (p := 2) (ds := (viewsTo kn mN kn).map vD) fun d hd => by
              obtain ⟨z, hz, rfl⟩ := List.mem_map.mp hd
              obtain ⟨q1, hq1, h2⟩ := List.mem_flatMap.mp hz
              obtain ⟨r, hr, rfl⟩ := List.mem_map.mp h2
              have hq1 := List.mem_range.mp hq1
              exact okView (z := ((q1 : Int), r)) (by show (0 : Int) ≤ q1; omega) (by show (q1 : Int) < 4; omega) (rowsN_elem kn4 hr) (by rw [rowsN_mem hr]; exact mN4)
            refine o.mono ?_ (Nat.le_refl _)
            rw [List.length_map]
            exact Nat.mul_le_mul_right _ (viewsTo_len kn4 mN4 kn4)
          have okA := okA.mono (Nat.le_refl _) (show 3 ≤ 59 by decide)
          refine ⟨kn, mN, rfl, kn4, mN4, fun tA ysA H17 s17 kA prA => ?_⟩
          walk_at "s"
          refine w_rprO (d := .tuple ((viewsTo kn mN kn).map vD)) (.tup (.inl (.inl kA)) (dp_views prA)) okA (by decide) ?_
          walk_at "s"
          refine ⟨Du, _, rfl, .inl ⟨SqL.of (s17 _ _ k16), fun tB nB => ?_⟩⟩
          have s18 := Same.trans s17 (Same.newT (o := .tup ys) nB)
          have kB : upd H17 tB (.tup ys) tB = some (.tup ys) := upd_same
          generalize upd H17 tB (.tup ys) = H18 at s18 kB
          walk_at "s"
          refine w_rprO (d := .tuple ((viewsTo kn mN kn).map vD)) (.tup (.inl (.inl kB)) (dp_views (Paired.mapP pr16 fun z y h => ViewAt.same h s18))) okA (by decide) ?_
          refine w_neSS ?_
          walk_at "s"
          refine ⟨rfl, rfl, kn, mN, rfl, kn4, mN4, fun tC ysC H19 s19 kC prC => ?_⟩
          walk_at "s"
          refine w_rprO (d := .tuple ((viewsTo kn mN kn).map vD)) (.tup (.inl (.inl kC)) (dp_views prC)) okA (by decide) ?_
          walk_at "s"
          refine ⟨Du, _, rfl, .inl ⟨SqL.of (s19 _ _ (s18 _ _ k16)), fun tE nE => ?_⟩⟩
          have s20 := Same.trans s18 (Same.trans s19 (Same.newT (o := .tup ys) nE))
          have kE : upd H19 tE (.tup ys) tE = some (.tup ys) := upd_same
          generalize upd H19 tE (.tup ys) = H20 at s20 kE
          walk_at "s"
          refine w_rprO (d := .tuple ((viewsTo kn mN kn).map vD)) (.tup (.inl (.inl kE)) (dp_views (Paired.mapP pr16 fun z y h => ViewAt.same h s20))) okA (by decide) ?_
          refine w_neSS ?_
          walk_at "s"
          exact ⟨_, _, _, _, _, _, _, _, _, _, _, rfl, S15.same (Same.trans e16 s20)⟩
    · rintro σ H' ⟨v0, v2, v3, v4, v5, v6, v7, v8, v9, v10, v11, rfl, S'⟩
      walk_at "s"
      exact q _
end
end K02
set_option maxRecDepth 100000
set_option maxHeartbeats 4000000
namespace K02
open PySem L2 NL
abbrev PP : Program := PySem.Challenge.pw_handalong_k02_views_in_order
theorem all_mk {w : World} {K : PySem.W.Frag} {h : Heap} {mg : Str → Option Value} {fa : Addr}
    {tokMOST_MODES : Tok}
    {tokMOST_NEIGHBOURS : Tok}
    {f0 : Addr} {oc0 kV0 dc0 pm0 ct0 : Value} {od0 an0 : Option Addr} {sl0 : Array (Option Value)}
    {cd0 : Value}
    {f1 : Addr} {oc1 kV1 dc1 pm1 ct1 : Value} {od1 an1 : Option Addr} {sl1 : Array (Option Value)}
    {cd1 : Value}
    {f2 : Addr} {oc2 kV2 dc2 pm2 ct2 : Value} {od2 an2 : Option Addr} {sl2 : Array (Option Value)}
    {cd2 : Value}
    {f3 : Addr} {oc3 kV3 dc3 pm3 ct3 : Value} {od3 an3 : Option Addr} {sl3 : Array (Option Value)}
    {cd3 : Value}
    {f4 : Addr} {oc4 kV4 dc4 pm4 ct4 : Value} {od4 an4 : Option Addr} {sl4 : Array (Option Value)}
    {cd4 : Value}
    {f5 : Addr} {oc5 kV5 dc5 pm5 ct5 : Value} {od5 an5 : Option Addr} {sl5 : Array (Option Value)}
    {cd5 : Value}
    {f6 : Addr} {oc6 kV6 dc6 pm6 ct6 : Value} {od6 an6 : Option Addr} {sl6 : Array (Option Value)}
    {cd6 : Value}
    {f7 : Addr} {oc7 kV7 dc7 pm7 ct7 : Value} {od7 an7 : Option Addr} {sl7 : Array (Option Value)}
    {cd7 : Value}
    {f8 : Addr} {oc8 kV8 dc8 pm8 ct8 : Value} {od8 an8 : Option Addr} {sl8 : Array (Option Value)}
    {cd8 : Value}
    {f9 : Addr} {oc9 kV9 dc9 pm9 ct9 : Value} {od9 an9 : Option Addr} {sl9 : Array (Option Value)}
    {cd9 : Value}
    {f10 : Addr} {oc10 kV10 dc10 pm10 ct10 : Value} {od10 an10 : Option Addr} {sl10 : Array (Option Value)}
    {cd10 : Value}
    {f11 : Addr} {oc11 kV11 dc11 pm11 ct11 : Value} {od11 an11 : Option Addr} {sl11 : Array (Option Value)}
    {cd11 : Value}
    {f12 : Addr} {oc12 kV12 dc12 pm12 ct12 : Value} {od12 an12 : Option Addr} {sl12 : Array (Option Value)}
    {cd12 : Value}
    {f13 : Addr} {oc13 kV13 dc13 pm13 ct13 : Value} {od13 an13 : Option Addr} {sl13 : Array (Option Value)}
    {cd13 : Value}
    {f14 : Addr} {oc14 kV14 dc14 pm14 ct14 : Value} {od14 an14 : Option Addr} {sl14 : Array (Option Value)}
    {cd14 : Value}
    {f15 : Addr} {oc15 kV15 dc15 pm15 ct15 : Value} {od15 an15 : Option Addr} {sl15 : Array (Option Value)}
    {cd15 : Value}
    {f16 : Addr} {oc16 kV16 dc16 pm16 ct16 : Value} {od16 an16 : Option Addr} {sl16 : Array (Option Value)}
    {cd16 : Value}
    {f17 : Addr} {oc17 kV17 dc17 pm17 ct17 : Value} {od17 an17 : Option Addr} {sl17 : Array (Option Value)}
    {cLw PT : Addr} {occ : Value} {odc : Option Addr} {slc : Array (Option Value)} {vsc : Array Value}
    {f18 : Addr} {oc18 kV18 dc18 pm18 ct18 : Value} {od18 an18 : Option Addr} {sl18 : Array (Option Value)}
    {cd18 : Value}
    {CNetError : Addr}
    {CInvalidView : Addr}
    {IeInvalidView cceInvalidView cdaeInvalidView NeInvalidView : Addr} {nmeInvalidView qeInvalidView fileeInvalidView : Str} {bseInvalidView bmeInvalidView subeInvalidView : List Value} {sneInvalidView : List Str} {abeInvalidView : Bool} {coleInvalidView : Option Bool} {ddeInvalidView odeInvalidView aneInvalidView cddeInvalidView cldeInvalidView : Option Addr} {m0eInvalidView m1eInvalidView m2eInvalidView m3eInvalidView m5eInvalidView : Option Value} {oceInvalidView dceInvalidView pmeInvalidView cteInvalidView ccleInvalidView cleInvalidView : Value} {osleInvalidView ccseInvalidView csleInvalidView : Array (Option Value)} {vseInvalidView : Array Value} {tfeInvalidView : Tok}
    (X : K.In h) (G : h.Ns mainGlobals mg) (hfa : mg "law" = some (.ref fa))
    (z_abs : PySem.W.nsIn K mainGlobals "abs" = some none)
    (z_all : PySem.W.nsIn K mainGlobals "all" = some none)
    (z_bool : PySem.W.nsIn K mainGlobals "bool" = some none)
    (z_int : PySem.W.nsIn K mainGlobals "int" = some none)
    (z_isinstance : PySem.W.nsIn K mainGlobals "isinstance" = some none)
    (z_len : PySem.W.nsIn K mainGlobals "len" = some none)
    (z_list : PySem.W.nsIn K mainGlobals "list" = some none)
    (z_range : PySem.W.nsIn K mainGlobals "range" = some none)
    (z_repr : PySem.W.nsIn K mainGlobals "repr" = some none)
    (z_sorted : PySem.W.nsIn K mainGlobals "sorted" = some none)
    (z_tuple : PySem.W.nsIn K mainGlobals "tuple" = some none)
    (q_MOST_MODES : PySem.W.nsIn K mainGlobals "MOST_MODES" = some (some (.int 4 tokMOST_MODES)))
    (q_MOST_NEIGHBOURS : PySem.W.nsIn K mainGlobals "MOST_NEIGHBOURS" = some (some (.int 4 tokMOST_NEIGHBOURS)))
    (a0 : PySem.W.nsIn K mainGlobals "is_integer" = some (some (.ref f0)))
    (l0 : K.lookup f0 = some ⟨oc0, od0, .func (PySem.W.fnOf "is_integer" "is_integer" (defArgs s_is_integer) (defBody s_is_integer) (defScope s_is_integer) .none kV0 dc0 pm0 an0 cd0 ct0), sl0⟩)
    (cd_0 : PySem.W.codeIn K cd0 "is_integer" = true)
    (k0 : PySem.W.keepIn K (.ref f0) = true)
    (a1 : PySem.W.nsIn K mainGlobals "is_number" = some (some (.ref f1)))
    (l1 : K.lookup f1 = some ⟨oc1, od1, .func (PySem.W.fnOf "is_number" "is_number" (defArgs s_is_number) (defBody s_is_number) (defScope s_is_number) .none kV1 dc1 pm1 an1 cd1 ct1), sl1⟩)
    (cd_1 : PySem.W.codeIn K cd1 "is_number" = true)
    (k1 : PySem.W.keepIn K (.ref f1) = true)
    (a2 : PySem.W.nsIn K mainGlobals "is_sequence" = some (some (.ref f2)))
    (l2 : K.lookup f2 = some ⟨oc2, od2, .func (PySem.W.fnOf "is_sequence" "is_sequence" (defArgs s_is_sequence) (defBody s_is_sequence) (defScope s_is_sequence) .none kV2 dc2 pm2 an2 cd2 ct2), sl2⟩)
    (cd_2 : PySem.W.codeIn K cd2 "is_sequence" = true)
    (k2 : PySem.W.keepIn K (.ref f2) = true)
    (a3 : PySem.W.nsIn K mainGlobals "is_index" = some (some (.ref f3)))
    (l3 : K.lookup f3 = some ⟨oc3, od3, .func (PySem.W.fnOf "is_index" "is_index" (defArgs s_is_index) (defBody s_is_index) (defScope s_is_index) .none kV3 dc3 pm3 an3 cd3 ct3), sl3⟩)
    (cd_3 : PySem.W.codeIn K cd3 "is_index" = true)
    (k3 : PySem.W.keepIn K (.ref f3) = true)
    (a4 : PySem.W.nsIn K mainGlobals "is_view_of" = some (some (.ref f4)))
    (l4 : K.lookup f4 = some ⟨oc4, od4, .func (PySem.W.fnOf "is_view_of" "is_view_of" (defArgs s_is_view_of) (defBody s_is_view_of) (defScope s_is_view_of) .none kV4 dc4 pm4 an4 cd4 ct4), sl4⟩)
    (cd_4 : PySem.W.codeIn K cd4 "is_view_of" = true)
    (k4 : PySem.W.keepIn K (.ref f4) = true)
    (a5 : PySem.W.nsIn K mainGlobals "is_view" = some (some (.ref f5)))
    (l5 : K.lookup f5 = some ⟨oc5, od5, .func (PySem.W.fnOf "is_view" "is_view" (defArgs s_is_view) (defBody s_is_view) (defScope s_is_view) .none kV5 dc5 pm5 an5 cd5 ct5), sl5⟩)
    (cd_5 : PySem.W.codeIn K cd5 "is_view" = true)
    (k5 : PySem.W.keepIn K (.ref f5) = true)
    (a6 : PySem.W.nsIn K mainGlobals "made_view" = some (some (.ref f6)))
    (l6 : K.lookup f6 = some ⟨oc6, od6, .func (PySem.W.fnOf "made_view" "made_view" (defArgs s_made_view) (defBody s_made_view) (defScope s_made_view) .none kV6 dc6 pm6 an6 cd6 ct6), sl6⟩)
    (cd_6 : PySem.W.codeIn K cd6 "made_view" = true)
    (k6 : PySem.W.keepIn K (.ref f6) = true)
    (a7 : PySem.W.nsIn K mainGlobals "mode_rows" = some (some (.ref f7)))
    (l7 : K.lookup f7 = some ⟨oc7, od7, .func (PySem.W.fnOf "mode_rows" "mode_rows" (defArgs s_mode_rows) (defBody s_mode_rows) (defScope s_mode_rows) .none kV7 dc7 pm7 an7 cd7 ct7), sl7⟩)
    (cd_7 : PySem.W.codeIn K cd7 "mode_rows" = true)
    (k7 : PySem.W.keepIn K (.ref f7) = true)
    (a8 : PySem.W.nsIn K mainGlobals "all_views" = some (some (.ref f8)))
    (l8 : K.lookup f8 = some ⟨oc8, od8, .func (PySem.W.fnOf "all_views" "all_views" (defArgs s_all_views) (defBody s_all_views) (defScope s_all_views) .none kV8 dc8 pm8 an8 cd8 ct8), sl8⟩)
    (cd_8 : PySem.W.codeIn K cd8 "all_views" = true)
    (k8 : PySem.W.keepIn K (.ref f8) = true)
    (a9 : PySem.W.nsIn K mainGlobals "seen" = some (some (.ref f9)))
    (l9 : K.lookup f9 = some ⟨oc9, od9, .func (PySem.W.fnOf "seen" "seen" (defArgs s_seen) (defBody s_seen) (defScope s_seen) .none kV9 dc9 pm9 an9 cd9 ct9), sl9⟩)
    (cd_9 : PySem.W.codeIn K cd9 "seen" = true)
    (k9 : PySem.W.keepIn K (.ref f9) = true)
    (a10 : PySem.W.nsIn K mainGlobals "_law_draw" = some (some (.ref f10)))
    (l10 : K.lookup f10 = some ⟨oc10, od10, .func (PySem.W.fnOf "_law_draw" "_law_draw" (defArgs s__law_draw) (defBody s__law_draw) (defScope s__law_draw) .none kV10 dc10 pm10 an10 cd10 ct10), sl10⟩)
    (cd_10 : PySem.W.codeIn K cd10 "_law_draw" = true)
    (k10 : PySem.W.keepIn K (.ref f10) = true)
    (a11 : PySem.W.nsIn K mainGlobals "_law_any" = some (some (.ref f11)))
    (l11 : K.lookup f11 = some ⟨oc11, od11, .func (PySem.W.fnOf "_law_any" "_law_any" (defArgs s__law_any) (defBody s__law_any) (defScope s__law_any) .none kV11 dc11 pm11 an11 cd11 ct11), sl11⟩)
    (cd_11 : PySem.W.codeIn K cd11 "_law_any" = true)
    (k11 : PySem.W.keepIn K (.ref f11) = true)
    (a12 : PySem.W.nsIn K mainGlobals "_law_of" = some (some (.ref f12)))
    (l12 : K.lookup f12 = some ⟨oc12, od12, .func (PySem.W.fnOf "_law_of" "_law_of" (defArgs s__law_of) (defBody s__law_of) (defScope s__law_of) .none kV12 dc12 pm12 an12 cd12 ct12), sl12⟩)
    (cd_12 : PySem.W.codeIn K cd12 "_law_of" = true)
    (k12 : PySem.W.keepIn K (.ref f12) = true)
    (a13 : PySem.W.nsIn K mainGlobals "_law_other" = some (some (.ref f13)))
    (l13 : K.lookup f13 = some ⟨oc13, od13, .func (PySem.W.fnOf "_law_other" "_law_other" (defArgs s__law_other) (defBody s__law_other) (defScope s__law_other) .none kV13 dc13 pm13 an13 cd13 ct13), sl13⟩)
    (cd_13 : PySem.W.codeIn K cd13 "_law_other" = true)
    (k13 : PySem.W.keepIn K (.ref f13) = true)
    (a14 : PySem.W.nsIn K mainGlobals "_law_mixed" = some (some (.ref f14)))
    (l14 : K.lookup f14 = some ⟨oc14, od14, .func (PySem.W.fnOf "_law_mixed" "_law_mixed" (defArgs s__law_mixed) (defBody s__law_mixed) (defScope s__law_mixed) .none kV14 dc14 pm14 an14 cd14 ct14), sl14⟩)
    (cd_14 : PySem.W.codeIn K cd14 "_law_mixed" = true)
    (k14 : PySem.W.keepIn K (.ref f14) = true)
    (a15 : PySem.W.nsIn K mainGlobals "_law_rows" = some (some (.ref f15)))
    (l15 : K.lookup f15 = some ⟨oc15, od15, .func (PySem.W.fnOf "_law_rows" "_law_rows" (defArgs s__law_rows) (defBody s__law_rows) (defScope s__law_rows) .none kV15 dc15 pm15 an15 cd15 ct15), sl15⟩)
    (cd_15 : PySem.W.codeIn K cd15 "_law_rows" = true)
    (k15 : PySem.W.keepIn K (.ref f15) = true)
    (a16 : PySem.W.nsIn K mainGlobals "_law_refused" = some (some (.ref f16)))
    (l16 : K.lookup f16 = some ⟨oc16, od16, .func (PySem.W.fnOf "_law_refused" "_law_refused" (defArgs s__law_refused) (defBody s__law_refused) (defScope s__law_refused) .none kV16 dc16 pm16 an16 cd16 ct16), sl16⟩)
    (cd_16 : PySem.W.codeIn K cd16 "_law_refused" = true)
    (k16 : PySem.W.keepIn K (.ref f16) = true)
    (a17 : PySem.W.nsIn K mainGlobals "_law_bad_right" = some (some (.ref f17)))
    (l17 : K.lookup f17 = some ⟨oc17, od17, .func (PySem.W.fnOf "_law_bad_right" "_law_bad_right" (defArgs s__law_bad_right) (defBody s__law_bad_right) (defScope s__law_bad_right) .none kV17 dc17 pm17 an17 (.ref cLw) ct17), sl17⟩)
    (cd_17 : PySem.W.codeIn K (.ref cLw) "_law_bad_right" = true)
    (k17 : PySem.W.keepIn K (.ref f17) = true)
    (xL : K.lookup cLw = some ⟨occ, odc, .fields vsc, slc⟩)
    (vL : vsc[11]? = some (.ref PT))
    (hL : PySem.W.codeHdIn K cLw PT = true)
    (a18 : PySem.W.nsIn K mainGlobals "law" = some (some (.ref f18)))
    (l18 : K.lookup f18 = some ⟨oc18, od18, .func (PySem.W.fnOf "law" "law" (defArgs s_law) (defBody s_law) (defScope s_law) .none kV18 dc18 pm18 an18 cd18 ct18), sl18⟩)
    (cd_18 : PySem.W.codeIn K cd18 "law" = true)
    (k18 : PySem.W.keepIn K (.ref f18) = true)
    (geNetError : PySem.W.nsIn K mainGlobals "NetError" = some (some (.ref CNetError)))
    (geInvalidView : PySem.W.nsIn K mainGlobals "InvalidView" = some (some (.ref CInvalidView)))
    (xLeInvalidView : K.lookup CInvalidView = some (excClassObj nmeInvalidView qeInvalidView CInvalidView NeInvalidView bseInvalidView bmeInvalidView true sneInvalidView subeInvalidView abeInvalidView coleInvalidView ddeInvalidView m0eInvalidView m1eInvalidView m2eInvalidView m3eInvalidView m5eInvalidView "ValueError.__new__"))
    (xVeInvalidView : PySem.HandSPX.refsVE bmeInvalidView = true)
    (saeInvalidView : PySem.W.findIn K (.ref CInvalidView) "__setattr__" = some (some (.builtin "object.__setattr__")))
    (exCeInvalidView : PySem.W.subIn K (.ref CInvalidView) (.type "BaseException") = some true)
    (tyCeInvalidView : PySem.W.typeIn K (.ref CInvalidView) = some (.type "type"))
    (kCeInvalidView : PySem.W.keepIn K (.ref CInvalidView) = true)
    (iCeInvalidView : PySem.W.findIn K (.ref CInvalidView) "__init__" = some (some (.ref IeInvalidView)))
    (tIeInvalidView : PySem.W.typeIn K (.ref IeInvalidView) = some (.type "function"))
    (fneInvalidView : K.lookup IeInvalidView = some ⟨oceInvalidView, odeInvalidView, .func (PySem.W.ksFn "__init__" "InvalidView.__init__" (defArgs si_InvalidView) (defBody si_InvalidView) (defScope si_InvalidView) .none .none dceInvalidView pmeInvalidView aneInvalidView (.ref cdaeInvalidView) cteInvalidView cceInvalidView), osleInvalidView⟩)
    (cdeInvalidView : PySem.W.codeIn K (.ref cdaeInvalidView) "InvalidView.__init__" = true)
    (fleInvalidView : K.lookup cdaeInvalidView = some ⟨ccleInvalidView, cddeInvalidView, .fields vseInvalidView, ccseInvalidView⟩)
    (fveInvalidView : vseInvalidView[2]? = some (.str fileeInvalidView tfeInvalidView))
    (fPeInvalidView : ((PP.main.file : Str) == fileeInvalidView) = true)
    (ceeInvalidView : K.lookup cceInvalidView = some ⟨cleInvalidView, cldeInvalidView, .cell (some (.ref CInvalidView)), csleInvalidView⟩)
    (mreInvalidView : PySem.W.mroIn K CInvalidView (.ref CInvalidView) = some true)
    (sieInvalidView : PySem.W.ks_superIn K CInvalidView CInvalidView "__init__" = some (some (.builtin "ValueError.__init__")))
    (sveInvalidView : PySem.W.subIn K (.ref CInvalidView) (.type "ValueError") = some true)
    (noAteInvalidView : PySem.W.findIn K (.ref CInvalidView) "at" = some none)
    (hgeInvalidView : PySem.W.findIn K (.ref CInvalidView) "__getattribute__" = some (some (.builtin "BaseException.__getattribute__")))
    (hkeInvalidView : PySem.W.findIn K (.ref CInvalidView) "__getattr__" = some none)
    (hdeInvalidView : PySem.W.hasDictIn K CInvalidView = true)
    (haeInvalidView : PySem.W.findIn K (.ref CInvalidView) "__class__" = some (some (.builtin "object.__class__")))
    (hmeInvalidView : PySem.W.mroIn K CInvalidView (.type "object") = some true)
    (icleInvalidView : PySem.W.isClsIn K CInvalidView = true)
    (sCCeInvalidView : PySem.W.subIn K (.ref CInvalidView) (.ref CInvalidView) = some true)
    (sup : PySem.W.nsIn K mainGlobals "super" = some none)
    (any : PySem.W.nsIn K PySem.cStatics "thirdparty.any" = some none)
    (hn : PySem.W.specialIn K (.builtin "object.__class__") "__get__" = some (some (.builtin "getset_descriptor.__get__")))
    (ht : PySem.W.takesIn K (.builtin "object.__class__") = some true)
    (isnInvalidViewNetError : PySem.W.kitOne K (.ref CInvalidView) (.ref CNetError) = some true)
    (tabs0 : h.get? PT = some { cls := .none, data := .fields #[] }) (tabsK : K.lookup PT = none) :
    LawG PySem.Challenge.rw_handalong_k02_views_in_order w K CX0 10 63 "_law_script" mg fa h := by
  have Dis_integer : Def K mg "is_integer" s_is_integer ["value"] := def_mk X G a0 l0 cd_0 k0 (fun _ _ _ _ _ _ us hl => match us, hl with | [_], _ => rfl)
  have Dis_number : Def K mg "is_number" s_is_number ["value"] := def_mk X G a1 l1 cd_1 k1 (fun _ _ _ _ _ _ us hl => match us, hl with | [_], _ => rfl)
  have Dis_sequence : Def K mg "is_sequence" s_is_sequence ["value"] := def_mk X G a2 l2 cd_2 k2 (fun _ _ _ _ _ _ us hl => match us, hl with | [_], _ => rfl)
  have Dis_index : Def K mg "is_index" s_is_index ["value", "many"] := def_mk X G a3 l3 cd_3 k3 (fun _ _ _ _ _ _ us hl => match us, hl with | [_, _], _ => rfl)
  have Dis_view_of : Def K mg "is_view_of" s_is_view_of ["value", "modes"] := def_mk X G a4 l4 cd_4 k4 (fun _ _ _ _ _ _ us hl => match us, hl with | [_, _], _ => rfl)
  have Dis_view : Def K mg "is_view" s_is_view ["value"] := def_mk X G a5 l5 cd_5 k5 (fun _ _ _ _ _ _ us hl => match us, hl with | [_], _ => rfl)
  have Dmade_view : Def K mg "made_view" s_made_view ["mode", "neighbours"] := def_mk X G a6 l6 cd_6 k6 (fun _ _ _ _ _ _ us hl => match us, hl with | [_, _], _ => rfl)
  have Dmode_rows : Def K mg "mode_rows" s_mode_rows ["modes", "many"] := def_mk X G a7 l7 cd_7 k7 (fun _ _ _ _ _ _ us hl => match us, hl with | [_, _], _ => rfl)
  have Dall_views : Def K mg "all_views" s_all_views ["modes", "degree"] := def_mk X G a8 l8 cd_8 k8 (fun _ _ _ _ _ _ us hl => match us, hl with | [_, _], _ => rfl)
  have Dseen : Def K mg "seen" s_seen ["view", "mode"] := def_mk X G a9 l9 cd_9 k9 (fun _ _ _ _ _ _ us hl => match us, hl with | [_, _], _ => rfl)
  have D_law_draw : Def K mg "_law_draw" s__law_draw ["_law_script", "_law_salt"] := def_mk X G a10 l10 cd_10 k10 (fun _ _ _ _ _ _ us hl => match us, hl with | [_, _], _ => rfl)
  have D_law_any : Def K mg "_law_any" s__law_any ["_law_deal", "_law_bound"] := def_mk X G a11 l11 cd_11 k11 (fun _ _ _ _ _ _ us hl => match us, hl with | [_, _], _ => rfl)
  have D_law_of : Def K mg "_law_of" s__law_of ["_law_deal", "_law_some"] := def_mk X G a12 l12 cd_12 k12 (fun _ _ _ _ _ _ us hl => match us, hl with | [_, _], _ => rfl)
  have D_law_other : Def K mg "_law_other" s__law_other ["_law_deal", "_law_kinds", "_law_degree"] := def_mk X G a13 l13 cd_13 k13 (fun _ _ _ _ _ _ us hl => match us, hl with | [_, _, _], _ => rfl)
  have D_law_mixed : Def K mg "_law_mixed" s__law_mixed ["_law_deal", "_law_some"] := def_mk X G a14 l14 cd_14 k14 (fun _ _ _ _ _ _ us hl => match us, hl with | [_, _], _ => rfl)
  have D_law_rows : Def K mg "_law_rows" s__law_rows ["_law_kinds", "_law_many"] := def_mk X G a15 l15 cd_15 k15 (fun _ _ _ _ _ _ us hl => match us, hl with | [_, _], _ => rfl)
  have D_law_refused : Def K mg "_law_refused" s__law_refused ["_law_work"] := def_mk X G a16 l16 cd_16 k16 (fun _ _ _ _ _ _ us hl => match us, hl with | [_], _ => rfl)
  have C_law_bad_right : DefC K mg "_law_bad_right" s__law_bad_right ["_law_deal", "_law_view"] cLw := defC_mk X G a17 l17 cd_17 k17 (fun _ _ _ _ _ _ us hl => match us, hl with | [_, _], _ => rfl)
  have D_law_bad_right := C_law_bad_right.def
  have Dlaw : Def K mg "law" s_law ["_law_script"] := def_mk X G a18 l18 cd_18 k18 (fun _ _ _ _ _ _ us hl => match us, hl with | [_], _ => rfl)
  have EInvalidView : ErrK PP K mg "InvalidView" CInvalidView := errK_mk (st := si_InvalidView) X G geInvalidView xLeInvalidView xVeInvalidView saeInvalidView exCeInvalidView tyCeInvalidView kCeInvalidView iCeInvalidView tIeInvalidView fneInvalidView cdeInvalidView fleInvalidView fveInvalidView fPeInvalidView ceeInvalidView mreInvalidView sup any sieInvalidView sveInvalidView rfl noAteInvalidView hgeInvalidView hkeInvalidView hdeInvalidView haeInvalidView hn ht hmeInvalidView icleInvalidView sCCeInvalidView ⟨_, _, _, _, _, _, _, _, _, _, _, _, rfl, fun _ => ⟨_, rfl⟩, rfl, _, rfl, rfl⟩ (fun _ _ _ _ _ _ us hl => match us, hl with | [_, _], _ => rfl)
  have hhInvalidView : Heard K CInvalidView CInvalidView CNetError := ⟨EInvalidView.te, EInvalidView.ec, isnInvalidViewNetError, EInvalidView.noAt⟩
  have T : Txt PP K mg { NetError := CNetError, InvalidView := CInvalidView } :=
    { n_abs := PySem.W.mg_none_of X G z_abs,
      n_all := PySem.W.mg_none_of X G z_all,
      n_bool := PySem.W.mg_none_of X G z_bool,
      n_int := PySem.W.mg_none_of X G z_int,
      n_isinstance := PySem.W.mg_none_of X G z_isinstance,
      n_len := PySem.W.mg_none_of X G z_len,
      n_list := PySem.W.mg_none_of X G z_list,
      n_range := PySem.W.mg_none_of X G z_range,
      n_repr := PySem.W.mg_none_of X G z_repr,
      n_sorted := PySem.W.mg_none_of X G z_sorted,
      n_tuple := PySem.W.mg_none_of X G z_tuple,
      k_MOST_MODES := ⟨_, PySem.W.mg_of X G q_MOST_MODES⟩,
      k_MOST_NEIGHBOURS := ⟨_, PySem.W.mg_of X G q_MOST_NEIGHBOURS⟩,
      d_is_integer := Dis_integer,
      d_is_number := Dis_number,
      d_is_sequence := Dis_sequence,
      d_is_index := Dis_index,
      d_is_view_of := Dis_view_of,
      d_is_view := Dis_view,
      d_made_view := Dmade_view,
      d_mode_rows := Dmode_rows,
      d_all_views := Dall_views,
      d_seen := Dseen,
      d__law_draw := D_law_draw,
      d__law_any := D_law_any,
      d__law_of := D_law_of,
      d__law_other := D_law_other,
      d__law_mixed := D_law_mixed,
      d__law_rows := D_law_rows,
      d__law_refused := D_law_refused,
      d__law_bad_right := D_law_bad_right,
      c_NetError := PySem.W.mg_of X G geNetError,
      c_InvalidView := PySem.W.mg_of X G geInvalidView,
      x_InvalidView := EInvalidView }
  obtain ⟨fd, hb, hF⟩ := law_mk (P := PP) (cs := [(cLw, PT)]) (w := w) Dlaw hfa (fun _ _ _ _ _ _ _ => rfl) (fun base h1 h2 h3 => ok_law (w := w) (base := base) T Dlaw (ok__law_bad_right (w := w) (base := base) T C_law_bad_right (h3 _ List.mem_cons_self) hhInvalidView))
  refine ⟨fd, [(cLw, PT)], _, fun p hp => ?_, hb, fun H a ns hl hbits ht hS => ?_, hF⟩
  · rw [List.mem_singleton.mp hp]
    exact ⟨tabs0, tabsK, tab_mk X hL⟩
  · exact ⟨a, ns, rfl, hS, ht _ List.mem_cons_self, fun _ => rfl⟩
end K02
open PySem PySem.W PyProof.Rows in
set_option maxRecDepth 100000 in
set_option maxHeartbeats 0 in
theorem PySem.Challenge.cw_handalong_k02_views_in_order_holds : PySem.Challenge.rw_handalong_k02_views_in_order.Holds := by
  w_on; o_law; k_head; (case hw => w_witness2)
  k_fill
  refine NL.walkGT (l := PySem.Challenge.rw_handalong_k02_views_in_order) (n := 63) (k := 10) (x := "_law_script") (CX := L2.CX0) rfl (by decide) rfl ⟨rfl, by decide, by decide⟩ (fun w h Y => PySem.W.km_in_of Y) ?F (fun _ _ _ _ z => z)
  case F =>
    intro w mg fa h Y KX G hmg
    have hT8 := km_tabs_of Y
    refine' K02.all_mk KX G hmg ?z_abs ?z_all ?z_bool ?z_int ?z_isinstance ?z_len ?z_list ?z_range ?z_repr ?z_sorted ?z_tuple ?q_MOST_MODES ?q_MOST_NEIGHBOURS ?a0 ?l0 ?cd_0 ?k0 ?a1 ?l1 ?cd_1 ?k1 ?a2 ?l2 ?cd_2 ?k2 ?a3 ?l3 ?cd_3 ?k3 ?a4 ?l4 ?cd_4 ?k4 ?a5 ?l5 ?cd_5 ?k5 ?a6 ?l6 ?cd_6 ?k6 ?a7 ?l7 ?cd_7 ?k7 ?a8 ?l8 ?cd_8 ?k8 ?a9 ?l9 ?cd_9 ?k9 ?a10 ?l10 ?cd_10 ?k10 ?a11 ?l11 ?cd_11 ?k11 ?a12 ?l12 ?cd_12 ?k12 ?a13 ?l13 ?cd_13 ?k13 ?a14 ?l14 ?cd_14 ?k14 ?a15 ?l15 ?cd_15 ?k15 ?a16 ?l16 ?cd_16 ?k16 ?a17 ?l17 ?cd_17 ?k17 ?xL ?vL ?hL ?a18 ?l18 ?cd_18 ?k18 ?geNetError ?geInvalidView ?xLeInvalidView ?xVeInvalidView ?saeInvalidView ?exCeInvalidView ?tyCeInvalidView ?kCeInvalidView ?iCeInvalidView ?tIeInvalidView ?fneInvalidView ?cdeInvalidView ?fleInvalidView ?fveInvalidView ?fPeInvalidView ?ceeInvalidView ?mreInvalidView ?sieInvalidView ?sveInvalidView ?noAteInvalidView ?hgeInvalidView ?hkeInvalidView ?hdeInvalidView ?haeInvalidView ?hmeInvalidView ?icleInvalidView ?sCCeInvalidView ?sup ?any ?hn ?ht ?isnInvalidViewNetError ?tabs0 ?tabsK
    (case z_abs => k_is)
    (case z_all => k_is)
    (case z_bool => k_is)
    (case z_int => k_is)
    (case z_isinstance => k_is)
    (case z_len => k_is)
    (case z_list => k_is)
    (case z_range => k_is)
    (case z_repr => k_is)
    (case z_sorted => k_is)
    (case z_tuple => k_is)
    (case q_MOST_MODES => k_is)
    (case q_MOST_NEIGHBOURS => k_is)
    (case a0 => k_is)
    (case l0 => k_is)
    (case cd_0 => k_is)
    (case k0 => k_is)
    (case a1 => k_is)
    (case l1 => k_is)
    (case cd_1 => k_is)
    (case k1 => k_is)
    (case a2 => k_is)
    (case l2 => k_is)
    (case cd_2 => k_is)
    (case k2 => k_is)
    (case a3 => k_is)
    (case l3 => k_is)
    (case cd_3 => k_is)
    (case k3 => k_is)
    (case a4 => k_is)
    (case l4 => k_is)
    (case cd_4 => k_is)
    (case k4 => k_is)
    (case a5 => k_is)
    (case l5 => k_is)
    (case cd_5 => k_is)
    (case k5 => k_is)
    (case a6 => k_is)
    (case l6 => k_is)
    (case cd_6 => k_is)
    (case k6 => k_is)
    (case a7 => k_is)
    (case l7 => k_is)
    (case cd_7 => k_is)
    (case k7 => k_is)
    (case a8 => k_is)
    (case l8 => k_is)
    (case cd_8 => k_is)
    (case k8 => k_is)
    (case a9 => k_is)
    (case l9 => k_is)
    (case cd_9 => k_is)
    (case k9 => k_is)
    (case a10 => k_is)
    (case l10 => k_is)
    (case cd_10 => k_is)
    (case k10 => k_is)
    (case a11 => k_is)
    (case l11 => k_is)
    (case cd_11 => k_is)
    (case k11 => k_is)
    (case a12 => k_is)
    (case l12 => k_is)
    (case cd_12 => k_is)
    (case k12 => k_is)
    (case a13 => k_is)
    (case l13 => k_is)
    (case cd_13 => k_is)
    (case k13 => k_is)
    (case a14 => k_is)
    (case l14 => k_is)
    (case cd_14 => k_is)
    (case k14 => k_is)
    (case a15 => k_is)
    (case l15 => k_is)
    (case cd_15 => k_is)
    (case k15 => k_is)
    (case a16 => k_is)
    (case l16 => k_is)
    (case cd_16 => k_is)
    (case k16 => k_is)
    (case a17 => k_is)
    (case l17 => k_is)
    (case cd_17 => k_is)
    (case k17 => k_is)
    (case xL => k_is)
    (case vL => rfl)
    (case hL => kernel_rfl)
    (case a18 => k_is)
    (case l18 => k_is)
    (case cd_18 => k_is)
    (case k18 => k_is)
    (case geNetError => k_is)
    (case geInvalidView => k_is)
    (case xLeInvalidView => k_is)
    (case xVeInvalidView => rfl)
    (case saeInvalidView => k_is)
    (case exCeInvalidView => k_is)
    (case tyCeInvalidView => k_is)
    (case kCeInvalidView => k_is)
    (case iCeInvalidView => k_is)
    (case tIeInvalidView => k_is)
    (case fneInvalidView => k_is)
    (case cdeInvalidView => k_is)
    (case fleInvalidView => k_is)
    (case fveInvalidView => rfl)
    (case fPeInvalidView => (first | rfl | decide +kernel))
    (case ceeInvalidView => k_is)
    (case mreInvalidView => k_is)
    (case sieInvalidView => ks_is)
    (case sveInvalidView => k_is)
    (case noAteInvalidView => k_is)
    (case hgeInvalidView => k_is)
    (case hkeInvalidView => k_is)
    (case hdeInvalidView => k_is)
    (case haeInvalidView => k_is)
    (case hmeInvalidView => k_is)
    (case icleInvalidView => k_is)
    (case sCCeInvalidView => k_is)
    (case sup => k_is)
    (case any => k_is)
    (case hn => k_is)
    (case ht => k_is)
    (case isnInvalidViewNetError => kit_is)
    (case tabs0 => exact hT8 _ (by k_mem))
    (case tabsK => first | k_is | kernel_rfl | rfl)
