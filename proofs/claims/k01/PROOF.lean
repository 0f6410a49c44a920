import PyProof.Rows.All
import Wide.All
import OpenK.AllK
import Wide.FinOn
import KE.DatumIndex
import HandS.ForMost
import HandS.ForExc
import HandS.Lambda
import HandS.ExcInit
import KE.KExcSuper
import HandS.ExcIs
import KE.KExcIs
import HandS.Wide
import HandS.Style
import HandS.TupAny
import HandS.Deep
import HandS.IsInst
import HandS.Conv
import HandS.Flow
import HandS.SortInts
import HandS.Defaults
import HandS.EndTab
import HandS.EndBits
import PySem.Challenge.RW_handalong_k01_fractions_in_lowest_terms
set_option Elab.async false
set_option linter.all false
set_option maxRecDepth 100000
set_option maxHeartbeats 2000000
/-! Guards: a promise of a def under which repr may be asked; repr of data of any depth. -/
namespace NL
open PySem PySem.Spec PyProof.Rows L2

/-- a promise kept wherever no repr is under way -/
structure FnG (P : Program) (w : World) (K : PySem.W.Frag) (mg : Str → Option Value) (base : Heap)
    (CX : CXT) (k : Nat) (f : Addr) (fd : FuncData) (ps : List Str) (sp : Sp) : Prop where
  lenG : ∀ vs H Q E, sp vs H Q E → vs.length = ps.length
  runG : ∀ (A : Around) (outer : List Env) (s : Shared) (H : Hp) (args : Args) (us : List Value)
    (vs : List V) (Q : VK) (E : XK), A.guards = some [] → Room k A → Env0 P w K mg base A outer s H →
      BindsTo s fd args (ps.zip us) → Vals vs us → sp vs H Q E →
      codeAny (model P w) A (.call (.ref f) args) (CR CX outer P w H s Q E) s

section
variable {P : Program} {w : World} {K : PySem.W.Frag} {mg : Str → Option Value} {base : Heap} {CX : CXT}
theorem FnG.ofOk {k f fd ps sp} (F : FnOk P w K mg base CX k f fd ps sp) : FnG P w K mg base CX k f fd ps sp :=
  ⟨F.len, fun A outer s H args us vs Q E _ => F.run A outer s H args us vs Q E⟩
theorem FnG.mono {j k f fd ps sp} (F : FnG P w K mg base CX j f fd ps sp) (h : j ≤ k) : FnG P w K mg base CX k f fd ps sp :=
  ⟨F.lenG, fun A outer s H args us vs Q E hg hr => F.runG A outer s H args us vs Q E hg (hr.mono h)⟩
/-- a def by its body, nothing let out -/
theorem okG {x qual : Str} {st : Stmt} {f : Addr} {fd : FuncData} {N ps : List Str} {k : Nat} {sp : Sp}
    (F : Fun K x qual st f fd) (S : FnScope N ps (defScope st)) (hlen : ∀ vs H Q E, sp vs H Q E → vs.length = ps.length)
    (hb : ∀ (cdv : Value) (A : Around) (outer : List Env) (s : Shared) (H : Hp) (vs : List V) (Q : VK) (E : XK),
      A.guards = some [] → Room k (A.deeper (envOfC qual (defScope st) s.heap.objs.size f cdv)) → sp vs H Q E →
      ∃ t, PSs (cxOf CX0 P w K mg base N qual (defScope st) f cdv A outer s H E).nox (defBody st) t ∧
        t { nx := fun _ H' => Q .non H', rt := Q } (start N vs) H) :
    FnG P w K mg base CX0 (k + 1) f fd ps sp := by
  obtain ⟨oc, od, kV, doc, pm, an, cdv, ct, osl, rfl, lk, hcd⟩ := F.ex
  refine ⟨hlen, fun A outer s H args us vs Q E hg hr e0 hbd r hsp => ?_⟩
  refine LamX.run_ofS lk hcd S hr e0 hbd r (hlen _ _ _ _ hsp) fun hr' => ?_
  obtain ⟨t, h, q⟩ := hb cdv A outer s H vs Q E hg hr' hsp
  exact ⟨t, h.nox, q⟩
/-- a def by its body, which may raise -/
theorem okGX {x qual : Str} {st : Stmt} {f : Addr} {fd : FuncData} {N ps : List Str} {k : Nat} {sp : Sp}
    (F : Fun K x qual st f fd) (S : FnScope N ps (defScope st)) (hlen : ∀ vs H Q E, sp vs H Q E → vs.length = ps.length)
    (hb : ∀ (cdv : Value) (A : Around) (outer : List Env) (s : Shared) (H : Hp) (vs : List V) (Q : VK) (E : XK),
      A.guards = some [] → Room k (A.deeper (envOfC qual (defScope st) s.heap.objs.size f cdv)) → sp vs H Q E →
      ∃ t, PSs (cxOf (L2.CX P w) P w K mg base N qual (defScope st) f cdv A outer s H E) (defBody st) t ∧
        t { nx := fun _ H' => Q .non H', rt := Q } (start N vs) H) :
    FnG P w K mg base (L2.CX P w) (k + 1) f fd ps sp := by
  obtain ⟨oc, od, kV, doc, pm, an, cdv, ct, osl, rfl, lk, hcd⟩ := F.ex
  refine ⟨hlen, fun A outer s H args us vs Q E hg hr e0 hbd r hsp => ?_⟩
  refine LamX.run_ofS lk hcd S hr e0 hbd r (hlen _ _ _ _ hsp) fun hr' => ?_
  exact hb cdv A outer s H vs Q E hg hr' hsp
end

section
variable {X : Cx} {CX : CXT} {k : Nat} {f : Addr} {fd : FuncData} {ps : List Str} {sp : Sp} {dvs : List V} {ds : List Value} {E : XK}
/-- the guarded callee runs -/
theorem run_fnG {pins : List (Addr × Obj)} {σ : L2.St} {H : Hp} {s : Shared} {Q : VK} {us : List Value} {vs : List V}
    (F : FnG X.prog X.w X.K X.mg X.base CX k f fd ps sp) (hgd : X.A.guards = some []) (hr : Room k X.A)
    (hb : Binds X.K fd ps ds) (hd : Vals dvs ds) (hx : Passes CX X E) (I : Inv X pins σ H s) (r : Vals vs us)
    (h : sp (vs ++ dvs) H Q E) : wpAny (model X.prog X.w) X.A (call (.ref f) us) (EP X pins σ Q) X.xe s := by
  have rr := r.append hd
  have hl : (us ++ ds).length = ps.length := rr.length.symm.trans (F.lenG _ _ _ _ h)
  have run := F.runG X.A X.stack s H ⟨us, []⟩ (us ++ ds) (vs ++ dvs) Q E hgd hr I.env0 (hb s us I.kIn hl) rr h
  refine wpAny_call (codeAny_mono run fun res s' hq => ?_)
  match res, hq with
  | .error e, hq => exact hx pins σ H s e s' I hq
  | .ok (.ret u), hq => exact I.after hq
/-- f(e, ..), f a guarded def -/
theorem pe_callG {x : Str} {p pos : Pos} {e : Expr} {es : List Expr} {t : TA}
    (F : FnG X.prog X.w X.K X.mg X.base CX k f fd ps sp) (hgd : X.A.guards = some []) (hr : Room k X.A) (hg : Gl X x)
    (hm : X.mg x = some (.ref f)) (hk : PySem.W.keepIn X.K (.ref f) = true) (hb : Binds X.K fd ps ds) (hd : Vals dvs ds)
    (hx : Passes CX X E) (ha : PA X (e :: es) t) (hdb : (x == ("__debug__" : Str)) = false := by decide)
    (he : starEach (e :: es) X.env = (false, eval e X.env) :: starEach es X.env := by rfl)
    (hpl : (backTo pos (starEach es X.env)).any (·.1) = false := by rfl) :
    PE X (.Call (.Name x p) (e :: es) [] pos) (tCall sp dvs E t) := by
  constructor
  intro pins s σ H Q I h
  refine wpAny_Call_Name_kw (ld_glob I hg hm ?_ hdb)
  have step := thn (Q' := fun us s1 => X.K.In s1.heap ∧ wpAny (model X.prog X.w) X.A (call (.ref f) us) (EP X pins σ Q) X.xe s1)
    (ha.run pos pins s σ H _ I h) fun us s1 ⟨vs, H1, I1, r, q⟩ => ⟨I1.kIn, run_fnG F hgd hr hb hd hx I1 r q⟩
  exact PySem.W.callWith_K (h₀ := X.base) I.ok.mod.kin hk step he hpl
end

/-! ### repr -/
def rRepr (K : PySem.W.Frag) : List V → Hp → VK → Prop := fun xs H Q => ∃ x d, xs = [x] ∧ Dp K H x d ∧
  d.showable = true ∧ d.hasDict = false ∧ d.depth ≤ 60 ∧ d.shown.length ≤ sizeLine ∧ Q (.str d.shown) H
section
variable {X : Cx}
theorem call_repr (hg : X.A.guards = some []) (hu : X.A.units + 64 < cLine) : CallR X (.builtin "repr") (rRepr X.K) := by
  intro pins s σ H xs us Q I r h
  obtain ⟨x, d, rfl, hd, hsh, hnd, hdp, hz, q⟩ := h
  obtain ⟨u, rfl, ru⟩ := vals1 r
  obtain ⟨as, R⟩ := Dp.reads I d x u hd ru
  cases hd with
  | non =>
    cases (show u = Value.none from ru)
    exact PySem.P.repr_of_none ⟨.str _, H, I.tok _, ⟨_, rfl⟩, q⟩
  | bl b =>
    cases (show u = Value.bool b from ru)
    exact PySem.P.repr_of_bool ⟨.str _, H, I.tok _, ⟨_, rfl⟩, q⟩
  | int i =>
    obtain ⟨t, rfl⟩ := ru
    exact PySem.P.repr_of_int (of_decide_eq_true hsh) ⟨.str _, H, I.tok _, ⟨_, rfl⟩, q⟩
  | str y =>
    obtain ⟨t, rfl⟩ := ru
    exact PySem.P.repr_of_str ⟨.str _, H, I.tok _, ⟨_, rfl⟩, q⟩ hz
  | lst h1 h2 =>
    rename_i a ys ds
    cases (show u = Value.ref a from ru)
    exact repr_of_reads' R hsh (fun e => by rw [hnd] at e; cases e) hg (by omega) (fun _ _ e => e)
      (fun h' tk0 tk hk => ⟨.str _, H, I.kept hk, ⟨_, rfl⟩, q⟩) hz
  | tup h1 h2 =>
    rename_i a ys ds
    cases (show u = Value.ref a from ru)
    exact repr_of_reads' R hsh (fun e => by rw [hnd] at e; cases e) hg (by omega) (fun _ _ e => e)
      (fun h' tk0 tk hk => ⟨.str _, H, I.kept hk, ⟨_, rfl⟩, q⟩) hz
end
end NL
set_option maxRecDepth 100000
set_option maxHeartbeats 2000000
/-! The end of a law by a guarded promise. -/
namespace NL
open PySem PySem.Spec PyProof.Rows L2

/-- what is tracked at the entry: the script alone, if it is no object of the module -/
structure AtEntry (K : PySem.W.Frag) (a : Addr) (ob : Obj) (xs : List V) (H : Hp) : Prop where
  one : ∀ b u, H b = some u → b = a ∧ u = .frz ob (.lst xs)
  own : ∀ u, H a = some u → K.lookup a = none
  red : SqL K H a xs

theorem entry_mk {K : PySem.W.Frag} {h : Heap} {a : Addr} {us : List Value} {xs : List V} (KX : K.In h)
    (ha : h.get? a = some { cls := .type "list", data := .seq us.toArray }) (r : Vals xs us) (hz : us.length ≤ sizeLine) :
    ∃ H : Hp, AtEntry K a { cls := .type "list", data := .seq us.toArray } xs H := by
  cases hk : K.lookup a with
  | some o =>
    have e := (KX a o hk).symm.trans ha
    cases e
    exact ⟨fun _ => none, fun b u e => (nomatch e), fun u e => (nomatch e),
      .inr ⟨_, us.toArray, _, hk, rfl, rfl, rfl, by simpa using hz, by simpa using r⟩⟩
  | none =>
    refine ⟨fun b => if b = a then some (.frz { cls := .type "list", data := .seq us.toArray } (.lst xs)) else none,
      fun b u e => ?_, fun _ _ => hk, .inl (.inr ⟨_, if_pos rfl⟩)⟩
    by_cases hb : b = a
    · have e' := (if_pos hb).symm.trans e
      exact ⟨hb, (Option.some.inj e').symm⟩
    · have e' := (if_neg hb).symm.trans e
      cases e'

theorem call_law {P : Program} {w : World} {K : PySem.W.Frag} {mg mb : Str → Option Value} {CX : CXT} {k : Nat} {fa a : Addr}
    {fd : FuncData} {x : Str} {sp : Sp} {s₁ : Shared} {us : List Value} {ns : List Int}
    (KX : K.In s₁.heap) (hns : s₁.heap.Ns mainGlobals mg) (hb : s₁.heap.Ns builtinsNs mb)
    (hbb : ∀ x : Str, x ≠ "__name__" → mb x = bootBuiltins x) (hlim : s₁.heap.NoLimit) (hg : s₁.gens = #[])
    (ha : s₁.heap.get? a = some { cls := .type "list", data := .seq us.toArray }) (hi : IntsAre us ns)
    (hl : ns.length ≤ sizeLine) (hr : Room k callerA)
    (F : ∀ base : Heap, K.In base → base.Ns mainGlobals mg → FnG P w K mg base CX k fa fd [x] sp)
    (hbind : ∀ (s : Shared) (u : Value), BindsTo s fd ⟨[u], []⟩ [(x, u)])
    (hsp : ∀ H : Hp, SqL K H a (ns.map V.int) → sp [.ref a] H (fun v _ => v = .bl true) fun _ _ _ => False)
    (hCX : ∀ H e s', CX [] H s₁ (fun _ _ _ => False) e s' → False) :
    codeAny (model P w) callerA (.call (.ref fa) ⟨[.ref a], []⟩)
      (fun r s' => r = .ok (.ret (.bool true)) ∧ OldK s₁.heap s'.heap ∧ s'.os = s₁.os ∧ AllBare s'.gens) s₁ := by
  have rv := vals_ints hi
  have hlu : us.length ≤ sizeLine := by
    rw [← hi.length] at hl
    exact hl
  obtain ⟨H, E⟩ := entry_mk KX ha rv hlu
  have still : ∀ {b : Addr} {o : Obj}, s₁.heap.get? b = some o → H b = none → (hidT s₁.heap H).get? b = some o := fun e n => hidT_get e n
  have noDict : ∀ {b : Addr} {o : Obj} {es : Array DictEntry} {ep : Nat}, s₁.heap.get? b = some o → o.data = .dict es ep → H b = none := by
    intro b o es ep e d
    match hb : H b with
    | none => rfl
    | some u =>
      obtain ⟨rfl, _⟩ := E.one b u hb
      rw [ha] at e
      cases e
      cases (show Data.seq us.toArray _ = Data.dict es ep from d)
  have ns' : ∀ {b : Addr} {m : Str → Option Value}, s₁.heap.Ns b m → (hidT s₁.heap H).Ns b m := by
    intro b m q
    obtain ⟨o, es, ep, e, d, r⟩ := q
    exact ⟨o, es, ep, still e (noDict e d), d, r⟩
  have KB : K.In (hidT s₁.heap H) := by
    intro b o e
    refine still (KX b o e) ?_
    match hb : H b with
    | none => rfl
    | some u =>
      obtain ⟨rfl, _⟩ := E.one b u hb
      rw [E.own u hb] at e
      cases e
  have lim' : (hidT s₁.heap H).NoLimit := by
    obtain ⟨mc, h1, h2⟩ := hlim
    exact ⟨mc, ns' h1, h2⟩
  have hok : HOk P w H s₁.heap := by
    intro b u e
    obtain ⟨rfl, rfl⟩ := E.one b u e
    exact ⟨ha, by rw [List.length_map]; exact hl, us, _, rv, ha⟩
  have e0 : Env0 P w K mg (hidT s₁.heap H) callerA [] s₁ H :=
    { frames := rfl, mod := ⟨KB, ns' hns, ⟨mb, ns' hb, hbb⟩, lim'⟩, bs := fun b o e => of_hidT e,
      bsz := Nat.le_of_eq (hidT_size _ _), funs := trivial, frf := fun b z => absurd (show b ∈ ([] : List Addr) from z) (by simp),
      hok := hok, bare := .of_eq hg }
  have run := (F _ KB (ns' hns)).runG callerA [] s₁ H ⟨[.ref a], []⟩ [.ref a] [.ref a] (fun v _ => v = .bl true) (fun _ _ _ => False)
    rfl hr e0 (hbind s₁ (.ref a)) (.cons rfl .nil) (hsp H E.red)
  refine codeAny_mono run fun res s' hq => ?_
  match res, hq with
  | .error e, hq => exact (hCX H e s' hq).elim
  | .ok (.ret u), hq =>
    obtain ⟨v, H', os, bare, un, hok', r', q⟩ := hq
    subst q
    obtain rfl : u = Value.bool true := r'
    refine ⟨rfl, OldK.of_keep fun b o e => ?_, os, bare⟩
    match hb : H b with
    | none => exact un.keep b o e hb (fun z => absurd (show b ∈ ([] : List Addr) from z) (by simp)) (by simp)
    | some u =>
      obtain ⟨rfl, rfl⟩ := E.one b u hb
      obtain ⟨e1, _⟩ := hok b _ hb
      obtain ⟨e2, _⟩ := hok' b _ (un.frzs b _ _ hb)
      rw [e] at e1
      cases e1
      exact e2

/-- the goal that k_head leaves, from a guarded promise of the law's def -/
theorem walkG {l : PySem.W.OpenLaw} {n k : Nat} {q : Program} {loose : List Str} {XP : (Str → Option Value) → Heap → Prop}
    {YP : World → Heap → Prop} {d : DefRec} {K : Params → PySem.W.Frag} {CX : CXT} {sp : PySem.W.Frag → Sp} {x : Str}
    (hn : l.most = some n) (hn2 : n ≤ sizeLine) (hdf : d.params.defaults = []) (hr : Room k callerA)
    (hY : ∀ (w : World) (h : Heap), YP w h → (K w.params).In h)
    (F : ∀ (w : World) (mg : Str → Option Value) (fa : Addr) (h : Heap), (K w.params).In h → h.Ns mainGlobals mg → mg d.name = some (.ref fa) →
      ∃ fd : FuncData, (∀ (s : Shared) (u : Value), BindsTo s fd ⟨[u], []⟩ [(x, u)]) ∧
        ∀ base : Heap, (K w.params).In base → base.Ns mainGlobals mg → FnG l.prog w (K w.params) mg base CX k fa fd [x] (sp (K w.params)))
    (hsp : ∀ (K : PySem.W.Frag) (H : Hp) (a : Addr) (ns : List Int), ns.length ≤ n → SqL K H a (ns.map V.int) →
      sp K [.ref a] H (fun v _ => v = .bl true) fun _ _ _ => False)
    (hCX : ∀ (H : Hp) (s : Shared) (e : Value) (s' : Shared), CX [] H s (fun _ _ _ => False) e s' → False) :
    PySem.W.WalkO q loose XP YP l.row.toRowW d [] (fun f vs => PySem.call f vs) := by
  refine Att.attach_call hn hdf fun w s₀ s₁ mg mb fa o pm cd doc a vs ns G Y ho hd hcd hmg hobj hints hlen hg => ?_
  obtain ⟨fd, hb, hF⟩ := F w mg fa _ (hY w _ Y) G.T.g hmg
  exact call_law (hY w _ Y) G.T.g G.T.b G.T.builtins G.T.nolimit hg hobj hints (Nat.le_trans hlen hn2) hr hF hb
    (fun H hS => hsp _ H a ns hlen hS) fun H e s' => hCX H s₁ e s'
end NL
set_option maxRecDepth 100000
set_option maxHeartbeats 4000000
/-! Own errors whose __init__ says super().__init__(text) and, mostly, self.at = at. -/
namespace NL
open PySem PySem.Spec PyProof.Rows PySem.W PySem.Calls

/-- super().__init__, bound, called with some text -/
theorem ve_bound {prog : Program} {w : World} {A : Around} {E : Value → Shared → Prop} {h : Heap} {g : Array GenState} {d : Drawn} {t : Nat} {os : OsState}
    {nm q : Str} {C N : Addr} {bs bm : List Value} {hdct : Bool} {sn : List Str} {sub : List Value} {ab : Bool} {col : Option Bool} {dd : Option Addr} {k0 k1 k2 k3 k5 : Option Value}
    {u e t0 : Addr} {rest : List Value} {Q : Value → Shared → Prop}
    (hC : h.get? C = some (excClassObj nm q C N bs bm hdct sn sub ab col dd k0 k1 k2 k3 k5 "ValueError.__new__"))
    (he : h.get? e = some (excObj C t0 none .none)) (hu : h.get? u = some (kxs_mw "ValueError.__init__" e)) (hz : rest.length ≤ sizeLine)
    (hq : ∀ h' t1, (∀ b o, b ≠ e → h.get? b = some o → h'.get? b = some o) → h'.get? e = some (excObj C t1 none .none) → Q .none ⟨h', g, d, t, os⟩) :
    wpAny (model prog w) A (call (.ref u) rest) Q E ⟨h, g, d, t, os⟩ := by
  have tests : (Value.type "method-wrapper" == Value.type "method" || Value.type "method-wrapper" == Value.type "builtin_function_or_method" ||
      Value.type "method-wrapper" == Value.type "method-wrapper") = true := by decide
  refine wpAny_call (codeAny_of_tree ?_)
  show wpAny _ A.in1 (callAny (.ref u) ⟨rest, []⟩) _ _ _
  simp only [callAny]
  refine wpAny_bind (wpAny_load hu ?_)
  simp only [kxs_mw, tests, if_true]
  refine KFB.if_so (by decide) ?_
  have FB := F.excBase_ValueError
  refine wpAny_bind (check_bound_init FB.toExcCallFacts hC he rfl ?_)
  refine wpAny_bind (wpAny_pure (wpAny_pure ?_))
  refine ⟨plainId_quiet FB.init.plain _, codeAny_builtin FB.initEntry ?_⟩
  refine exc_init_tree (cls := .ref C) (t0 := t0) (dv := none) (c2 := .none) (c3 := .none) (b4 := .bool false) he hz ?_
  intro h' k e1 _
  exact hq h' _ k e1

/-- the names of __init__(self, at) | __init__(self) -/
abbrev atScope : Scope := { kind := .function, names := [(PySem.Str.ofString "self", .local), (PySem.Str.ofString "at", .local),
  (PySem.Str.ofString "__class__", .free), (PySem.Str.ofString "super", .globalImplicit)], isGenerator := false, isCoroutine := false, more := [] }
abbrev noScope : Scope := { kind := .function, names := [(PySem.Str.ofString "self", .local),
  (PySem.Str.ofString "__class__", .free), (PySem.Str.ofString "super", .globalImplicit)], isGenerator := false, isCoroutine := false, more := [] }
/-- how super().__init__(text) is read, at its places -/
def SuperCall (msg : Str) (j : Nat) (p0 p1 p2 p3 p4 : Pos) : Prop := ∀ env : Env, ∃ pl : Sem Bool,
  eval (.Call (.Attribute (.Call (.Name "super" p0) [] [] p1) "__init__" p2) [.Constant (.str msg) j p3] [] p4) env = (do
    let ov ← attributeBase (.Call (.Name "super" p0) [] [] p1) "__init__" env (eval (.Call (.Name "super" p0) [] [] p1) env)
    standAt p2.atName
    let (f, first) ← holding [ov] (getMethod ov "__init__" pl)
    callWith p4 f first (backTo p4 (starEach [.Constant (.str msg) j p3] env)) [])
example : SuperCall "invalid question" 0 ⟨7, 8, 7, 13⟩ ⟨7, 8, 7, 15⟩ ⟨7, 8, 7, 24⟩ ⟨7, 25, 7, 43⟩ ⟨7, 8, 7, 44⟩ := fun _ => ⟨_, rfl⟩
/-- what the written part says of an error's class at C, its __init__ at fI, the cell of __class__ at cc, the code at cda -/
structure ErrF (P : Program) (K : Frag) (C fI cc cda : Addr) (qual : Str) (params : Arguments) (body : List Stmt) (scope : Scope) : Prop where
  ox : L2.OexC K C
  iC : findIn K (.ref C) "__init__" = some (some (.ref fI))
  tI : typeIn K (.ref fI) = some (.type "function")
  fn : ∃ oc od doc pm an ct osl, K.lookup fI = some ⟨oc, od, .func (ksFn "__init__" qual params body scope .none .none doc pm an (.ref cda) ct cc), osl⟩
  cd : codeIn K (.ref cda) qual = true
  fl : ∃ ccl cdd vs ccs file tf, K.lookup cda = some ⟨ccl, cdd, .fields vs, ccs⟩ ∧ vs[2]? = some (.str file tf) ∧ ((P.main.file : Str) == file) = true
  ce : ∃ cl cld csl, K.lookup cc = some ⟨cl, cld, .cell (some (.ref C)), csl⟩
  sub : mroIn K C (.ref C) = some true
  sup : nsIn K mainGlobals "super" = some none
  any : nsIn K cStatics "thirdparty.any" = some none
  si : ks_superIn K C C "__init__" = some (some (.builtin "ValueError.__init__"))
  sv : subIn K (.ref C) (.type "ValueError") = some true
  top : (P.main.scope.names.lookup ("super" : Str)).isSome = false

section
variable {P : Program} {w : World} {A : Around} {E : Value → Shared → Prop} {s : Shared} {K : Frag} {C fI cc cda : Addr} {qual : Str} {params : Arguments} {body : List Stmt} {scope : Scope} {mg : Str → Option Value}

theorem exprConst {M : Model} {env : Env} {x : Str} {j : Nat} {p pos : Pos} {Q : List Value → Shared → Prop} (h : ∀ t, Q [.str x t] { s with toks := s.toks + 1 }) :
    wpAny M A (spliced (backTo pos (starEach [.Constant (.str x) j p] env))) Q E s := by
  refine Calls.spliced_cons (wpAny_Constant_str (k := j) (pos := p) ?_)
  exact Calls.spliced_nil (h s.toks)

/-- the statement super().__init__(text) in the __init__ of a new error at x -/
theorem super_init {L x t0 : Addr} {m : Str → Option Value} {mb : Str → Option Value} {ar : Arg} {msg : Str} {j : Nat} {p0 p1 p2 p3 p4 p5 : Pos} {Q : Flow → Shared → Prop}
    (T : ErrF P K C fI cc cda qual params body scope) (X : K.In s.heap) (hns : s.heap.Ns L m) (hmx : m ar.arg = some (.ref x))
    (hg : s.heap.Ns mainGlobals mg) (hmg : mg "super" = none) (hb : s.heap.Ns builtinsNs mb) (hbb : mb "super" = bootBuiltins "super")
    (hx : s.heap.get? x = some (excObj C t0 none .none))
    (hp : (params.posonlyargs ++ params.args).head? = some ar) (hsc : (scope = atScope ∨ scope = noScope) ∧ ar.arg = "self")
    (he : SuperCall msg j p0 p1 p2 p3 p4)
    (hq : ∀ h' tk t1, (∀ b o, b ≠ x → s.heap.get? b = some o → h'.get? b = some o) → h'.get? x = some (excObj C t1 none .none) → Q .next { s with heap := h', toks := tk }) :
    PySem.wpAt (model P w) A (.func body (ksEnv qual scope L fI (.ref cda) cc))
      (exec (.Expr (.Call (.Attribute (.Call (.Name "super" p0) [] [] p1) "__init__" p2) [.Constant (.str msg) j p3] [] p4) p5) (ksEnv qual scope L fI (.ref cda) cc)) Q E s := by
  have hk : scope.kind = .function := by rcases hsc.1 with rfl | rfl <;> rfl
  have hka : scope.names.lookup ar.arg = some .local := by rw [hsc.2]; rcases hsc.1 with rfl | rfl <;> rfl
  have hks : scope.names.lookup ("super" : Str) = some .globalImplicit := by rcases hsc.1 with rfl | rfl <;> rfl
  have hkc : scope.names.lookup ("__class__" : Str) = some .free := by rcases hsc.1 with rfl | rfl <;> rfl
  obtain ⟨oc, od, doc, pm, an, ct, osl, hf⟩ := T.fn
  obtain ⟨ccl, cdd, vs, ccs, file, tf, hcode, hvs, hfile⟩ := T.fl
  obtain ⟨cl, cld, csl, hcell⟩ := T.ce
  obtain ⟨nm, q, N, bs, bm, sn, sub, ab, col, dd, k0, k1, k2, k3, k5, hC, hbm⟩ := T.ox.cls
  have hcl : clsIn K C = some { name := nm, bases := bs, mro := .ref C :: bm, ns := N, qualname := q, hasDict := true, slotNames := sn, subclasses := sub, abstract := ab, collection := col, hasDel := false } := by
    unfold clsIn
    rw [hC]
    all_goals rfl
  obtain ⟨hh, g, d, t, os⟩ := s
  have hCo := X _ _ hC
  have IA : InstAt hh x (excObj C t0 none .none) C none := ⟨hx, rfl, rfl, trivial⟩
  have hxC : x ≠ C := ks_ne X IA hcl
  obtain ⟨pl, he⟩ := he (ksEnv qual scope L fI (.ref cda) cc)
  refine ks_wpAt_Expr_any (hi := by rcases hsc.1 with rfl | rfl <;> rfl) (hs := by rcases hsc.1 with rfl | rfl <;> rfl) (ks_wpAt_MethodCall (he := he) (ks_wpAt_super_base (env := ksEnv qual scope L fI (.ref cda) cc) hks hkc (by decide) rfl (X _ _ hf) rfl hp rfl (X _ _ hcode) rfl hvs hfile T.top ?_))
  refine ks_loadName_global hk hks (loadGlobal_builtin (env := ksEnv qual scope L fI (.ref cda) cc) hg hmg hb (hbb.trans (by decide +kernel : bootBuiltins "super" = some (.type "super"))) ⟨rfl, ?_⟩)
  refine wpAny_loadName_free hk hkc rfl ⟨_, X _ _ hcell, rfl⟩ ?_
  refine wpAny_loadName_local hk hka hns hmx ?_
  refine ks_wpAny_isType_cls hCo rfl ⟨rfl, ?_⟩
  refine ks_wpAny_call_super hCo rfl hx rfl (fun c e => by cases e) (looks_mroIn X T.sub) (fun h' e k => ?_)
  have X' : K.In h' := X.keeps k
  have hsi := T.si
  unfold ks_superIn at hsi
  rw [hcl] at hsi
  have hx' := k _ _ hx
  have IA' : InstAt h' x (excObj C t0 none .none) C none := ⟨hx', rfl, rfl, trivial⟩
  have hI : Looks (model P w) h' (isInstance (.ref x) (.type "ValueError")) true := IA'.type.andThen (looks_subIn X' T.sv)
  refine kxs_getMethod kxs_ValueError e (looks_opaque X' T.any) (l₀ := .ref C :: bm) ?_ rfl X' hsi hI hxC (by decide) ?_
  · exact fun A Q E s k q => wpAny_bind ((looks_clsIn X' hcl) A _ E s k (wpAny_pure q))
  have hm : (h'.push (kxs_mw "ValueError.__init__" x)).get? h'.objs.size = some (kxs_mw "ValueError.__init__" x) := Heap.get?_push_at rfl rfl
  have kk : ∀ b o, hh.get? b = some o → (h'.push (kxs_mw "ValueError.__init__" x)).get? b = some o := fun b o z => Heap.get?_push_of_some _ (k _ _ z)
  show wpAny _ _ (callWith _ (.ref h'.objs.size) [] _ []) _ _ _
  refine kxs_callWith (i := "ValueError.__init__") (x := x) rfl ?_
  refine evalArgs_plain (exprConst fun tk => ⟨hm, ?_⟩)
  refine ve_bound (kk _ _ hCo) (kk _ _ hx) hm (by rw [sizeLine_eq]; show 1 ≤ 16777216; decide) fun h2 t1 k2 e2 => ?_
  exact hq h2 _ t1 (fun b o hb z => k2 b o hb (kk b o z)) e2
end
end NL
namespace NL
open PySem PySem.Spec PyProof.Rows L2
/-- __init__(self, at): the new error bears at -/
def spErr (C : Addr) : Sp := fun vs H Q _ => ∃ (a : Addr) (v : V), vs = [.ref a, v] ∧ H a = some (exo a C none) ∧
  ∀ d, H d = none → d ≠ a → Q .non (upd (upd H d (exd d [("at", v)])) a (exo a C (some d)))

theorem exo_eq {a C t : Addr} : PySem.W.excObj C t none .none = { cls := .ref C, dict := none, data := .fields #[.ref t, .none, .none, .none, .bool false, .none] } := rfl

section
variable {P : Program} {w : World} {K : PySem.W.Frag} {mg : Str → Option Value} {base : Heap} {C fI cc cda : Addr} {qual : Str} {params : Arguments} {fd : FuncData}
open PySem.W in
theorem err_init {k j : Nat} {ar : Arg} {msg : Str} {p0 p1 p2 p3 p4 p5 q1 q2 q3 q4 : Pos}
    (T : ErrF P K C fI cc cda qual params [.Expr (.Call (.Attribute (.Call (.Name "super" p0) [] [] p1) "__init__" p2) [.Constant (.str msg) j p3] [] p4) p5,
      .Assign [.Attribute (.Name "self" q1) "at" q2] (.Name "at" q3) q4] atScope)
    (hfd : ∃ doc pm an ct, fd = ksFn "__init__" qual params [.Expr (.Call (.Attribute (.Call (.Name "super" p0) [] [] p1) "__init__" p2) [.Constant (.str msg) j p3] [] p4) p5,
      .Assign [.Attribute (.Name "self" q1) "at" q2] (.Name "at" q3) q4] atScope .none .none doc pm an (.ref cda) ct cc ∧
      ∃ oc od osl, K.lookup fI = some ⟨oc, od, .func fd, osl⟩)
    (hp : (params.posonlyargs ++ params.args).head? = some ar) (har : ar.arg = "self")
    (he : SuperCall msg j p0 p1 p2 p3 p4) (noAt : findIn K (.ref C) "at" = some none) :
    FnOk P w K mg base CX0 (k + 1) fI fd ["self", "at"] (spErr C) := by
  obtain ⟨doc, pm, an, ct, rfl, oc, od, osl, hf⟩ := hfd
  refine ⟨fun vs H Q E h => ?_, fun A outer s H args us vs Q E hr e0 hb r hsp => ?_⟩
  · obtain ⟨a, v, rfl, _⟩ := h
    rfl
  obtain ⟨x, v, rfl, hx0, hq⟩ := hsp
  cases r with
  | cons r1 r2 =>
  rename_i u1 us1
  cases r2 with
  | cons r2 r3 =>
  rename_i u us2
  cases r3
  obtain rfl : u1 = Value.ref x := r1
  have KX : K.In s.heap := e0.mod.kin.keeps fun b o e => (e0.bs b o e).1
  have lim : s.heap.NoLimit := e0.mod.nolimit.keeps fun b o e => (e0.bs b o e).1
  have kb : ∀ {b m}, base.Ns b m → s.heap.Ns b m := fun {b m} q => q.keeps fun b o e => (e0.bs b o e).1
  obtain ⟨mb, hmb, hbb⟩ := e0.mod.blt
  obtain ⟨t0, hx⟩ := exo_at e0.hok hx0
  obtain ⟨nm, q, N, bs, bm, sn, sub, ab, col, dd, k0, k1, k2, k3, k5, hC, hbm⟩ := T.ox.cls
  have hcl : clsIn K C = some { name := nm, bases := bs, mro := .ref C :: bm, ns := N, qualname := q, hasDict := true, slotNames := sn, subclasses := sub, abstract := ab, collection := col, hasDel := false } := by
    unfold clsIn
    rw [hC]
    all_goals rfl
  refine ks_codeAny_call_defAt (binds := [("self", Value.ref x), ("at", u)]) hr.depth (KX _ _ hf) rfl lim (codeRec_of KX T.cd) rfl hb (show ∀ y ∈ atScope.names, y.2 ≠ .cell by decide)
    (fun y hy => by rcases List.mem_cons.mp hy with rfl | hy; · rfl
                    · rcases List.mem_cons.mp hy with rfl | hy; · rfl
                      · cases hy) (fun h₀ hns kp => ?_)
  have hxL : s.heap.objs.size ≠ x := Nat.ne_of_gt (Heap.lt_size hx)
  refine ks_wpAt_execs_cons (super_init (mg := mg) (mb := mb) T (KX.keeps kp) hns (by rw [har]; rfl) ((kb e0.mod.glob).keeps kp) (mg_none_of e0.mod.kin e0.mod.glob T.sup)
    ((kb hmb).keeps kp) (hbb _ (by decide)) (kp _ _ hx) hp ⟨.inl rfl, har⟩ he fun h1 tk t1 kq hx1 => ?_)
  show PySem.wpAt _ _ _ (execs _ _) _ _ _
  refine wpAt_of_wpAny (wpAny_execs_cons (plainObj_wpAny_Assign_Attribute ?_ (by rfl)))
  have hn1 : h1.Ns s.heap.objs.size (fun y => ([("self", Value.ref x), ("at", u)] : List (Str × Value)).reverse.lookup y) := by
    obtain ⟨oL, es, ep, hL, rr⟩ := hns
    exact ⟨oL, es, ep, kq _ _ hxL hL, rr⟩
  refine wpAny_Name (wpAny_loadName_local (v := u) rfl rfl hn1 rfl ?_) (by decide)
  refine wpAny_Name (wpAny_loadName_local (v := .ref x) rfl rfl hn1 rfl ?_) (by decide)
  have k1' : ∀ b o, b ≠ x → s.heap.get? b = some o → h1.get? b = some o := fun b o hb z => kq b o hb (kp b o z)
  have X1 : K.In h1 := fun b o z => by
    refine k1' b o ?_ (KX b o z)
    rintro rfl
    rw [e0.mod.kin b o z |> e0.bs b o |>.2] at hx0
    cases hx0
  refine set_plain X1 (ox := excObj C t1 none .none) (od := none) ⟨hx1, rfl, rfl, trivial⟩ T.ox.sa ?_
  refine PySem.HandSPX.exc_osa X1 hx1 hcl (show PySem.HandSPX.refsVE (.ref C :: bm) = true from hbm) rfl noAt (fun h3 tk3 dx k3 dn dne hx3 hn3 => ?_)
  refine wpAny_execs_nil ?_
  have keep : ∀ b o, b ≠ x → s.heap.get? b = some o → h3.get? b = some o := fun b o hb z => k3 b o hb (k1' b o hb z)
  have nx : ∀ {b : Addr}, H b = none → b ≠ x := fun {b} n z => by
    rw [z, hx0] at n
    cases n
  have ltd : ∀ {b : Addr} {o : Obj}, b ≠ x → s.heap.get? b = some o → b ≠ dx := fun {b o} hb z => Nat.ne_of_lt (Nat.lt_of_lt_of_le (Heap.lt_size (k1' b o hb z)) dn)
  have big : s.heap.objs.size < dx := Nat.lt_of_lt_of_le hn1.lt dn
  have hd : H dx = none := e0.hok.fresh (Nat.le_of_lt big)
  refine ⟨.non, _, rfl, e0.bare, ⟨fun b o z n _ _ => keep b o (nx n) z, fun b o z n _ _ => ⟨o.slots, keep b o (nx n) z⟩, fun b o z n _ => ?_, fun b o z _ => ?_,
    fun b xs z => ?_, fun b o v z => ?_, fun b ps z => ⟨#[], ?_⟩⟩, ?_, rfl, hq dx hd dne⟩
  · rw [upd_ne (nx n), upd_ne (ltd (nx n) z)]
    exact n
  · by_cases hb : b = x
    · exact ⟨_, by rw [hb]; exact hx3⟩
    · exact ⟨o, keep b o hb z⟩
  · rw [upd_ne (at_ne hx0 z exo_tup), upd_ne (ne_of_none z hd)]
    exact z
  · rw [upd_ne (at_ne hx0 z exo_frz), upd_ne (ne_of_none z hd)]
    exact z
  · rw [upd_ne (at_ne hx0 z exo_tbl), upd_ne (ne_of_none z hd), z]
    simp
  · intro b o z
    by_cases hb : b = x
    · subst hb
      rw [upd_same] at z
      cases z
      exact exo_ok hx3
    · rw [upd_ne hb] at z
      by_cases hbd : b = dx
      · subst hbd
        rw [upd_same] at z
        cases z
        exact exd_ok hn3 (relO_put (fs := []) r2 fun g => True.intro)
      · rw [upd_ne hbd] at z
        refine (e0.hok b o z).stay (fun c y hc zz => keep c y ?_ zz) (fun c hc => ?_) fun c xs hc => ?_
        · rcases hc with rfl | hc
          · exact hb
          · exact at_ne hx0 hc exo_own
        · rw [upd_ne (at_ne hx0 hc exo_own), upd_ne (ne_of_none hc hd)]
          exact hc
        · rw [upd_ne (at_ne hx0 hc exo_tup), upd_ne (ne_of_none hc hd)]
          exact hc
end
end NL
set_option maxRecDepth 100000
set_option maxHeartbeats 4000000
/-! Own errors raised, heard, looked at. -/
namespace NL
open PySem PySem.Spec PyProof.Rows L2

/-- an error's class as the def's of the text see it: its name x, its address C -/
structure ErrK (P : Program) (K : PySem.W.Frag) (mg : Str → Option Value) (x : Str) (C : Addr) : Prop where
  gC : mg x = some (.ref C)
  ox : OexC K C
  ini : ∃ fI fd, PySem.W.findIn K (.ref C) "__init__" = some (some (.ref fI)) ∧ PySem.W.typeIn K (.ref fI) = some (.type "function") ∧
    Binds K fd ["self", "at"] [] ∧ ∀ (w : World) (base : Heap), FnOk P w K mg base CX0 1 fI fd ["self", "at"] (spErr C)
  ec : ExcC K C
  noAt : PySem.W.findIn K (.ref C) "at" = some none
  te : PySem.W.exmOne K (.ref C) (.ref C) = some true

/-- X(e), the new error: it bears the value of e -/
def tMkErr (C : Addr) (ta : TA) : L2.St → Hp → XK → Prop := fun σ H Q => ta σ H fun vs H1 => ∃ v, vs = [v] ∧
  ∀ d, H1 d = none → Q (.ref C) (some d) (upd H1 d (.xd [("at", v)]))
section
variable {X : Cx} {x : Str} {C : Addr} {e : Expr} {ta : TA} {p pos : Pos}
theorem err_heap {H : Hp} {a d : Addr} {o1 o2 o3 o4 : HO} (ha : H a = none) (hd : H d = none) (ne : d ≠ a) :
    upd (L2.del (upd (upd (upd H a o1) d o2) a o3) a) d o4 = upd H d o4 := by
  funext b
  by_cases hbd : b = d
  · subst hbd
    rw [upd_same, upd_same]
  · rw [upd_ne hbd, upd_ne hbd]
    by_cases hba : b = a
    · subst hba
      rw [del_same, ha]
    · rw [del_ne hba, upd_ne hba, upd_ne hbd, upd_ne hba]
theorem pmk_err (T : ErrK X.prog X.K X.mg x C) (hr : Room 2 X.A) (ha : PA X [e] ta) (hg : Gl X x := by rfl)
    (hdb : (x == ("__debug__" : Str)) = false := by decide) (he : starEach [e] X.env = (false, eval e X.env) :: starEach [] X.env := by rfl)
    (hpl : (backTo pos (starEach [] X.env)).any (·.1) = false := by rfl) : PMk X (.Call (.Name x p) [e] [] pos) (tMkErr C ta) := by
  obtain ⟨fI, fd, i1, i2, i3, i4⟩ := T.ini
  intro pins s σ H Q I h
  have ha' : PA X [e] (fun σ H Q => ∃ Q0 : List V → Hp → Prop, ta σ H Q0 ∧ ∀ vs H1, Q0 vs H1 → Q vs H1) := by
    constructor
    intro pos pins s σ H Q I h
    obtain ⟨Q0, h, k⟩ := h
    exact thn (ha.run pos pins s σ H Q0 I h) fun us s1 ⟨vs, H1, I1, r, q⟩ => ⟨vs, H1, I1, r, k _ _ q⟩
  refine pmk_oex (x := x) (p := p) (pos := pos) (dvs := []) (ds := []) T.ox i1 i2 (i4 X.w X.base) hr i3 .nil pass0 hg T.gC ha' hdb he hpl pins s σ H Q I ?_
  refine ⟨_, h, fun vs H1 q => ?_⟩
  obtain ⟨v, rfl, q⟩ := q
  refine ⟨(show 1 ≤ 1000 by decide), fun a na => ?_⟩
  refine ⟨a, v, rfl, upd_same, fun d hd ne => ⟨rfl, d, [(("at" : Str), v)], upd_same, ?_, ?_, ?_⟩⟩
  · rw [upd_ne ne, upd_same]
  · rw [upd_ne ne] at hd
    exact hd
  · rw [upd_ne ne] at hd
    rw [err_heap na hd ne]
    exact q d hd
end

/-! ### in the suite that holds the error -/
def rIsErr (K : PySem.W.Frag) (a : Addr) (cls : Value) (d : Option Addr) : List V → Hp → VK → Prop := fun xs H Q =>
  ∃ (C : Addr) (c : V) (cv : Value) (b : Bool), xs = [.ref a, c] ∧ cls = .ref C ∧ ExcC K C ∧ (∀ u, RelV c u → u = cv) ∧
    PySem.W.kitOne K (.ref C) cv = some b ∧ (d = none ∨ ∃ dd fs, d = some dd ∧ H dd = some (.xd fs)) ∧ Q (.bl b) H
section
variable {X : Cx} {a : Addr} {cls : Value} {d : Option Addr} {oe : Obj} {pn : List (Addr × Obj)}
/-- the error as an instance -/
theorem err_inst {pins : List (Addr × Obj)} {σ : L2.St} {H : Hp} {s : Shared} {C : Addr} (hz : Zc cls d oe) (hf : ∃ vs, oe.data = .fields vs)
    (I : Inv (X.suite a ((a, oe) :: pn)) pins σ H s) (hc : cls = .ref C) (hd : d = none ∨ ∃ dd fs, d = some dd ∧ H dd = some (.xd fs)) :
    ∃ od, PySem.W.InstAt s.heap a oe C od := by
  obtain ⟨hget, _⟩ := I.pin (a, oe) (List.mem_append.mpr (.inl List.mem_cons_self))
  obtain ⟨vs, hv⟩ := hf
  obtain ⟨oc, od, oda, osl⟩ := oe
  obtain ⟨h1, h2⟩ := hz
  dsimp only at h1 h2 hv
  subst h1 h2 hv
  rcases hd with rfl | ⟨dd, fs, rfl, hdd⟩
  · exact ⟨none, hget, hc, rfl, trivial⟩
  · obtain ⟨mA, ⟨od, es, ep, ho, _⟩, _⟩ := (show ObjOk X.prog X.w H s.heap dd (.xd fs) from I.hok dd _ hdd)
    exact ⟨some od, hget, hc, rfl, ho⟩
theorem call_isErr (hz : Zc cls d oe) (hf : ∃ vs, oe.data = .fields vs) :
    CallR (X.suite a ((a, oe) :: pn)) (.builtin "isinstance") (rIsErr X.K a cls d) := by
  intro pins s σ H xs us Q I r h
  obtain ⟨C, c, cv, b, rfl, hc, EC, hcv, e, hd, q⟩ := h
  match us, r with
  | [u1, u2], .cons rx (.cons rt .nil) =>
    cases (show u1 = Value.ref a from rx)
    obtain rfl := hcv _ rt
    obtain ⟨od, J⟩ := err_inst hz hf I hc hd
    obtain ⟨cd, hcl, _⟩ := PySem.W.any_some EC.hd
    exact PySem.W.kia_one (PySem.W.kitx_exc (by rw [hcl]; rfl) EC.hg EC.hk EC.hs EC.ha EC.hn EC.ht EC.hm) I.kIn J e
      (fun z => nomatch z) fun tk => ⟨.bl b, H, I.kept (t' := tk) fun _ _ z => z, rfl, q⟩
/-- e.at, e the error that the suite holds -/
def tAt (K : PySem.W.Frag) (a : Addr) (cls : Value) (d : Option Addr) (te : TE) : TE := fun σ H Q => te σ H fun x H1 => x = .ref a ∧
  ∃ (C dd : Addr) (v : V), cls = .ref C ∧ d = some dd ∧ ExcC K C ∧ PySem.W.findIn K (.ref C) "at" = some none ∧ H1 dd = some (.xd [("at", v)]) ∧ Q v H1
theorem pe_at {e : Expr} {te : TE} {pos : Pos} (hz : Zc cls d oe) (hf : ∃ vs, oe.data = .fields vs) (he : PE (X.suite a ((a, oe) :: pn)) e te)
    (hb : attributeBase e "at" X.env (eval e X.env) = eval e X.env := by rfl) :
    PE (X.suite a ((a, oe) :: pn)) (.Attribute e "at" pos) (tAt X.K a cls d te) := by
  constructor
  intro pins s σ H Q I h
  refine attr_of hb (thn (he.run pins s σ H _ I h) fun u s1 hh => ?_)
  obtain ⟨x, H1, I1, rx, ex, C, dd, v, ec, ed, EC, noAt, ea, q⟩ := hh
  subst ex
  cases (show u = Value.ref a from rx)
  obtain ⟨mA, hns, hr⟩ := (show ObjOk X.prog X.w H1 s1.heap dd (.xd [(("at" : Str), v)]) from I1.hok dd _ ea)
  obtain ⟨od, ho, hl⟩ := lookIn_ns hns
  have l : List.lookup ("at" : Str) [(("at" : Str), v)] = some v := by simp [List.lookup]
  obtain ⟨u, hu, ru⟩ := RelO.some_of (v := v) (o := mA "at") (by rw [← l]; exact hr "at")
  obtain ⟨vs, hd⟩ := hf
  obtain ⟨ha, _⟩ := I1.pin (a, oe) (List.mem_append_left _ List.mem_cons_self)
  have J : PySem.W.InstAt s1.heap a oe C (some od) :=
    ⟨ha, hz.1.trans ec, by unfold PySem.W.notCls; rw [hd] <;> rfl, by rw [hz.2, ed]; exact ho⟩
  refine HandSPX.exc_get I1.kIn J EC.hg EC.hk EC.hs (PySem.W.findObj_own EC.hd noAt rfl (by rw [hl, hu])) (handed_of ru) ?_
  exact ⟨v, H1, I1.tok _, ru, q⟩
end
end NL
set_option maxRecDepth 100000
set_option maxHeartbeats 2000000
/-! Operators by all the kinds of their operands; readings step by step. -/
namespace NL
open PySem PySem.Spec PyProof.Rows L2

/-! ### one rule an operator -/
def aAdd (K : PySem.W.Frag) : R2 := fun x y H Q => rI0 (fun i j => .int (i + j)) x y H Q ∨ rCatA K x y H Q ∨ rCat x y H Q
def aMul : R2 := rI CMulW fun i j => .int (i * j)
def aMod : R2 := rI (fun _ j => j ≠ 0) fun i j => .int (i.fmod j)
/-- // by any divisor but 0 below 2 ^ 9000 -/
def CDivA (_ j : Int) : Prop := j ≠ 0 ∧ j.natAbs.log2 < 9000
def aDiv : R2 := rI CDivA fun i j => .int (i.fdiv j)
def aPow : R2 := rI CPow fun i j => .int (i ^ j.toNat)
def aEq (K : PySem.W.Frag) : R2 := fun x y H Q => rEq x y H Q ∨ rEqD K x y H Q
def aNe (K : PySem.W.Frag) : R2 := fun x y H Q => rNe x y H Q ∨ rNeD K x y H Q
def aIs : R2 := fun x y H Q => rIsB x y H Q ∨ (y = .non ∧ Q (.bl (decide (x = .non))) H)
def aNis : R2 := fun x y H Q => rNotB x y H Q ∨ (y = .non ∧ Q (.bl (!decide (x = .non))) H)
def aIn (K : PySem.W.Frag) : R2 := rInD K
def aNin (K : PySem.W.Frag) : R2 := rNotInD K
section
variable {X : Cx}
theorem oAdd : OpR X (binaryOp .Add) (aAdd X.K) := OpR.or op_add (OpR.or op_catA op_cat)
theorem oMul : OpR X (binaryOp .Mult) aMul := op_mulW
theorem oMod : OpR X (binaryOp .Mod) aMod := op_modN
theorem oDiv : OpR X (binaryOp .FloorDiv) aDiv := opI fun i j _ _ _ _ _ hc q => floordiv_int hc.1 q (.inl (PyProof.noPylong_of_log2 hc.2))
theorem oPow : OpR X (binaryOp .Pow) aPow := op_pow
theorem oEq (hu : X.A.units + 64 < cLine) : OpR X (compareOp .Eq) (aEq X.K) := OpR.or op_eq (op_eqD hu)
theorem oNe (hu : X.A.units + 64 < cLine) : OpR X (compareOp .NotEq) (aNe X.K) := OpR.or op_ne (op_neD hu)
theorem oIs : OpR X (compareOp .Is) aIs := OpR.or op_isBl op_isN
theorem oNis : OpR X (compareOp .IsNot) aNis := OpR.or op_notBl op_notN
theorem oIn (hu : X.A.units + 65 < cLine) : OpR X (compareOp .In) (aIn X.K) := op_inD hu
theorem oNin (hu : X.A.units + 65 < cLine) : OpR X (compareOp .NotIn) (aNin X.K) := op_notInD hu
end
def aLen (K : PySem.W.Frag) : List V → Hp → VK → Prop := fun xs H Q => ∃ p ys, xs = [.ref p] ∧ (SqL K H p ys ∨ SqT K H p ys) ∧ Q (.int ys.length) H
def aTuple (K : PySem.W.Frag) : List V → Hp → VK → Prop := fun xs H Q => ∃ p ys, xs = [.ref p] ∧
  ((SqL K H p ys ∧ ∀ l, H l = none → Q (.ref l) (upd H l (.tup ys))) ∨ (SqT K H p ys ∧ Q (.ref p) H))
def aList (K : PySem.W.Frag) : List V → Hp → VK → Prop := fun xs H Q => ∃ p ys, xs = [.ref p] ∧ (SqL K H p ys ∨ SqT K H p ys) ∧
  ∀ l, H l = none → Q (.ref l) (upd H l (.lst ys))
def aAbs : List V → Hp → VK → Prop := fun xs H Q => ∃ i, xs = [.int i] ∧ Q (.int (if i < 0 then -i else i)) H
def aInt : List V → Hp → VK → Prop := fun xs H Q => (∃ i, xs = [.int i] ∧ Q (.int i) H) ∨ ∃ k, xs = [.bl k] ∧ Q (.int (if k then 1 else 0)) H
def aMax (K : PySem.W.Frag) : List V → Hp → VK → Prop := fun xs H Q => (∃ i j, xs = [.int i, .int j] ∧ Q (.int (if j > i then j else i)) H) ∨ rMax K xs H Q
def aMin (K : PySem.W.Frag) : List V → Hp → VK → Prop := fun xs H Q => (∃ i j, xs = [.int i, .int j] ∧ Q (.int (if j < i then j else i)) H) ∨ rMin K xs H Q
def aStr : List V → Hp → VK → Prop := fun xs H Q => ∃ i, xs = [.int i] ∧ i.natAbs.log2 < 1920 ∧ Q (.str (toString i)) H
def aIsi (K : PySem.W.Frag) : List V → Hp → VK → Prop := fun xs H Q => rIsi K xs H Q ∨ rIsiT K xs H Q
section
variable {X : Cx}
theorem cLen : CallR X (.builtin "len") (aLen X.K) := call_len_seq
theorem cTuple : CallR X (.type "tuple") (aTuple X.K) := call_tuple_of
theorem cList : CallR X (.type "list") (aList X.K) := call_list_of
theorem cAbs : CallR X (.builtin "abs") aAbs := call_abs
theorem cInt : CallR X (.type "int") aInt := call_int1
theorem cMax (hc : X.calm = true) : CallR X (.builtin "max") (aMax X.K) := CallR.or (call_max2 hc) (cr_max hc)
theorem cMin (hc : X.calm = true) : CallR X (.builtin "min") (aMin X.K) := CallR.or (call_min2 hc) (cr_min hc)
theorem cStr : CallR X (.type "str") aStr := call_str_int
theorem cIsi : CallR X (.builtin "isinstance") (aIsi X.K) := CallR.or call_isi call_isiT
end

/-! ### readings, step by step -/
section
variable {K : PySem.W.Frag} {σ : L2.St} {H : Hp} {nx bk ct : L2.St → Hp → Prop} {rt Q : VK} {te ta tb : TE} {t u : TS} {tt tt2 : TT} {v x y : V} {i : Nat} {QT : Bool → Hp → Prop} {QA : List V → Hp → Prop} {tr : TA}
theorem w_seq (h : t ⟨u ⟨nx, rt, bk, ct⟩, rt, bk, ct⟩ σ H) : tSeq t u ⟨nx, rt, bk, ct⟩ σ H := h
theorem w_asg (h : te σ H fun v H1 => nx (σ.set i (some v)) H1) : tAsg te (gName i) ⟨nx, rt, bk, ct⟩ σ H := h
theorem w_drop (h : te σ H fun _ H1 => nx σ H1) : tDrop te ⟨nx, rt, bk, ct⟩ σ H := h
theorem w_ret (h : te σ H rt) : tRet te ⟨nx, rt, bk, ct⟩ σ H := h
theorem w_next (h : nx σ H) : tNext ⟨nx, rt, bk, ct⟩ σ H := h
theorem w_brk (h : bk σ H) : tBreak ⟨nx, rt, bk, ct⟩ σ H := h
theorem w_cont (h : ct σ H) : tCont ⟨nx, rt, bk, ct⟩ σ H := h
theorem w_ifS (h : tt σ H fun b H1 => if b = true then t ⟨nx, rt, bk, ct⟩ σ H1 else u ⟨nx, rt, bk, ct⟩ σ H1) : tIfS tt t u ⟨nx, rt, bk, ct⟩ σ H := h
theorem w_var (e : σ[i]? = some (some v)) (h : Q v H) : tVar i σ H Q := ⟨v, e, h⟩
theorem w_c (h : Q v H) : tC v σ H Q := h
theorem w_op {r : R2} (h : ta σ H fun x H1 => tb σ H1 fun y H2 => r x y H2 Q) : tOp r ta tb σ H Q := h
theorem w_un {r : V → Hp → VK → Prop} (h : ta σ H fun x H1 => r x H1 Q) : tUn r ta σ H Q := h
theorem w_test (h : te σ H fun x H' => ∃ k, x = .bl k ∧ QT k H') : tTest te σ H QT := h
theorem w_B (h : te σ H fun x H' => ∃ k, x = .bl k ∧ QT k H') : tB te σ H QT := h
theorem w_bl {b : Bool} (h : QT b H) : ∃ k, V.bl b = .bl k ∧ QT k H := ⟨b, rfl, h⟩
theorem w_not (h : tt σ H fun c H1 => QT (!c) H1) : tNot tt σ H QT := h
theorem w_and (h : tt σ H fun c H1 => if c = true then tt2 σ H1 QT else QT false H1) : tAnd tt tt2 σ H QT := h
theorem w_or (h : tt σ H fun c H1 => if c = true then QT true H1 else tt2 σ H1 QT) : tOr tt tt2 σ H QT := h
theorem w_andV (h : ta σ H fun x H1 => ∃ c, x = .bl c ∧ if c = true then tb σ H1 Q else Q (.bl false) H1) : tAndV ta tb σ H Q := h
theorem w_orV (h : ta σ H fun x H1 => ∃ c, x = .bl c ∧ if c = true then Q (.bl true) H1 else tb σ H1 Q) : tOrV ta tb σ H Q := h
theorem w_notV (h : ta σ H fun x H1 => ∃ c, x = .bl c ∧ Q (.bl (!c)) H1) : tNotV ta σ H Q := h
theorem w_blP {b : Bool} {P : Bool → Prop} (h : P b) : ∃ c, V.bl b = .bl c ∧ P c := ⟨b, rfl, h⟩
theorem w_if (h : tt σ H fun c H1 => if c = true then ta σ H1 Q else tb σ H1 Q) : tIf tt ta tb σ H Q := h
theorem w_nil (h : QA [] H) : tNil σ H QA := h
theorem w_cons (h : ta σ H fun x H1 => tr σ H1 fun xs H2 => QA (x :: xs) H2) : tCons ta tr σ H QA := h
theorem w_call {sp : Sp} {dvs : List V} {E : XK} (h : tr σ H fun vs H1 => sp (vs ++ dvs) H1 Q E) : tCall sp dvs E tr σ H Q := h
theorem w_callS {sp : Sp} {E : L2.St → XK} (h : tr σ H fun vs H1 => sp vs H1 Q (E σ)) : tCallS sp E tr σ H Q := h
theorem w_cb {r : List V → Hp → VK → Prop} (h : tr σ H fun vs H1 => r vs H1 Q) : tCB r tr σ H Q := h
theorem w_tup (h : tr σ H fun xs H1 => xs.length ≤ sizeLine ∧ ∀ p, H1 p = none → Q (.ref p) (upd H1 p (.tup xs))) : tTup tr σ H Q := h
theorem w_lst (h : tr σ H fun xs H1 => xs.length ≤ sizeLine ∧ ∀ p, H1 p = none → Q (.ref p) (upd H1 p (.lst xs))) : tLst tr σ H Q := h
theorem w_par {j : Nat} (h : tr σ H fun vs H1 => ∃ v w, vs = [v, w] ∧ nx ((σ.set i (some v)).set j (some w)) H1) : tPar i j tr ⟨nx, rt, bk, ct⟩ σ H := h
theorem w_two {v w : V} {P : V → V → Prop} (h : P v w) : ∃ a b, [v, w] = [a, b] ∧ P a b := ⟨v, w, rfl, h⟩
-- by values
theorem w_addI {i j : Int} (h : Q (.int (i + j)) H) : aAdd K (.int i) (.int j) H Q := .inl ⟨i, j, rfl, rfl, h⟩
theorem w_I0 {g : Int → Int → V} {i j : Int} (h : Q (g i j) H) : rI0 g (.int i) (.int j) H Q := ⟨i, j, rfl, rfl, h⟩
theorem w_mul {i j : Int} (c : CMulW i j) (h : Q (.int (i * j)) H) : aMul (.int i) (.int j) H Q := ⟨i, j, rfl, rfl, c, h⟩
theorem w_mod {i j : Int} (c : j ≠ 0) (h : Q (.int (i.fmod j)) H) : aMod (.int i) (.int j) H Q := ⟨i, j, rfl, rfl, c, h⟩
theorem w_div {i j : Int} (c : j ≠ 0) (l : j.natAbs.log2 < 9000) (h : Q (.int (i.fdiv j)) H) : aDiv (.int i) (.int j) H Q := ⟨i, j, rfl, rfl, ⟨c, l⟩, h⟩
theorem w_divP {i : Int} {b : Nat} {j : Int} (c : 0 < j) (hb : j.natAbs < 2 ^ b) (h0 : 0 < b) (h9 : b ≤ 9000) (h : Q (.int (i / j)) H) : aDiv (.int i) (.int j) H Q :=
  w_div (by omega) (Nat.lt_of_lt_of_le (PySem.Flt.log2_lt_of h0 hb) h9) (by rw [Int.fdiv_eq_ediv_of_nonneg i (by omega)]; exact h)
theorem w_pow {i j : Int} (c : CPow i j) (h : Q (.int (i ^ j.toNat)) H) : aPow (.int i) (.int j) H Q := ⟨i, j, rfl, rfl, c, h⟩
theorem w_neg {i : Int} (h : Q (.int (-i)) H) : rU (fun i => .int (-i)) (.int i) H Q := ⟨i, rfl, h⟩
theorem w_eq (c : scal x y = true) (h : Q (.bl (decide (x = y))) H) : aEq K x y H Q := .inl ⟨c, h⟩
theorem w_ne (c : scal x y = true) (h : Q (.bl (!decide (x = y))) H) : aNe K x y H Q := .inl ⟨c, h⟩
theorem w_eqI {i j : Int} (h : Q (.bl (decide (i = j))) H) : aEq K (.int i) (.int j) H Q := .inl ⟨rfl, by
  have e : decide (V.int i = V.int j) = decide (i = j) := by
    by_cases q : i = j
    · simp [q]
    · have n : ¬ V.int i = V.int j := fun z => q (V.int.inj z)
      simp [q]
  rw [e]
  exact h⟩
theorem w_neI {i j : Int} (h : Q (.bl (!decide (i = j))) H) : aNe K (.int i) (.int j) H Q := .inl ⟨rfl, by
  have e : decide (V.int i = V.int j) = decide (i = j) := by
    by_cases q : i = j
    · simp [q]
    · have n : ¬ V.int i = V.int j := fun z => q (V.int.inj z)
      simp [q]
  rw [e]
  exact h⟩
theorem w_absI {i : Int} (h : Q (.int (if i < 0 then -i else i)) H) : aAbs [.int i] H Q := ⟨i, rfl, h⟩
theorem w_intI {i : Int} (h : Q (.int i) H) : aInt [.int i] H Q := .inl ⟨i, rfl, h⟩
theorem w_lenL {p : Addr} {ys : List V} (e : SqL K H p ys) (h : Q (.int ys.length) H) : aLen K [.ref p] H Q := ⟨p, ys, rfl, .inl e, h⟩
theorem w_lenT {p : Addr} {ys : List V} (e : SqT K H p ys) (h : Q (.int ys.length) H) : aLen K [.ref p] H Q := ⟨p, ys, rfl, .inr e, h⟩
theorem w_ixL {p : Addr} {ys : List V} {i : Int} (e : SqL K H p ys) (a : atI ys i = some v) (h : Q v H) : rIx K (.ref p) (.int i) H Q := .inl ⟨p, ys, i, v, rfl, rfl, e, a, h⟩
theorem w_ixT {p : Addr} {ys : List V} {i : Int} (e : SqT K H p ys) (a : atI ys i = some v) (h : Q v H) : rIx K (.ref p) (.int i) H Q := .inr (.inl ⟨p, ys, i, v, rfl, rfl, e, a, h⟩)
theorem w_ite {c : Bool} {A B : Prop} (h1 : c = true → A) (h2 : c = false → B) : if c = true then A else B := by
  cases c
  · exact h2 rfl
  · exact h1 rfl
theorem w_iteD {c : Prop} [Decidable c] {A B : Prop} (h1 : c → A) (h2 : ¬ c → B) : if decide c = true then A else B := by
  by_cases q : c
  · rw [if_pos (decide_eq_true q)]; exact h1 q
  · rw [if_neg (by simpa using q)]; exact h2 q
theorem w_iteN {c : Prop} [Decidable c] {A B : Prop} (h1 : ¬ c → A) (h2 : c → B) : if (!decide c) = true then A else B := by
  by_cases q : c
  · rw [if_neg (by simpa using q)]; exact h2 q
  · rw [if_pos (by simpa using q)]; exact h1 q
theorem w_iteT {A B : Prop} (h : A) : if true = true then A else B := by rw [if_pos rfl]; exact h
theorem w_iteF {A B : Prop} (h : B) : if false = true then A else B := by rw [if_neg Bool.false_ne_true]; exact h
end
end NL
set_option maxRecDepth 100000
set_option maxHeartbeats 2000000
/-! Defs kept: where a def stands, what it promises; calls by that. -/
namespace NL
open PySem PySem.Spec PyProof.Rows L2

/-- the statement st of the text stands as the def x -/
def Def (K : PySem.W.Frag) (mg : Str → Option Value) (x : Str) (st : Stmt) (ps : List Str) : Prop :=
  ∃ f fd, Fun K x x st f fd ∧ mg x = some (.ref f) ∧ Binds K fd ps []
/-- the def x keeps its promise -/
def Kept (P : Program) (w : World) (K : PySem.W.Frag) (mg : Str → Option Value) (base : Heap) (CX : CXT) (k : Nat) (x : Str) (st : Stmt) (ps : List Str) (sp : Sp) : Prop :=
  ∃ f fd, Fun K x x st f fd ∧ mg x = some (.ref f) ∧ Binds K fd ps [] ∧ FnOk P w K mg base CX k f fd ps sp
def KeptG (P : Program) (w : World) (K : PySem.W.Frag) (mg : Str → Option Value) (base : Heap) (CX : CXT) (k : Nat) (x : Str) (st : Stmt) (ps : List Str) (sp : Sp) : Prop :=
  ∃ f fd, Fun K x x st f fd ∧ mg x = some (.ref f) ∧ Binds K fd ps [] ∧ FnG P w K mg base CX k f fd ps sp
section
variable {P : Program} {w : World} {K : PySem.W.Frag} {mg : Str → Option Value} {base : Heap} {x : Str} {st : Stmt} {N ps : List Str} {k : Nat} {sp : Sp}
theorem Kept.imp {CX : CXT} {sp' : Sp} (O : Kept P w K mg base CX k x st ps sp) (h : ∀ vs H Q E, sp' vs H Q E → sp vs H Q E) : Kept P w K mg base CX k x st ps sp' := by
  obtain ⟨f, fd, a, b, c, d⟩ := O
  exact ⟨f, fd, a, b, c, d.imp h⟩
theorem keep0 (D : Def K mg x st ps) (S : FnScope N ps (defScope st)) (len : ∀ vs H Q E, sp vs H Q E → vs.length = ps.length)
    (hb : ∀ (f : Addr) (cdv : Value) (A : Around) (outer : List Env) (s : Shared) (H : Hp) (vs : List V) (Q : VK) (E : XK), Room k (A.deeper (envOfC x (defScope st) s.heap.objs.size f cdv)) → sp vs H Q E →
      ∃ t, PSs (cxOf CX0 P w K mg base N x (defScope st) f cdv A outer s H E).nox (defBody st) t ∧ t { nx := fun _ H' => Q .non H', rt := Q } (start N vs) H) :
    Kept P w K mg base CX0 (k + 1) x st ps sp := by
  obtain ⟨f, fd, F, g, b⟩ := D
  exact ⟨f, fd, F, g, b, F.ok S len fun cdv A outer s H vs Q E hr h => hb f cdv A outer s H vs Q E hr h⟩
theorem keepX (D : Def K mg x st ps) (S : FnScope N ps (defScope st)) (len : ∀ vs H Q E, sp vs H Q E → vs.length = ps.length)
    (hb : ∀ (f : Addr) (cdv : Value) (A : Around) (outer : List Env) (s : Shared) (H : Hp) (vs : List V) (Q : VK) (E : XK), Room k (A.deeper (envOfC x (defScope st) s.heap.objs.size f cdv)) → sp vs H Q E →
      ∃ t, PSs (cxOf (L2.CX P w) P w K mg base N x (defScope st) f cdv A outer s H E) (defBody st) t ∧ t { nx := fun _ H' => Q .non H', rt := Q } (start N vs) H) :
    Kept P w K mg base (L2.CX P w) (k + 1) x st ps sp := by
  obtain ⟨f, fd, F, g, b⟩ := D
  exact ⟨f, fd, F, g, b, F.okX S len fun cdv A outer s H vs Q E hr h => hb f cdv A outer s H vs Q E hr h⟩
theorem keepG (D : Def K mg x st ps) (S : FnScope N ps (defScope st)) (len : ∀ vs H Q E, sp vs H Q E → vs.length = ps.length)
    (hb : ∀ (f : Addr) (cdv : Value) (A : Around) (outer : List Env) (s : Shared) (H : Hp) (vs : List V) (Q : VK) (E : XK), A.guards = some [] → Room k (A.deeper (envOfC x (defScope st) s.heap.objs.size f cdv)) → sp vs H Q E →
      ∃ t, PSs (cxOf CX0 P w K mg base N x (defScope st) f cdv A outer s H E).nox (defBody st) t ∧ t { nx := fun _ H' => Q .non H', rt := Q } (start N vs) H) :
    KeptG P w K mg base CX0 (k + 1) x st ps sp := by
  obtain ⟨f, fd, F, g, b⟩ := D
  exact ⟨f, fd, F, g, b, okG F S len fun cdv A outer s H vs Q E hg hr h => hb f cdv A outer s H vs Q E hg hr h⟩
end

section
variable {X : Cx} {k : Nat} {st : Stmt} {ps : List Str} {sp : Sp} {x : Str} {p pos : Pos} {e : Expr} {es : List Expr} {t : TA}
/-- f(e, ..) -/
theorem pk_call (O : Kept X.prog X.w X.K X.mg X.base CX0 k x st ps sp) (hr : Room k X.A) (ha : PA X (e :: es) t) (hg : Gl X x := by rfl) (hdb : (x == ("__debug__" : Str)) = false := by decide)
    (he : starEach (e :: es) X.env = (false, eval e X.env) :: starEach es X.env := by rfl) (hpl : (backTo pos (starEach es X.env)).any (·.1) = false := by rfl) :
    PE X (.Call (.Name x p) (e :: es) [] pos) (tCall sp [] E0 t) := by
  obtain ⟨f, fd, F, g, b, ok⟩ := O
  exact pe_call ok hr hg g F.kp b .nil pass0 ha hdb he hpl
/-- f(e, ..), f may raise, but not here -/
theorem pk_callL (O : Kept X.prog X.w X.K X.mg X.base (L2.CX X.prog X.w) k x st ps sp) (hr : Room k X.A) (ha : PA X (e :: es) t) (hg : Gl X x := by rfl) (hdb : (x == ("__debug__" : Str)) = false := by decide)
    (he : starEach (e :: es) X.env = (false, eval e X.env) :: starEach es X.env := by rfl) (hpl : (backTo pos (starEach es X.env)).any (·.1) = false := by rfl) :
    PE X (.Call (.Name x p) (e :: es) [] pos) (tCall sp [] E0 t) := by
  obtain ⟨f, fd, F, g, b, ok⟩ := O
  exact pe_call ok hr hg g F.kp b .nil passL ha hdb he hpl
/-- f(e, ..), what f raises is handed on -/
theorem pk_callX {E : XK} (O : Kept X.prog X.w X.K X.mg X.base (L2.CX X.prog X.w) k x st ps sp) (tk : Takes X (fun cls d _ H => E cls d H)) (hr : Room k X.A) (ha : PA X (e :: es) t) (hg : Gl X x := by rfl) (hdb : (x == ("__debug__" : Str)) = false := by decide)
    (he : starEach (e :: es) X.env = (false, eval e X.env) :: starEach es X.env := by rfl) (hpl : (backTo pos (starEach es X.env)).any (·.1) = false := by rfl) :
    PE X (.Call (.Name x p) (e :: es) [] pos) (tCall sp [] E t) := by
  obtain ⟨f, fd, F, g, b, ok⟩ := O
  exact pe_call ok hr hg g F.kp b .nil (passes_call tk fun _ _ _ _ h => h) ha hdb he hpl
/-- f(e, ..), a guarded def -/
theorem pk_callG (O : KeptG X.prog X.w X.K X.mg X.base CX0 k x st ps sp) (hgd : X.A.guards = some []) (hr : Room k X.A) (ha : PA X (e :: es) t) (hg : Gl X x := by rfl) (hdb : (x == ("__debug__" : Str)) = false := by decide)
    (he : starEach (e :: es) X.env = (false, eval e X.env) :: starEach es X.env := by rfl) (hpl : (backTo pos (starEach es X.env)).any (·.1) = false := by rfl) :
    PE X (.Call (.Name x p) (e :: es) [] pos) (tCall sp [] E0 t) := by
  obtain ⟨f, fd, F, g, b, ok⟩ := O
  exact pe_callG ok hgd hr hg g F.kp b .nil pass0 ha hdb he hpl
end

/-! ### keywords: the values by place -/
def pick {α : Type} (idx : List Nat) (xs : List α) : List α := idx.filterMap fun i => xs[i]?
theorem pick_vals {vs : List V} {us : List Value} (r : Vals vs us) : ∀ idx : List Nat, Vals (pick idx vs) (pick idx us)
  | [] => .nil
  | i :: idx => by
    have ih := pick_vals r idx
    unfold pick at ih ⊢
    cases h : vs[i]? with
    | none =>
      rw [List.filterMap_cons_none h, List.filterMap_cons_none (r.none_of h)]
      exact ih
    | some v =>
      obtain ⟨u, hu, ru⟩ := r.get h
      rw [List.filterMap_cons_some h, List.filterMap_cons_some hu]
      exact .cons ru ih
/-- f(e, .., k = v, ..): n positional values, then the keywords' ones; idx puts them into the parameters' order -/
def tCallW (n m : Nat) (idx : List Nat) (sp : Sp) (E : XK) (t tk : TA) : TE := fun σ H Q => t σ H fun vs H1 => tk σ H1 fun zs H2 =>
  vs.length = n ∧ zs.length = m ∧ sp (pick idx (vs ++ zs)) H2 Q E
section
variable {X : Cx} {CX : CXT} {k n : Nat} {st : Stmt} {ps ks : List Str} {sp : Sp} {x : Str} {p pos : Pos} {e : Expr} {es : List Expr} {kws : List Keyword} {t tk : TA} {E : XK} {f : Addr} {fd : FuncData} {idx : List Nat}
def KwB (fd : FuncData) (ps ks : List Str) (n : Nat) (idx : List Nat) : Prop := ∀ us ws : List Value, us.length = n → ws.length = ks.length → bindArgs fd ⟨us, ks.zip ws⟩ = pure (ps.zip (pick idx (us ++ ws)))
/-- the text's own parameters, all given -/
def KwS (x : Str) (st : Stmt) (ps ks : List Str) (n : Nat) (idx : List Nat) : Prop := ∀ (kV doc pm : Value) (an : Option Addr) (cdv ct : Value), KwB (PySem.W.fnOf x x (defArgs st) (defBody st) (defScope st) .none kV doc pm an cdv ct) ps ks n idx
theorem KwS.kwb (h : KwS x st ps ks n idx) {K : PySem.W.Frag} (F : Fun K x x st f fd) : KwB fd ps ks n idx := by
  obtain ⟨oc, od, kV, doc, pm, an, cdv, ct, osl, rfl, _⟩ := F.ex
  exact h kV doc pm an cdv ct
theorem run_fnW {pins : List (Addr × Obj)} {σ : L2.St} {H : Hp} {s : Shared} {Q : VK} {us ws : List Value} {vs zs : List V} (F : FnOk X.prog X.w X.K X.mg X.base CX k f fd ps sp) (hr : Room k X.A) (hb : KwB fd ps ks n idx) (hx : Passes CX X E)
    (I : Inv X pins σ H s) (r : Vals vs us) (rz : Vals zs ws) (l1 : vs.length = n) (l2 : zs.length = ks.length) (h : sp (pick idx (vs ++ zs)) H Q E) :
    wpAny (model X.prog X.w) X.A (call (.ref f) us (ks.zip ws)) (EP X pins σ Q) X.xe s := by
  have run := F.run X.A X.stack s H ⟨us, ks.zip ws⟩ (pick idx (us ++ ws)) _ Q E hr I.env0 (.of_eq (hb us ws (r.length.symm.trans l1) (rz.length.symm.trans l2))) (pick_vals (r.append rz) idx) h
  refine wpAny_call (codeAny_mono run fun res s' hq => ?_)
  match res, hq with
  | .error e, hq => exact hx pins σ H s e s' I hq
  | .ok (.ret u), hq => exact I.after hq
theorem pk_callW {CX : CXT} (O : Kept X.prog X.w X.K X.mg X.base CX k x st ps sp) (hx : Passes CX X E) (hb : KwS x st ps ks n idx) (hr : Room k X.A) (ha : PA X (e :: es) t) (hkw : PK X kws tk) (hg : Gl X x := by rfl)
    (hall : (backToKw pos (keywordEach kws X.env)).all (·.1.isSome) = true := by rfl) (hks : (backToKw pos (keywordEach kws X.env)).filterMap (·.1) = ks := by rfl)
    (hdb : (x == ("__debug__" : Str)) = false := by decide) (he : starEach (e :: es) X.env = (false, eval e X.env) :: starEach es X.env := by rfl)
    (hpl : ((backTo pos (starEach (e :: es) X.env)).any (·.1) || (backToKw pos (keywordEach kws X.env)).any (·.1.isNone)) = false := by rfl) :
    PE X (.Call (.Name x p) (e :: es) kws pos) (tCallW n ks.length idx sp E t tk) := by
  obtain ⟨f, fd, F, g, b, ok⟩ := O
  constructor
  intro pins s σ H Q I h
  refine wpAny_Call_Name_kw (ld_glob I hg g ?_ hdb)
  refine PySem.W.callWith_KW (h₀ := X.base) I.ok.mod.kin F.kp hall (thn (ha.run pos pins s σ H _ I h) fun us s1 hh => ?_) hpl he
  obtain ⟨vs, H1, I1, r, q⟩ := hh
  refine thn (hkw.run pos pins s1 σ H1 _ I1 q) fun ws s2 hh => ?_
  obtain ⟨zs, H2, I2, rz, l1, l2, q2⟩ := hh
  refine ⟨I2.kIn, ?_⟩
  rw [hks]
  exact run_fnW ok hr (hb.kwb F) hx I2 r rz l1 l2 q2
/-- f(k = v, ..) -/
theorem pk_callW0 {CX : CXT} (O : Kept X.prog X.w X.K X.mg X.base CX k x st ps sp) (hx : Passes CX X E) (hb : KwS x st ps ks 0 idx) (hr : Room k X.A) (hkw : PK X kws tk) (hg : Gl X x := by rfl)
    (hall : (backToKw pos (keywordEach kws X.env)).all (·.1.isSome) = true := by rfl) (hks : (backToKw pos (keywordEach kws X.env)).filterMap (·.1) = ks := by rfl)
    (hdb : (x == ("__debug__" : Str)) = false := by decide)
    (hpl : (backToKw pos (keywordEach kws X.env)).any (·.1.isNone) = false := by rfl) :
    PE X (.Call (.Name x p) [] kws pos) (tCallW 0 ks.length idx sp E tNil tk) := by
  obtain ⟨f, fd, F, g, b, ok⟩ := O
  constructor
  intro pins s σ H Q I h
  refine wpAny_Call_Name_kw (ld_glob I hg g ?_ hdb)
  refine PySem.W.callWith_KW0 (h₀ := X.base) I.ok.mod.kin F.kp hall (thn (hkw.run pos pins s σ H _ I h) fun ws s2 hh => ?_) hpl
  obtain ⟨zs, H2, I2, rz, l1, l2, q2⟩ := hh
  refine ⟨I2.kIn, ?_⟩
  rw [hks]
  exact run_fnW (us := []) (vs := []) ok hr (hb.kwb F) hx I2 .nil rz l1 l2 q2
end
end NL
set_option maxRecDepth 100000
set_option maxHeartbeats 2000000
namespace NL
open PySem PySem.Spec PyProof.Rows L2

section
variable {K : PySem.W.Frag} {σ : L2.St} {H : Hp} {nx bk ct : L2.St → Hp → Prop} {rt Q : VK} {te ta tb : TE} {t u : TS} {tt tt2 : TT} {v x y : V} {i : Nat} {QT : Bool → Hp → Prop} {QA : List V → Hp → Prop} {tr : TA}
theorem w_while {m : Nat} (W : Nat → L2.St → Hp → Prop) (h0 : W m σ H) (hs : ∀ m σ H, W m σ H → tt σ H fun b H1 => if b = true then
    ∃ N : L2.St → Hp → Prop, (∀ σ' H', N σ' H' → ∃ m', m' < m ∧ W m' σ' H') ∧ t ⟨N, rt, nx, N⟩ σ H1 else nx σ H1) : tWhile tt t ⟨nx, rt, bk, ct⟩ σ H := ⟨W, ⟨m, h0⟩, hs⟩
theorem w_go {m : Nat} {W : Nat → L2.St → Hp → Prop} (h : t ⟨fun σ' H' => ∃ m', m' < m ∧ W m' σ' H', rt, nx, fun σ' H' => ∃ m', m' < m ∧ W m' σ' H'⟩ σ H) :
    ∃ N : L2.St → Hp → Prop, (∀ σ' H', N σ' H' → ∃ m', m' < m ∧ W m' σ' H') ∧ t ⟨N, rt, nx, N⟩ σ H := ⟨_, fun _ _ h => h, h⟩
theorem w_bm0 {T : String} {r : V → List V → Hp → VK → Prop} (h : te σ H fun x H1 => tyV K T x H1 ∧ r x [] H1 Q) : tBM0 K T r te σ H Q := h
theorem w_bm {T : String} {r : V → List V → Hp → VK → Prop} (h : te σ H fun x H1 => tyV K T x H1 ∧ tr σ H1 fun xs H2 => r x xs H2 Q) : tBM K T r te tr σ H Q := h
theorem w_callW {n m : Nat} {idx : List Nat} {sp : Sp} {E : XK} {tk : TA} (h : tr σ H fun vs H1 => tk σ H1 fun zs H2 => vs.length = n ∧ zs.length = m ∧ sp (pick idx (vs ++ zs)) H2 Q E) : tCallW n m idx sp E tr tk σ H Q := h
theorem w_sub {T : TSet} (h : te σ H fun x H1 => ta σ H1 fun o H1 => tb σ H1 fun i H2 => T o i x H2 fun H3 => nx σ H3) : tAsg te (gSub ta tb T) ⟨nx, rt, bk, ct⟩ σ H := h
theorem tyL {l : Addr} {xs : List V} (h : H l = some (.lst xs)) : tyV K "list" (.ref l) H := .inl ⟨rfl, _, SqL.of h⟩
/-- isinstance against a built-in class -/
theorem w_isi {x : V} {T U : String} {b : Bool} (ty : TyX K H x (.type T)) (e : kitB T U = some b) (h : Q (.bl b) H) : aIsi K [x, .ty U] H Q :=
  .inl ⟨x, .ty U, _, _, b, rfl, .ty U, ty, kit_ty e, h⟩
end
theorem w_iteNF {A B : Prop} (h : A) : if (!false) = true then A else B := h
theorem w_iteNT {A B : Prop} (h : B) : if (!true) = true then A else B := by
  rw [if_neg (by decide)]
  exact h
theorem ty_same {K : PySem.W.Frag} {H H' : Hp} {x : V} {t : Value} (e : Same H H') (h : TyX K H x t) : TyX K H' x t := by
  cases h with
  | base h =>
    cases h with
    | non => exact .base .non
    | bl x => exact .base (.bl x)
    | int i => exact .base (.int i)
    | str x => exact .base (.str x)
    | flt x => exact .base (.flt x)
    | lst h => exact .base (.lst (e _ _ h))
    | frz h => exact .base (.frz (e _ _ h))
    | tup h => exact .base (.tup (e _ _ h))
    | dK h => exact .base (.dK (e _ _ h))
    | dT h => exact .base (.dT (e _ _ h))
    | ins h cl a b c d => exact .base (.ins (e _ _ h) cl a b c d)
  | byt b => exact .byt b
  | set h => exact .set (e _ _ h)
  | kList h c => exact .kList h c
  | kTuple h c => exact .kTuple h c
  | kDict h c => exact .kDict h c
  | fTuple h => exact .fTuple (e _ _ h)
  | fDict h => exact .fDict (e _ _ h)
section
variable {X : Cx}
theorem sl_any : SlR X (fun x lo hi H Q => rSlL X.K x lo hi H Q ∨ rSlA X.K x lo hi H Q) := SlR.or sl_list sl_tupA
end

/-! ### comprehensions whose element leaves what stands -/
section
variable {K : PySem.W.Frag} {σ : L2.St} {H : Hp} {Q : VK} {tl te : TE} {tt : TT} {vs : List Nat} {j : Nat} {a : Addr} {xs : List V}
theorem Same.newT {H : Hp} {p : Addr} {o : HO} (h : H p = none) : Same H (upd H p o) := fun b u e => by
  rw [upd_ne (ne_of_none e h)]
  exact e
theorem Same.putT {H H' : Hp} {p : Addr} {o : HO} (e : Same H H') (h : H p = none) : Same H (upd H' p o) := fun b u ha => by
  rw [upd_ne (ne_of_none ha h)]
  exact e b u ha
theorem same_t {K : PySem.W.Frag} {H H' : Hp} {a : Addr} {xs : List V} (e : Same H H') (h : SqT K H a xs) : SqT K H' a xs := by
  rcases h with (h | ⟨o, h⟩) | h
  · exact .inl (.inl (e _ _ h))
  · exact .inl (.inr ⟨o, e _ _ h⟩)
  · exact .inr h
theorem paired_snoc {α β : Type} {F : α → β → Prop} : ∀ {l1 : List α} {l2 : List β} {x : α} {y : β}, Paired F l1 l2 → F x y → Paired F (l1 ++ [x]) (l2 ++ [y])
  | _, _, _, _, .nil, h => .cons h .nil
  | _, _, _, _, .cons h t, k => .cons h (paired_snoc t k)
theorem take_snoc {α : Type} {l : List α} {i : Nat} {x : α} (h : l[i]? = some x) : l.take (i + 1) = l.take i ++ [x] := by
  rw [List.take_succ, h]
  rfl
/-- what a turn asks: x the item, the slots with it, any heap that kept what stood -/
def LcTurn (tt : TT) (te : TE) (R : V → V → Hp → Prop) (p : V → Bool) (H : Hp) (x : V) (σ2 : L2.St) : Prop :=
  ∀ H1, Same H H1 → ∀ Q : Bool → Hp → Prop, (∀ H2, Same H1 H2 → Q (p x) H2) → tt σ2 H1 Q
def LcElt (te : TE) (R : V → V → Hp → Prop) (H : Hp) (x : V) (σ2 : L2.St) : Prop :=
  ∀ H1, Same H H1 → ∀ Q : VK, (∀ y H2, Same H1 H2 → R x y H2 → Q y H2) → te σ2 H1 Q
structure LcAt (R : V → V → Hp → Prop) (H : Hp) (D : Addr) (zs : List V) (H' : Hp) : Prop where
  nw : H D = none
  sm : Same H H'
  at_ : ∃ ys, H' D = some (.lst ys) ∧ Paired (fun x y => R x y H') zs ys
theorem LcAt.turn {R : V → V → Hp → Prop} {p : V → Bool} {D : Addr} {zs : List V} {H' : Hp} {x : V} {σ2 : L2.St} {Nx : Hp → Prop} (mono : ∀ x y H1 H2, R x y H1 → (∀ b o, b ≠ D → H1 b = some o → H2 b = some o) → R x y H2)
    (L : LcAt R H D zs H') (hz : zs.length < sizeLine) (ht : LcTurn tt te R p H x σ2) (he : p x = true → LcElt te R H x σ2) (k1 : p x = true → ∀ H2, LcAt R H D (zs ++ [x]) H2 → Nx H2) (k2 : p x = false → ∀ H2, LcAt R H D zs H2 → Nx H2) :
    tt σ2 H' fun b H3 => if b = true then te σ2 H3 fun y H4 => ∃ acc, H4 D = some (.lst acc) ∧ acc.length < sizeLine ∧ Nx (upd H4 D (.lst (acc ++ [y]))) else Nx H3 := by
  obtain ⟨nw, sm, ys, e, pr⟩ := L
  have pm : ∀ {H1 H2 : Hp} {l1 l2 : List V}, Paired (fun x y => R x y H1) l1 l2 → (∀ b o, b ≠ D → H1 b = some o → H2 b = some o) → Paired (fun x y => R x y H2) l1 l2 := fun q s => Paired.mapP q fun a b r => mono a b _ _ r s
  refine ht H' sm _ fun H3 s3 => ?_
  cases hp : p x with
  | false =>
    rw [if_neg Bool.false_ne_true]
    exact k2 hp H3 ⟨nw, sm.trans s3, ys, s3 _ _ e, pm pr fun b o _ q => s3 b o q⟩
  | true =>
    rw [if_pos rfl]
    refine he hp H3 (sm.trans s3) _ fun y H4 s4 r => ?_
    have hl : ys.length < sizeLine := by
      have := Paired.length pr
      omega
    refine ⟨ys, s4 _ _ (s3 _ _ e), hl, k1 hp _ ⟨nw, Same.putT ((sm.trans s3).trans s4) nw, _, upd_same, ?_⟩⟩
    have far : ∀ b o, b ≠ D → H4 b = some o → upd H4 D (.lst (ys ++ [y])) b = some o := fun b o hb q => by
      rw [upd_ne hb]
      exact q
    exact paired_snoc (pm (pm (pm pr fun b o _ q => s3 b o q) fun b o _ q => s4 b o q) far) (mono _ _ _ _ r far)
/-- what the building of a list asks of its walk -/
def LcGo (J : It) (j : Nat) (tt : TT) (te : TE) (vs : List Nat) (σ : L2.St) (H : Hp) (Q : VK) : Prop :=
    ∀ D, H D = none → ∃ W : Nat → Nat → Hp → Prop, (∃ m, W 0 m (upd H D (.lst []))) ∧ ∀ i m H, W i m H →
      (J.stop i H ∧ Q (.ref D) H) ∨ (J.go i H ∧ ∃ Nx : Hp → Prop, (∀ H', Nx H' → ∃ m', m' < m ∧ W (i + 1) m' H') ∧ ∀ x H', J.yld i H x H' → gName j x (wipe σ vs) H' fun σ2 H2 => wipe σ2 vs = wipe σ vs ∧ tt σ2 H2 fun b H3 =>
        if b = true then te σ2 H3 fun y H4 => ∃ acc, H4 D = some (.lst acc) ∧ acc.length < sizeLine ∧ Nx (upd H4 D (.lst (acc ++ [y]))) else Nx H3)
theorem w_lcT (h : tl σ H fun x H1 => ∃ a, x = .ref a ∧ (∃ xs, SqT K H1 a xs) ∧ LcGo (Itt K a) j tt te vs σ H1 Q) : tLc (iTup K tl) (gName j) tt te vs σ H Q := h
theorem w_lcL (h : tl σ H fun x H1 => ∃ a, x = .ref a ∧ (∃ xs, SqL K H1 a xs) ∧ LcGo (Itl K a) j tt te vs σ H1 Q) : tLc (iList K tl) (gName j) tt te vs σ H Q := h
theorem w_ref {a : Addr} {P : Addr → Prop} (h : P a) : ∃ b, V.ref a = .ref b ∧ P b := ⟨a, rfl, h⟩
theorem lc_tup_rel (R : V → V → Hp → Prop) (p : V → Bool) (hS : SqT K H a xs) (hz : xs.length < sizeLine) (hw : ∀ x, wipe ((wipe σ vs).set j (some x)) vs = wipe σ vs)
    (mono : ∀ D, H D = none → ∀ x y H1 H2, R x y H1 → (∀ b o, b ≠ D → H1 b = some o → H2 b = some o) → R x y H2)
    (ht : ∀ x ∈ xs, LcTurn tt te R p H x ((wipe σ vs).set j (some x))) (he : ∀ x ∈ xs, p x = true → LcElt te R H x ((wipe σ vs).set j (some x)))
    (hq : ∀ D H', LcAt R H D (xs.filter p) H' → Q (.ref D) H') :
    LcGo (Itt K a) j tt te vs σ H Q := fun D hD =>
  lc_tup (K := K) (a := a) (xs := xs) (Qd := fun H' => Q (.ref D) H') (fun i H' => LcAt R H D ((xs.take i).filter p) H') ⟨hD, Same.newT hD, [], upd_same, .nil⟩ (fun i H' _ L => same_t L.sm hS)
    (fun i x H' hx L => ⟨hw x, L.turn (mono D hD) (Nat.lt_of_le_of_lt (Nat.le_trans (List.length_filter_le _ _) (List.length_take_le _ _)) (Nat.lt_of_lt_of_le (List.getElem?_eq_some_iff.mp hx).1 (Nat.le_of_lt hz))) (ht x (List.mem_of_getElem? hx)) (he x (List.mem_of_getElem? hx))
      (fun hp H2 L2 => by rw [take_snoc hx, List.filter_append, List.filter_cons, if_pos hp]; exact L2) (fun hp H2 L2 => by rw [take_snoc hx, List.filter_append, List.filter_cons, if_neg (by rw [hp]; decide)]; simpa using L2)⟩)
    (fun H' L => by rw [List.take_length] at L; exact hq D H' L)
theorem lc_lst_rel (R : V → V → Hp → Prop) (p : V → Bool) (hS : SqL K H a xs) (hz : xs.length < sizeLine) (hw : ∀ x, wipe ((wipe σ vs).set j (some x)) vs = wipe σ vs)
    (mono : ∀ D, H D = none → ∀ x y H1 H2, R x y H1 → (∀ b o, b ≠ D → H1 b = some o → H2 b = some o) → R x y H2)
    (ht : ∀ x ∈ xs, LcTurn tt te R p H x ((wipe σ vs).set j (some x))) (he : ∀ x ∈ xs, p x = true → LcElt te R H x ((wipe σ vs).set j (some x)))
    (hq : ∀ D H', LcAt R H D (xs.filter p) H' → Q (.ref D) H') :
    LcGo (Itl K a) j tt te vs σ H Q := fun D hD =>
  lc_list (K := K) (a := a) (xs := xs) (Qd := fun H' => Q (.ref D) H') (fun i H' => LcAt R H D ((xs.take i).filter p) H') ⟨hD, Same.newT hD, [], upd_same, .nil⟩ (fun i H' _ L => L.sm.seq hS)
    (fun i x H' hx L => ⟨hw x, L.turn (mono D hD) (Nat.lt_of_le_of_lt (Nat.le_trans (List.length_filter_le _ _) (List.length_take_le _ _)) (Nat.lt_of_lt_of_le (List.getElem?_eq_some_iff.mp hx).1 (Nat.le_of_lt hz))) (ht x (List.mem_of_getElem? hx)) (he x (List.mem_of_getElem? hx))
      (fun hp H2 L2 => by rw [take_snoc hx, List.filter_append, List.filter_cons, if_pos hp]; exact L2) (fun hp H2 L2 => by rw [take_snoc hx, List.filter_append, List.filter_cons, if_neg (by rw [hp]; decide)]; simpa using L2)⟩)
    (fun H' L => by rw [List.take_length] at L; exact hq D H' L)
theorem turn_yes {R : V → V → Hp → Prop} {x : V} {σ2 : L2.St} : LcTurn tYes te R (fun _ => true) H x σ2 := fun H1 _ Q q => q H1 (Same.refl H1)
theorem filter_true {α : Type} (l : List α) : l.filter (fun _ => true) = l := by
  induction l with
  | nil => rfl
  | cons a l ih => rw [List.filter_cons, if_pos rfl, ih]
/-- the elements are values that hang on the item alone -/
theorem paired_eq {f : V → V} : ∀ {xs ys : List V}, Paired (fun x y => y = f x) xs ys → ys = xs.map f
  | _, _, .nil => rfl
  | _, _, .cons h t => by rw [h, paired_eq t]; rfl
end
theorem ru64 {k : Nat} {A : Around} (r : Room k A) : A.units + 64 < cLine := r.units
theorem ru65 {k : Nat} {A : Around} (r : Room k A) : A.units + 65 < cLine := by
  have := r.un
  omega
end NL
set_option maxRecDepth 100000
set_option maxHeartbeats 2000000
/-! Loops over lists, slices, lists of ints as data; the deal of a law. -/
namespace NL
open PySem PySem.Spec PyProof.Rows L2

section
variable {K : PySem.W.Frag} {σ : L2.St} {H : Hp} {nx bk ct : L2.St → Hp → Prop} {rt Q : VK} {te ta tl : TE} {t u : TS} {v x y : V} {i : Nat} {D : Ends} {g : TG} {tr : TA} {a : Addr} {xs : List V}
theorem w_sl {r : V → Option Int → Option Int → Hp → VK → Prop} {tp tq : TO} (h : te σ H fun x H1 => tp σ H1 fun l H2 => tq σ H2 fun u H3 => r x l u H3 Q) : tSl r te tp tq σ H Q := h
theorem w_npart {Q : Option Int → Hp → Prop} (h : Q none H) : tNoPart σ H Q := h
theorem w_part {Q : Option Int → Hp → Prop} (h : te σ H fun x H1 => ∃ i, x = .int i ∧ Q (some i) H1) : tPart te σ H Q := h
theorem w_iv {j : Int} {P : Int → Prop} (h : P j) : ∃ i, V.int j = .int i ∧ P i := ⟨j, rfl, h⟩
theorem w_slL {lo hi : Option Int} (e : SqL K H a xs) (h : ∀ p, H p = none → Q (.ref p) (upd H p (.lst (cutV xs lo hi)))) : (rSlL K (.ref a) lo hi H Q ∨ rSlA K (.ref a) lo hi H Q) := .inl ⟨a, xs, rfl, e, h⟩
theorem w_rev (h : te σ H fun x H1 => ∃ a xs, x = .ref a ∧ SqL K H1 a xs ∧ ∀ p, H1 p = none → Q (.ref p) (upd H1 p (.lst xs.reverse))) : tRevL K te σ H Q := h
theorem w_rev1 (e : SqL K H a xs) (h : ∀ p, H p = none → Q (.ref p) (upd H p (.lst xs.reverse))) : ∃ b ys, V.ref a = .ref b ∧ SqL K H b ys ∧ ∀ p, H p = none → Q (.ref p) (upd H p (.lst ys.reverse)) := ⟨a, xs, rfl, e, h⟩
/-- what a loop asks of its walk -/
def ForGo (J : It) (g : TG) (tb : TS) (D : Ends) (σ : L2.St) (H : Hp) : Prop :=
  ∃ W : Nat → Nat → L2.St → Hp → Prop, (∃ m, W 0 m σ H) ∧ ∀ i m σ H, W i m σ H →
      (J.stop i H ∧ D.nx σ H) ∨ (J.go i H ∧ ∃ N : L2.St → Hp → Prop, (∀ σ' H', N σ' H' → ∃ m', m' < m ∧ W (i + 1) m' σ' H') ∧ ∀ x H', J.yld i H x H' → g x σ H' fun σ2 H2 => tb { D with nx := N, ct := N, bk := D.nx } σ2 H2)
theorem w_forL (h : tl σ H fun x H1 => ∃ a, x = .ref a ∧ (∃ xs, SqL K H1 a xs) ∧ ForGo (Itl K a) g t D σ H1) : tFor (iList K tl) g t D σ H := h
theorem w_forT (h : tl σ H fun x H1 => ∃ a, x = .ref a ∧ (∃ xs, SqT K H1 a xs) ∧ ForGo (Itt K a) g t D σ H1) : tFor (iTup K tl) g t D σ H := h
theorem w_forR1 (h : tr σ H fun vs H1 => ∃ j : Int, vs = [.int j] ∧ -(2 ^ 62) ≤ j ∧ j < 2 ^ 62 ∧ ForGo (Itr 0 j.toNat) g t D σ H1) : tFor (iRng1 tr) g t D σ H := h
theorem w_one {j : Int} {P : Int → Prop} (h : P j) : ∃ i, [V.int j] = [.int i] ∧ P i := ⟨j, rfl, h⟩
theorem fgL {g : TG} {tb : TS} (Pv : Nat → L2.St → Hp → Prop) (h0 : Pv 0 σ H) (hl : ∀ i σ H, i ≤ xs.length → Pv i σ H → SqL K H a xs)
    (hs : ∀ i x σ H, xs[i]? = some x → Pv i σ H → g x σ H fun σ2 H2 => tb ⟨Pv (i + 1), D.rt, D.nx, Pv (i + 1)⟩ σ2 H2) (hd : ∀ σ H, Pv xs.length σ H → D.nx σ H) : ForGo (Itl K a) g tb D σ H := for_list Pv h0 hl hs hd
theorem fgT {g : TG} {tb : TS} (Pv : Nat → L2.St → Hp → Prop) (h0 : Pv 0 σ H) (hl : ∀ i σ H, i ≤ xs.length → Pv i σ H → SqT K H a xs)
    (hs : ∀ i x σ H, xs[i]? = some x → Pv i σ H → g x σ H fun σ2 H2 => tb ⟨Pv (i + 1), D.rt, D.nx, Pv (i + 1)⟩ σ2 H2) (hd : ∀ σ H, Pv xs.length σ H → D.nx σ H) : ForGo (Itt K a) g tb D σ H := for_tup Pv h0 hl hs hd
theorem fgR {lo : Int} {n : Nat} {g : TG} {tb : TS} (Pv : Nat → L2.St → Hp → Prop) (h0 : Pv 0 σ H)
    (hs : ∀ i σ H, i < n → Pv i σ H → g (.int (lo + i)) σ H fun σ2 H2 => tb ⟨Pv (i + 1), D.rt, D.nx, Pv (i + 1)⟩ σ2 H2) (hd : ∀ σ H, Pv n σ H → D.nx σ H) : ForGo (Itr lo n) g tb D σ H := for_range Pv h0 hs hd
theorem w_g {P : L2.St → Hp → Prop} (h : P (σ.set i (some v)) H) : gName i v σ H P := h
theorem w_append {l : Addr} (e : H l = some (.lst xs)) (z : xs.length < sizeLine) (h : Q .non (upd H l (.lst (xs ++ [y])))) : rAppend (.ref l) [y] H Q := ⟨l, xs, y, rfl, rfl, e, z, h⟩
theorem w_pop {l : Addr} (e : H l = some (.lst xs)) (z : xs[xs.length - 1]? = some y) (h : Q y (upd H l (.lst xs.dropLast))) : tyV K "list" (.ref l) H ∧ rPop (.ref l) [] H Q := ⟨tyL e, l, xs, y, rfl, rfl, e, z, h⟩
theorem w_setL {l : Addr} {k : Int} {j : Nat} {N : Hp → Prop} (e : H l = some (.lst xs)) (z : ixN xs.length k = some j) (h : N (upd H l (.lst (xs.set j v)))) : rSetL (.ref l) (.int k) v H N := ⟨l, xs, k, j, rfl, rfl, e, z, h⟩
end

/-! ### ints as data -/
def dInts (ns : List Int) : List PyData := ns.map .int
section
variable {K : PySem.W.Frag} {H : Hp}
theorem dp_ints : ∀ ns : List Int, DpAll K H (ns.map V.int) (dInts ns)
  | [] => .nil
  | n :: ns => .cons (.int n) (dp_ints ns)
theorem lay_ints : ∀ ns : List Int, PyData.canLayAll0 (dInts ns) = true
  | [] => rfl
  | n :: ns => by
    show (PyData.canLay0 (.int n) && PyData.canLayAll0 (dInts ns)) = true
    rw [lay_ints ns]
    rfl
theorem dep_ints : ∀ ns : List Int, PyData.depthAll (dInts ns) = 0
  | [] => rfl
  | n :: ns => by
    show max (PyData.depth (.int n)) (PyData.depthAll (dInts ns)) = 0
    rw [dep_ints ns]
    rfl
theorem shp_list (ns : List Int) : SeqAt.shaped (.list (dInts ns)) = true := by
  unfold SeqAt.shaped
  rw [show PyData.canLay0 (.list (dInts ns)) = PyData.canLayAll0 (dInts ns) from rfl, lay_ints, show PyData.depth (.list (dInts ns)) = PyData.depthAll (dInts ns) + 1 from rfl, dep_ints]
  rfl
theorem shp_tup (ns : List Int) : SeqAt.shaped (.tuple (dInts ns)) = true := by
  unfold SeqAt.shaped
  rw [show PyData.canLay0 (.tuple (dInts ns)) = PyData.canLayAll0 (dInts ns) from rfl, lay_ints, show PyData.depth (.tuple (dInts ns)) = PyData.depthAll (dInts ns) + 1 from rfl, dep_ints]
  rfl
theorem eqv_ints : ∀ ns ms : List Int, PyData.eqvAll (dInts ns) (dInts ms) = decide (ns = ms)
  | [], [] => rfl
  | [], m :: ms => rfl
  | n :: ns, [] => rfl
  | n :: ns, m :: ms => by
    show ((n == m) && PyData.eqvAll (dInts ns) (dInts ms)) = _
    rw [eqv_ints ns ms]
    by_cases h : n = m
    · subst h
      by_cases h2 : ns = ms
      · subst h2
        simp
      · simp [h2]
    · simp [h]
theorem w_neL {x y : Addr} {ns ms : List Int} {Q : VK} (hx : SqL K H x (ns.map V.int)) (hy : SqL K H y (ms.map V.int)) (h : Q (.bl (!decide (ns = ms))) H) : aNe K (.ref x) (.ref y) H Q :=
  .inr ⟨.list (dInts ns), .list (dInts ms), .lst hx (dp_ints ns), .lst hy (dp_ints ms), shp_list ns, shp_list ms, by
    rw [show PyData.eqv (.list (dInts ns)) (.list (dInts ms)) = PyData.eqvAll (dInts ns) (dInts ms) from rfl, eqv_ints]
    exact h⟩
theorem w_eqT {x y : Addr} {ns ms : List Int} {Q : VK} (hx : SqT K H x (ns.map V.int)) (hy : SqT K H y (ms.map V.int)) (h : Q (.bl (decide (ns = ms))) H) : aEq K (.ref x) (.ref y) H Q :=
  .inr ⟨.tuple (dInts ns), .tuple (dInts ms), .tup hx (dp_ints ns), .tup hy (dp_ints ms), shp_tup ns, shp_tup ms, by
    rw [show PyData.eqv (.tuple (dInts ns)) (.tuple (dInts ms)) = PyData.eqvAll (dInts ns) (dInts ms) from rfl, eqv_ints]
    exact h⟩
end

/-! ### the deal -/
/-- the deal at a: its cells at l -/
structure DealAt (H : Hp) (a l : Addr) : Prop where
  ne : l ≠ a
  ex : ∃ (ns : List Int) (b : Int), H a = some (.lst [.ref l, .int b]) ∧ H l = some (.lst (ns.map V.int)) ∧ (∀ n ∈ ns, 0 ≤ n) ∧ ns.length ≤ 48 ∧ 0 ≤ b ∧ b < 2147483647
/-- all else stands as it stood -/
def Fr (a l : Addr) (H H' : Hp) : Prop := ∀ b o, H b = some o → b ≠ a → b ≠ l → H' b = some o
theorem Fr.refl {a l : Addr} {H : Hp} : Fr a l H H := fun _ _ e _ _ => e
theorem Fr.trans {a l : Addr} {H H1 H2 : Hp} (x : Fr a l H H1) (y : Fr a l H1 H2) : Fr a l H H2 := fun b o e h1 h2 => y b o (x b o e h1 h2) h1 h2
theorem Fr.same {a l : Addr} {H H1 : Hp} (x : Same H H1) : Fr a l H H1 := fun b o e _ _ => x b o e
theorem Fr.updA {a l : Addr} {H H1 : Hp} {o : HO} (x : Fr a l H H1) : Fr a l H (upd H1 a o) := fun b o e h1 h2 => by
  rw [upd_ne h1]
  exact x b o e h1 h2
theorem Fr.updL {a l : Addr} {H H1 : Hp} {o : HO} (x : Fr a l H H1) : Fr a l H (upd H1 l o) := fun b o e h1 h2 => by
  rw [upd_ne h2]
  exact x b o e h1 h2
theorem Fr.newT {a l p : Addr} {H H1 : Hp} {o : HO} (x : Fr a l H H1) (h : H1 p = none) : Fr a l H (upd H1 p o) := fun b o e h1 h2 => by
  have q := x b o e h1 h2
  rw [upd_ne (ne_of_none q h)]
  exact q
theorem DealAt.same {H H' : Hp} {a l : Addr} (d : DealAt H a l) (e : Same H H') : DealAt H' a l := by
  obtain ⟨ne, ns, b, h1, h2, h3⟩ := d
  exact ⟨ne, ns, b, e _ _ h1, e _ _ h2, h3⟩
theorem DealAt.keep {H H' : Hp} {a l c : Addr} {o : HO} (d : DealAt H a l) (f : Fr a l H H') (e : H c = some o) (ho : ∀ xs, o ≠ .lst xs) : H' c = some o := by
  obtain ⟨ne, ns, b, h1, h2, h3⟩ := d
  refine f c o e (fun z => ?_) (fun z => ?_)
  · subst z
    rw [e] at h1
    exact ho _ (Option.some.inj h1)
  · subst z
    rw [e] at h2
    exact ho _ (Option.some.inj h2)
theorem DealAt.sqT {K : PySem.W.Frag} {H H' : Hp} {a l c : Addr} {xs : List V} (d : DealAt H a l) (f : Fr a l H H') (h : SqT K H c xs) : SqT K H' c xs := by
  rcases h with (h | ⟨o, h⟩) | h
  · exact .inl (.inl (d.keep f h fun _ e => by cases e))
  · exact .inl (.inr ⟨o, d.keep f h fun _ e => by cases e⟩)
  · exact .inr h
theorem Fr.sqL {K : PySem.W.Frag} {H H' : Hp} {a l c : Addr} {xs : List V} (f : Fr a l H H') (h : SqL K H c xs) (n1 : c ≠ a) (n2 : c ≠ l) : SqL K H' c xs := by
  rcases h with (h | ⟨o, h⟩) | h
  · exact .inl (.inl (f _ _ h n1 n2))
  · exact .inl (.inr ⟨o, f _ _ h n1 n2⟩)
  · exact .inr h
theorem map_drop_last (ns : List Int) : (ns.map V.int).dropLast = (ns.dropLast).map V.int := by
  rw [List.map_dropLast]
theorem at_last {ns : List Int} (h : ns ≠ []) : atI (ns.map V.int) (-1) = some (.int (ns.getLast h)) := by
  have hp : 0 < ns.length := List.length_pos_iff.mpr h
  unfold atI ixN
  rw [List.length_map, if_neg (by omega), if_pos (by omega)]
  show (ns.map V.int)[(-1 + (ns.length : Int)).toNat]? = _
  rw [show (-1 + (ns.length : Int)).toNat = ns.length - 1 by omega, List.getElem?_map, ← List.getLast?_eq_getElem?, List.getLast?_eq_some_getLast h]
  rfl
theorem get_last {ns : List Int} (h : ns ≠ []) : (ns.map V.int)[(ns.map V.int).length - 1]? = some (.int (ns.getLast h)) := by
  rw [List.length_map, List.getElem?_map, ← List.getLast?_eq_getElem?, List.getLast?_eq_some_getLast h]
  rfl
theorem mem_drop_last {ns : List Int} {n : Int} (h : n ∈ ns.dropLast) : n ∈ ns := List.dropLast_subset ns h
theorem last_mem {ns : List Int} (h : ns ≠ []) : ns.getLast h ∈ ns := List.getLast_mem h
theorem none_same {H H' : Hp} {b : Addr} (e : Same H H') (h : H' b = none) : H b = none := by
  cases q : H b with
  | none => rfl
  | some o =>
    rw [e b o q] at h
    cases h
theorem cut_to (xs : List V) (n : Nat) : cutV xs none (some (n : Int)) = xs.take n := by
  unfold cutV
  show List.take (HT.sIx xs.length xs.length (some (n : Int)) - 0) (xs.drop 0) = _
  rw [List.drop_zero, Nat.sub_zero]
  have : HT.sIx xs.length xs.length (some (n : Int)) = min n xs.length := HT.sIx_nat _ _ _
  rw [this]
  rcases Nat.le_total n xs.length with h | h
  · rw [Nat.min_eq_left h]
  · rw [Nat.min_eq_right h, List.take_length, List.take_of_length_le h]
theorem abs_nat (i : Int) : (if i < 0 then -i else i) = ((i.natAbs : Nat) : Int) := by
  split <;> omega
/-- a number below n is drawn -/
def spAny : Sp := fun vs H Q _ => ∃ (a l : Addr) (n : Int), vs = [.ref a, .int n] ∧ 0 < n ∧ n < 2 ^ 100 ∧ DealAt H a l ∧ ∀ r H', 0 ≤ r → r < n → DealAt H' a l → Fr a l H H' → Q (.int r) H'
/-- one of some ints is drawn -/
def spOf (K : PySem.W.Frag) : Sp := fun vs H Q _ => ∃ (a l s : Addr) (xs : List V), vs = [.ref a, .ref s] ∧ DealAt H a l ∧ SqL K H s xs ∧ s ≠ a ∧ s ≠ l ∧ 0 < xs.length ∧ xs.length ≤ 2 ^ 24 ∧
  ∀ x ∈ xs, ∀ H', DealAt H' a l → Fr a l H H' → Q x H'
/-- the deal is laid -/
def spDraw (K : PySem.W.Frag) : Sp := fun vs H Q _ => ∃ (p : Addr) (ns : List Int) (z : Int), vs = [.ref p, .int z] ∧ SqL K H p (ns.map V.int) ∧ 0 ≤ z ∧ z < 10000 ∧
  ∀ a l H', H a = none → H l = none → DealAt H' a l → Same H H' → Q (.ref a) H'
end NL
set_option maxRecDepth 100000
set_option maxHeartbeats 2000000
/-! The end of a law by a guarded promise, its tables of code objects at hand; lambdas handed to a def that hears one error. -/
namespace NL
open PySem PySem.Spec PyProof.Rows L2

/-- the tables' places -/
abbrev tabs (cs : List (Addr × Addr)) : List Addr := cs.map (·.2)
/-- what is tracked at the entry: the script, if it is no object of the module, and the empty tables -/
structure AtEntryT (K : PySem.W.Frag) (a : Addr) (ob : Obj) (xs : List V) (cs : List (Addr × Addr)) (H : Hp) : Prop where
  one : ∀ b u, H b = some u → (b = a ∧ u = .frz ob (.lst xs)) ∨ (b ∈ tabs cs ∧ u = .tbl #[])
  tb : ∀ p ∈ cs, H p.2 = some (.tbl #[])
  own : ∀ u, H a = some u → K.lookup a = none
  red : SqL K H a xs
theorem entry_mkT {K : PySem.W.Frag} {h : Heap} {a : Addr} {us : List Value} {xs : List V} {cs : List (Addr × Addr)} (KX : K.In h)
    (ha : h.get? a = some { cls := .type "list", data := .seq us.toArray }) (r : Vals xs us) (hz : us.length ≤ sizeLine)
    (na : a ∉ tabs cs) : ∃ H : Hp, AtEntryT K a { cls := .type "list", data := .seq us.toArray } xs cs H := by
  obtain ⟨H0, E⟩ := entry_mk KX ha r hz
  refine ⟨fun b => if b ∈ tabs cs then some (.tbl #[]) else H0 b, fun b u e => ?_, fun p hp => ?_, fun u e => ?_, ?_⟩
  · by_cases hb : b ∈ tabs cs
    · have e' := (if_pos hb).symm.trans e
      exact .inr ⟨hb, (Option.some.inj e').symm⟩
    · have e' := (if_neg hb).symm.trans e
      exact .inl (E.one b u e')
  · exact if_pos (List.mem_map.mpr ⟨p, hp, rfl⟩)
  · exact E.own u ((if_neg na).symm.trans e)
  · have at_a : (fun b => if b ∈ tabs cs then some (HO.tbl #[]) else H0 b) a = H0 a := if_neg na
    rcases E.red with (q | ⟨o, q⟩) | q
    · exact .inl (.inl (at_a.trans q))
    · exact .inl (.inr ⟨o, at_a.trans q⟩)
    · exact .inr q

theorem call_lawT {P : Program} {w : World} {K : PySem.W.Frag} {mg mb : Str → Option Value} {CX : CXT} {k : Nat} {fa a : Addr} {cs : List (Addr × Addr)}
    {fd : FuncData} {x : Str} {sp : Sp} {s₁ : Shared} {us : List Value} {ns : List Int}
    (KX : K.In s₁.heap) (hns : s₁.heap.Ns mainGlobals mg) (hb : s₁.heap.Ns builtinsNs mb)
    (hbb : ∀ x : Str, x ≠ "__name__" → mb x = bootBuiltins x) (hlim : s₁.heap.NoLimit) (hg : s₁.gens = #[])
    (tabAt : ∀ p ∈ cs, s₁.heap.get? p.2 = some { cls := .none, data := .fields #[] }) (tabK : ∀ p ∈ cs, K.lookup p.2 = none)
    (heads : ∀ p ∈ cs, PySem.W.CodeHd s₁.heap p.1 p.2)
    (hbm : ∃ (bm : Addr) (ob : Obj), mg "__builtins__" = some (.ref bm) ∧ bm ≠ builtinsNs ∧ s₁.heap.get? bm = some ob ∧
      ob.cls = .type "module" ∧ ob.dict = some builtinsNs ∧ ob.data = .plain)
    (ha : s₁.heap.get? a = some { cls := .type "list", data := .seq us.toArray }) (hi : IntsAre us ns)
    (hl : ns.length ≤ sizeLine) (hr : Room k callerA)
    (F : ∀ base : Heap, K.In base → base.Ns mainGlobals mg → (∀ p ∈ cs, LamX.TabB base mg p.1 p.2) → FnG P w K mg base CX k fa fd [x] sp)
    (hbind : ∀ (s : Shared) (u : Value), BindsTo s fd ⟨[u], []⟩ [(x, u)])
    (hsp : ∀ H : Hp, (∀ p ∈ cs, H p.2 = some (.tbl #[])) → SqL K H a (ns.map V.int) → sp [.ref a] H (fun v _ => v = .bl true) fun _ _ _ => False)
    (hCX : ∀ H e s', CX [] H s₁ (fun _ _ _ => False) e s' → False) :
    codeAny (model P w) callerA (.call (.ref fa) ⟨[.ref a], []⟩)
      (fun r s' => r = .ok (.ret (.bool true)) ∧ OldK s₁.heap s'.heap ∧ s'.os = s₁.os ∧ AllBare s'.gens) s₁ := by
  have rv := vals_ints hi
  have hlu : us.length ≤ sizeLine := by
    rw [← hi.length] at hl
    exact hl
  have tabOf : ∀ b ∈ tabs cs, s₁.heap.get? b = some { cls := .none, data := .fields #[] } := by
    intro b hb
    obtain ⟨p, hp, rfl⟩ := List.mem_map.mp hb
    exact tabAt p hp
  have na : a ∉ tabs cs := by
    intro z
    have q := (tabOf a z).symm.trans ha
    have d : Data.fields #[] = Data.seq us.toArray _ := congrArg Obj.data (Option.some.inj q)
    cases d
  obtain ⟨H, E⟩ := entry_mkT (cs := cs) KX ha rv hlu na
  have still : ∀ {b : Addr} {o : Obj}, s₁.heap.get? b = some o → H b = none → (hidT s₁.heap H).get? b = some o := fun e n => hidT_get e n
  -- an object that is no sequence and no empty table is not tracked
  have free : ∀ {b : Addr} {o : Obj}, s₁.heap.get? b = some o → (∀ vs n, o.data ≠ .seq vs n) → o.data ≠ .fields #[] → H b = none := by
    intro b o e d1 d2
    match hb : H b with
    | none => rfl
    | some u =>
      rcases E.one b u hb with ⟨rfl, _⟩ | ⟨m, _⟩
      · cases e.symm.trans ha
        exact absurd rfl (d1 _ _)
      · cases e.symm.trans (tabOf b m)
        exact absurd rfl d2
  have ns' : ∀ {b : Addr} {m : Str → Option Value}, s₁.heap.Ns b m → (hidT s₁.heap H).Ns b m := by
    intro b m q
    obtain ⟨o, es, ep, e, d, r⟩ := q
    exact ⟨o, es, ep, still e (free e (fun vs n z => by rw [d] at z; cases z) fun z => by rw [d] at z; cases z), d, r⟩
  have KB : K.In (hidT s₁.heap H) := by
    intro b o e
    refine still (KX b o e) ?_
    match hb : H b with
    | none => rfl
    | some u =>
      rcases E.one b u hb with ⟨rfl, _⟩ | ⟨m, _⟩
      · rw [E.own u hb] at e
        cases e
      · obtain ⟨p, hp, rfl⟩ := List.mem_map.mp m
        rw [tabK p hp] at e
        cases e
  have lim' : (hidT s₁.heap H).NoLimit := by
    obtain ⟨mc, h1, h2⟩ := hlim
    exact ⟨mc, ns' h1, h2⟩
  have hok : HOk P w H s₁.heap := by
    intro b u e
    rcases E.one b u e with ⟨rfl, rfl⟩ | ⟨m, rfl⟩
    · exact ⟨ha, by rw [List.length_map]; exact hl, us, _, rv, ha⟩
    · exact tabOf b m
  have TB : ∀ p ∈ cs, LamX.TabB (hidT s₁.heap H) mg p.1 p.2 := by
    intro p hp
    have tp := tabAt p hp
    constructor
    · obtain ⟨o, vs, fl, tf, fg, tg, inF, tx, tt, e1, c1, c2, rest⟩ := heads p hp
      refine ⟨o, vs, fl, tf, fg, tg, inF, tx, tt, still e1 (free e1 (fun vs n z => ?_) fun z => ?_), c1, c2, rest⟩
      · rw [c2] at z
        cases z
      · rw [c2] at z
        cases z
        obtain ⟨r3, _⟩ := rest
        simp at r3
    · obtain ⟨bm, ob, b1, b2, b3, b4, b5, b6⟩ := hbm
      have nP : bm ≠ p.2 := by
        rintro rfl
        cases b3.symm.trans tp
        cases b6
      have nG : bm ≠ mainGlobals := by
        rintro rfl
        obtain ⟨o, es, ep, e, d, _⟩ := hns
        cases b3.symm.trans e
        cases b6.symm.trans d
      exact ⟨bm, ob, b1, b2, nG, nP, still b3 (free b3 (fun vs n z => by cases b6.symm.trans z) fun z => by cases b6.symm.trans z), b4, b5, b6⟩
    · intro z
      obtain ⟨o, es, ep, e, d, _⟩ := hns
      rw [z] at e
      cases e.symm.trans tp
      cases d
  have e0 : Env0 P w K mg (hidT s₁.heap H) callerA [] s₁ H :=
    { frames := rfl, mod := ⟨KB, ns' hns, ⟨mb, ns' hb, hbb⟩, lim'⟩, bs := fun b o e => of_hidT e,
      bsz := Nat.le_of_eq (hidT_size _ _), funs := trivial, frf := fun b z => absurd (show b ∈ ([] : List Addr) from z) (by simp),
      hok := hok, bare := .of_eq hg }
  have run := (F _ KB (ns' hns) TB).runG callerA [] s₁ H ⟨[.ref a], []⟩ [.ref a] [.ref a] (fun v _ => v = .bl true) (fun _ _ _ => False)
    rfl hr e0 (hbind s₁ (.ref a)) (.cons rfl .nil) (hsp H E.tb E.red)
  refine codeAny_mono run fun res s' hq => ?_
  match res, hq with
  | .error e, hq => exact (hCX H e s' hq).elim
  | .ok (.ret u), hq =>
    obtain ⟨v, H', os, bare, un, hok', r', q⟩ := hq
    subst q
    obtain rfl : u = Value.bool true := r'
    have plainOnes : ∀ b o, b ∉ tabs cs → s₁.heap.get? b = some o → s'.heap.get? b = some o := by
      intro b o nb e
      match hb : H b with
      | none => exact un.keep b o e hb (fun z => absurd (show b ∈ ([] : List Addr) from z) (by simp)) (by simp)
      | some u =>
        rcases E.one b u hb with ⟨rfl, rfl⟩ | ⟨m, _⟩
        · obtain ⟨e1, _⟩ := hok b _ hb
          obtain ⟨e2, _⟩ := hok' b _ (un.frzs b _ _ hb)
          cases e.symm.trans e1
          exact e2
        · exact absurd m nb
    have tabOnes : ∀ p ∈ cs, ∃ more : Array Value, s'.heap.get? p.2 = some { cls := .none, data := .fields more } := by
      intro p hp
      obtain ⟨more, z⟩ := un.tbls p.2 #[] (E.tb p hp)
      exact ⟨_, hok' p.2 _ z⟩
    refine ⟨rfl, ⟨fun b o e => ?_, fun b o e => ?_⟩, os, bare⟩
    · by_cases m : b ∈ tabs cs
      · obtain ⟨p, hp, rfl⟩ := List.mem_map.mp m
        obtain ⟨more, hm⟩ := tabOnes p hp
        cases e.symm.trans (tabAt p hp)
        refine .inr (.inl ⟨((heads p hp).tab (tabAt p hp)).isCodeTable, rfl, #[], more, rfl, ?_⟩)
        rw [Array.empty_append]
        exact hm
      · exact .inl (plainOnes b o m e)
    · by_cases m : b ∈ tabs cs
      · obtain ⟨p, hp, rfl⟩ := List.mem_map.mp m
        obtain ⟨more, hm⟩ := tabOnes p hp
        exact ⟨_, hm⟩
      · exact ⟨o, plainOnes b o m e⟩

/-- what is known of the law's def at the head's heap -/
def LawG (l : PySem.W.OpenLaw) (w : World) (K : PySem.W.Frag) (CX : CXT) (k n : Nat) (x : Str) (mg : Str → Option Value) (fa : Addr) (h : Heap) : Prop :=
  ∃ (fd : FuncData) (cs : List (Addr × Addr)) (sp : Sp), (∀ p ∈ cs, h.get? p.2 = some { cls := .none, data := .fields #[] } ∧ K.lookup p.2 = none ∧ PySem.W.CodeHd h p.1 p.2) ∧
    (∀ (s : Shared) (u : Value), BindsTo s fd ⟨[u], []⟩ [(x, u)]) ∧
    (∀ (H : Hp) (a : Addr) (ns : List Int), ns.length ≤ n → (∀ z ∈ ns, Builtin.Int.intBits z ≤ 1048576) → (∀ p ∈ cs, H p.2 = some (.tbl #[])) → SqL K H a (ns.map V.int) →
      sp [.ref a] H (fun v _ => v = .bl true) fun _ _ _ => False) ∧
    ∀ base : Heap, K.In base → base.Ns mainGlobals mg → (∀ p ∈ cs, LamX.TabB base mg p.1 p.2) → FnG l.prog w K mg base CX k fa fd [x] sp
/-- the goal that k_head leaves, from the law's def -/
theorem walkGT {l : PySem.W.OpenLaw} {n k : Nat} {q : Program} {loose : List Str} {XP : (Str → Option Value) → Heap → Prop}
    {YP : World → Heap → Prop} {d : DefRec} {K : Params → PySem.W.Frag} {CX : CXT} {x : Str}
    (hn : l.most = some n) (hn2 : n ≤ sizeLine) (hdf : d.params.defaults = []) (hr : Room k callerA)
    (hY : ∀ (w : World) (h : Heap), YP w h → (K w.params).In h)
    (F : ∀ (w : World) (mg : Str → Option Value) (fa : Addr) (h : Heap), YP w h → (K w.params).In h → h.Ns mainGlobals mg → mg d.name = some (.ref fa) →
      LawG l w (K w.params) CX k n x mg fa h)
    (hCX : ∀ (H : Hp) (s : Shared) (e : Value) (s' : Shared), CX [] H s (fun _ _ _ => False) e s' → False) :
    PySem.W.WalkO q loose XP YP l.row.toRowW d [] (fun f vs => PySem.call f vs) := by
  refine Att.attach_callB hn hdf fun w s₀ s₁ mg mb fa o pm cd doc a vs ns G Y ho hd hcd hmg hobj hints hlen hbits hg => ?_
  obtain ⟨fd, cs, sp, ht, hb, hsp, hF⟩ := F w mg fa _ Y (hY w _ Y) G.T.g hmg
  exact call_lawT (hY w _ Y) G.T.g G.T.b G.T.builtins G.T.nolimit hg (fun p hp => (ht p hp).1) (fun p hp => (ht p hp).2.1) (fun p hp => (ht p hp).2.2) G.T.bmain
    hobj hints (Nat.le_trans hlen hn2) hr hF hb (fun H hH hS => hsp H a ns hlen hbits hH hS) fun H e s' => hCX H s₁ e s'

/-! ### defs whose code object is known -/
def DefC (K : PySem.W.Frag) (mg : Str → Option Value) (x : Str) (st : Stmt) (ps : List Str) (c : Addr) : Prop :=
  ∃ f fd, Fun K x x st f fd ∧ mg x = some (.ref f) ∧ Binds K fd ps [] ∧ fd.code = .ref c
theorem DefC.def {K : PySem.W.Frag} {mg : Str → Option Value} {x : Str} {st : Stmt} {ps : List Str} {c : Addr} (D : DefC K mg x st ps c) : Def K mg x st ps := by
  obtain ⟨f, fd, F, g, b, _⟩ := D
  exact ⟨f, fd, F, g, b⟩
section
variable {P : Program} {w : World} {K : PySem.W.Frag} {mg : Str → Option Value} {base : Heap} {x : Str} {st : Stmt} {N ps : List Str} {k : Nat} {sp : Sp} {c : Addr}
theorem keepGC (D : DefC K mg x st ps c) (S : FnScope N ps (defScope st)) (len : ∀ vs H Q E, sp vs H Q E → vs.length = ps.length)
    (hb : ∀ (f : Addr) (A : Around) (outer : List Env) (s : Shared) (H : Hp) (vs : List V) (Q : VK) (E : XK), A.guards = some [] → Room k (A.deeper (envOfC x (defScope st) s.heap.objs.size f (.ref c))) → sp vs H Q E →
      ∃ t, PSs (cxOf CX0 P w K mg base N x (defScope st) f (.ref c) A outer s H E).nox (defBody st) t ∧ t { nx := fun _ H' => Q .non H', rt := Q } (start N vs) H) :
    KeptG P w K mg base CX0 (k + 1) x st ps sp := by
  obtain ⟨f, fd, F, g, b, hc⟩ := D
  have G : FnG P w K mg base CX0 (k + 1) f fd ps sp := by
    obtain ⟨oc, od, kV, doc, pm, an, cdv, ct, osl, rfl, lk, hcd⟩ := F.ex
    have e : cdv = .ref c := hc
    subst e
    refine ⟨len, fun A outer s H args us vs Q E hg hr e0 hbd r hsp => ?_⟩
    refine LamX.run_ofS lk hcd S hr e0 hbd r (len _ _ _ _ hsp) fun hr' => ?_
    obtain ⟨t, h, q⟩ := hb f A outer s H vs Q E hg hr' hsp
    exact ⟨t, h.nox, q⟩
  exact ⟨f, fd, F, g, b, G⟩
end

/-! ### a lambda handed to a def that hears one error and answers what it bears -/
/-- the error of the class C that is heard: the clause names Cx, the look is for Cn -/
structure Heard (K : PySem.W.Frag) (C Cx Cn : Addr) : Prop where
  yes : PySem.W.exmOne K (.ref C) (.ref Cx) = some true
  ec : ExcC K C
  isn : PySem.W.kitOne K (.ref C) (.ref Cn) = some true
  noAt : PySem.W.findIn K (.ref C) "at" = some none
/-- try: a() / except Cx as e: return e.at if isinstance(e, Cn) else None / return None -/
def TRef (K : PySem.W.Frag) (Cx Cn : Addr) : (XK → Hp → VK → Prop) → Hp → VK → Prop := fun tl H Q =>
  tl (fun cls d H' => ∃ (C dd : Addr) (v : V), cls = .ref C ∧ d = some dd ∧ Heard K C Cx Cn ∧ H' dd = some (.xd [("at", v)]) ∧ Q v H') H fun _ H' => Q .non H'
/-- the call of what was handed in, as a statement; n slots -/
def tAct (n : Nat) (f c' : Addr) (q : Str) (tl : XK → Hp → VK → Prop) (W : WX) : TS := fun D σ H => ∃ Ech : XK, (∀ cls d σ' H', σ'.length = n → Ech cls d H' → W cls d σ' H') ∧
  σ[0]? = some (some (.ref f)) ∧ H c' = some (LamX.CodeO c' q) ∧ tl Ech H fun _ H' => D.nx σ H'
section
variable {X Y : Cx} {f c' : Addr} {q a : Str} {tl : XK → Hp → VK → Prop}
/-- the call read by its act -/
def Acts (Y : Cx) (f c' : Addr) (q a : Str) (tl : XK → Hp → VK → Prop) : Prop := ∀ (W : WX) (pn : List (Addr × Obj)) (xe : Value → Shared → Prop) (E : XK) (p1 p2 : Pos), Takes (Y.tr pn xe) W → (∀ cls d σ' H', E cls d H' → W cls d σ' H') →
      PE (Y.tr pn xe) (.Call (.Name a p1) [] [] p2) (fun σZ HZ Q => σZ[0]? = some (some (.ref f)) ∧ HZ c' = some (LamX.CodeO c' q) ∧ tl E HZ Q)
theorem takes_len {W : WX} (t : Takes X W) : Takes X (fun cls d σ H => σ.length = X.N.length → W cls d σ H) := fun u s' ⟨a, B, sI, pins, σ, H, cls, d, e, I, nb, up, sky, na, os, ag, w⟩ =>
  t u s' ⟨a, B, sI, pins, σ, H, cls, d, e, I, nb, up, sky, na, os, ag, w I.len⟩
theorem pss_act {W : WX} {pn : List (Addr × Obj)} {xe : Value → Shared → Prop} {p1 p2 p3 : Pos} (act : Acts Y f c' q a tl) (tk : Takes (Y.tr pn xe) W) :
    PSs (Y.tr pn xe) [.Expr (.Call (.Name a p1) [] [] p2) p3] (tAct Y.N.length f c' q tl W) := by
  constructor
  intro pins s σ H D I h
  obtain ⟨Ech, hW, h1, h2, h3⟩ := h
  exact (pss_one (ps_expr (act _ pn xe Ech p1 p2 (takes_len tk) fun cls d σ' H' he hl => hW cls d σ' H' hl he))).run pins s σ H D I ⟨h1, h2, h3⟩
/-- x(lambda: e): x a kept def -/
theorem pk_lam {T : List (Addr × Str)} {TT : (XK → Hp → VK → Prop) → Hp → VK → Prop} {x : Str} {st : Stmt} {c P : Addr} {k : Nat} {Ng : List Str} {params : Arguments} {body : Expr} {scope : Scope} {t : XK → TE} {p lpos pos : Pos}
    (D : Def X.K X.mg x st [a]) (Sg : FnScope Ng [a] (defScope st)) (hNg : Ng[0]? = some a) (hva : Vis (defScope st) a)
    (hG : ∀ g cdg, LamX.GivesTo X Ng x (defScope st) g cdg (defBody st) a (X.env.qual ++ "<lambda>") TT)
    (TB : LamX.TabB X.base X.mg c P) (hcode : X.env.code = .ref c) (hmT : (P, X.env.qual ++ "<lambda>") ∈ T) (hu : ∀ p ∈ T, p.1 = P → p.2 = X.env.qual ++ "<lambda>")
    (hr : Room (k + 2) X.A) (L : LamX.LamS X.env.scope scope)
    (hbody : ∀ (A : Around) (outer : List Env) (s : Shared) (H : Hp) (E : XK) (f c' : Addr), Room k (A.deeper (LamX.lamEnv X scope s.heap.objs.size f c')) → PE (LamX.lamCx X A outer s H E scope f c') body (t E))
    (hg : Gl X x := by rfl) (hdef : defaultsOf params X.env = ([], []) := by rfl)
    (hbind : ∀ (q : Str) (cl : List (Str × Addr)) (pm cv ctv : Value), bindArgs (PySem.W.kla_fn "<lambda>" q params body scope cl pm cv ctv) ⟨[], []⟩ = pure [] := by intros; rfl)
    (hdb : (x == ("__debug__" : Str)) = false := by decide) (hd : (a == ("__debug__" : Str)) = false := by decide) (hcd : (a == ("__classdict__" : Str)) = false := by decide) :
    PE X (.Call (.Name x p) [.Lambda params body scope lpos] [] pos) (LamX.tLam T TT t) := by
  obtain ⟨g, fd, F, hm, b⟩ := D
  obtain ⟨oc, od, kV, doc, pm, an, cdv, ct, osl, rfl, lk, hcd'⟩ := F.ex
  exact LamX.pe_lamcall hg hm F.kp lk hcd' b Sg hNg hva (hG g cdv) TB hcode hmT hu hr L hdef hbind hbody hdb hd hcd
end
/-! ### what stays through a lambda's call -/
section
open LamX
theorem ExtN.seqT {K : PySem.W.Frag} {H H' : Hp} {c : Addr} {xs : List V} (e : ExtN H H') (h : SqT K H c xs) : SqT K H' c xs := by
  rcases h with (h | ⟨o, h⟩) | h
  · exact .inl (.inl (e _ _ h fun _ z => by cases z))
  · exact .inl (.inr ⟨o, e _ _ h fun _ z => by cases z⟩)
  · exact .inr h
theorem DealAt.extN {H H' : Hp} {a l : Addr} (d : DealAt H a l) (e : ExtN H H') : DealAt H' a l := by
  obtain ⟨ne, ns, b, h1, h2, h3⟩ := d
  exact ⟨ne, ns, b, e _ _ h1 (fun _ z => by cases z), e _ _ h2 (fun _ z => by cases z), h3⟩
theorem DealAt.tabs {H H' : Hp} {a l : Addr} {T : List (Addr × Str)} (d : DealAt H a l) (f : Fr a l H H') (t : Tabs T H) : Tabs T H' := by
  intro p hp
  obtain ⟨ps, h1, h2, h3⟩ := t p hp
  refine ⟨ps, d.keep f h1 (fun _ z => by cases z), h2, fun pos cv hc => ?_⟩
  obtain ⟨c, e, q⟩ := h3 pos cv hc
  exact ⟨c, e, d.keep f q (fun _ z => by unfold CodeO at z; cases z)⟩
end
end NL
set_option maxRecDepth 100000
set_option maxHeartbeats 2000000
/-! repr of ints and tuples of ints. -/
namespace NL
open PySem PySem.Spec PyProof.Rows L2

section
variable {K : PySem.W.Frag} {H : Hp} {Q : VK}
theorem small_show {i : Int} {n : Nat} (h : i.natAbs < 2 ^ n) (h0 : 0 < n) (hn : n ≤ 1900) : i.natAbs.log2 < 1920 := Nat.lt_of_lt_of_le (PySem.Flt.log2_lt_of h0 h) (by omega)
theorem w_rprI {i : Int} (h : i.natAbs.log2 < 1920) (q : Q (.str (toString i)) H) : rRepr K [.int i] H Q :=
  ⟨.int i, .int i, rfl, .int i, decide_eq_true h, rfl, show 0 ≤ 60 by decide, Nat.le_trans (int_text_len_1921 h) (by decide +kernel), q⟩
theorem w_rprB {b : Bool} (q : Q (.str (PyData.shown (.bool b))) H) : rRepr K [.bl b] H Q :=
  ⟨.bl b, .bool b, rfl, .bl b, rfl, rfl, show 0 ≤ 60 by decide, by cases b <;> decide +kernel, q⟩
theorem showable_ints : ∀ ns : List Int, (∀ n ∈ ns, n.natAbs.log2 < 1920) → PyData.showableAll (dInts ns) = true
  | [], _ => rfl
  | n :: ns, h => by
    show (PyData.showable (.int n) && PyData.showableAll (dInts ns)) = true
    rw [showable_ints ns fun m hm => h m (List.mem_cons_of_mem _ hm), Bool.and_true]
    exact decide_eq_true (h n List.mem_cons_self)
theorem noDict_ints : ∀ ns : List Int, PyData.hasDictAll (dInts ns) = false
  | [] => rfl
  | n :: ns => by
    show (PyData.hasDict (.int n) || PyData.hasDictAll (dInts ns)) = false
    rw [noDict_ints ns]
    rfl
theorem piled_ints : ∀ ns : List Int, (∀ n ∈ ns, n.natAbs.log2 < 1920) → piled (PyData.shownAll (dInts ns)) ≤ ns.length * 1923
  | [], _ => Nat.le_refl _
  | n :: ns, h => by
    have ih := piled_ints ns fun m hm => h m (List.mem_cons_of_mem _ hm)
    have h1 : (PyData.shown (.int n)).length ≤ 1921 := int_text_len_1921 (h n List.mem_cons_self)
    show piled (PyData.shown (.int n) :: PyData.shownAll (dInts ns)) ≤ (ns.length + 1) * 1923
    rw [piled_cons]
    omega
/-- repr of a tuple of ints -/
theorem w_rprT {a : Addr} {ns : List Int} (S : SqT K H a (ns.map V.int)) (h : ∀ n ∈ ns, n.natAbs.log2 < 1920) (hl : ns.length ≤ 1000) (q : Q (.str (PyData.shown (.tuple (dInts ns)))) H) : rRepr K [.ref a] H Q := by
  refine ⟨.ref a, .tuple (dInts ns), rfl, .tup S (dp_ints ns), showable_ints ns h, noDict_ints ns, ?_, ?_, q⟩
  · show PyData.depthAll (dInts ns) + 1 ≤ 60
    rw [dep_ints]
    decide
  · have hp := piled_ints ns h
    show (tupleText (PyData.shownAll (dInts ns))).length ≤ sizeLine
    have hz : sizeLine = 16777216 := by decide +kernel
    have hj : (Str.join ", " (PyData.shownAll (dInts ns))).length ≤ piled (PyData.shownAll (dInts ns)) := by
      by_cases e : PyData.shownAll (dInts ns) = []
      · rw [e]
        decide +kernel
      · have := join_length_add _ e
        omega
    unfold tupleText
    rw [Str.length_append, Str.length_append]
    have h1 : ("(" : Str).length = 1 := by decide +kernel
    have h2 : ((if (PyData.shownAll (dInts ns)).length == 1 then ",)" else ")" : String) : Str).length ≤ 2 := by
      split <;> decide +kernel
    omega
theorem w_neS {x y : Str} (h : Q (.bl (!decide (x = y))) H) : aNe K (.str x) (.str y) H Q := .inl ⟨rfl, by
  rw [show decide (V.str x = V.str y) = decide (x = y) from decide_eq_decide.mpr ⟨fun e => by cases e; rfl, fun e => by rw [e]⟩]
  exact h⟩
theorem w_eqS {x y : Str} (h : Q (.bl (decide (x = y))) H) : aEq K (.str x) (.str y) H Q := .inl ⟨rfl, by
  rw [show decide (V.str x = V.str y) = decide (x = y) from decide_eq_decide.mpr ⟨fun e => by cases e; rfl, fun e => by rw [e]⟩]
  exact h⟩
end
section
variable {K : PySem.W.Frag} {σ : L2.St} {H : Hp} {nx bk ct : L2.St → Hp → Prop} {rt Q : VK} {te : TE} {x y v : V} {a : Addr} {xs vs : List V} {n : Nat} {t : TGs} {g : TG} {N : L2.St → Hp → Prop}
theorem w_asgT (h : te σ H fun v H1 => gTup K n t v σ H1 nx) : tAsg te (gTup K n t) ⟨nx, rt, bk, ct⟩ σ H := h
theorem w_gtup (S : SqT K H a xs) (e : xs.length = n) (h : t xs σ H N) : gTup K n t (.ref a) σ H N := ⟨a, xs, rfl, S, e, h⟩
theorem w_gcons (h : g v σ H fun σ' H' => t vs σ' H' N) : gCons g t (v :: vs) σ H N := ⟨v, vs, rfl, h⟩
theorem w_gnil (h : N σ H) : gNil [] σ H N := ⟨rfl, h⟩
theorem w_nisS {b : Bool} (h : Q (.bl false) H) : aNis (.bl b) (.bl b) H Q := .inl ⟨b, b, rfl, rfl, by rw [decide_eq_true rfl]; exact h⟩
theorem w_nisB {b c : Bool} (h : Q (.bl (!decide (b = c))) H) : aNis (.bl b) (.bl c) H Q := .inl ⟨b, c, rfl, rfl, h⟩
end
end NL
set_option maxRecDepth 100000
set_option maxHeartbeats 2000000
/-! What the end of a law gathers. -/
namespace NL
open PySem PySem.Spec PyProof.Rows L2

section
variable {P : Program} {K : PySem.W.Frag} {h : Heap} {mg : Str → Option Value}
/-- a def where the written part shows it -/
theorem def_mk {x : Str} {st : Stmt} {ps : List Str} {f : Addr} {oc : Value} {od an : Option Addr} {osl : Array (Option Value)} {kV doc pm cdv ct : Value} (X : K.In h) (G : h.Ns mainGlobals mg)
    (hx : PySem.W.nsIn K mainGlobals x = some (some (.ref f)))
    (l : K.lookup f = some ⟨oc, od, .func (PySem.W.fnOf x x (defArgs st) (defBody st) (defScope st) .none kV doc pm an cdv ct), osl⟩)
    (c : PySem.W.codeIn K cdv x = true) (k : PySem.W.keepIn K (.ref f) = true)
    (hb : ∀ (kV doc pm : Value) (an : Option Addr) (cdv ct : Value) (us : List Value), us.length = ps.length → bindArgs (PySem.W.fnOf x x (defArgs st) (defBody st) (defScope st) .none kV doc pm an cdv ct) ⟨us, []⟩ = pure (ps.zip us)) :
    Def K mg x st ps := ⟨f, _, fun_mk l c k, PySem.W.mg_of X G hx, (fun_mk l c k).binds hb⟩
theorem defC_mk {x : Str} {st : Stmt} {ps : List Str} {f c0 : Addr} {oc : Value} {od an : Option Addr} {osl : Array (Option Value)} {kV doc pm ct : Value} (X : K.In h) (G : h.Ns mainGlobals mg)
    (hx : PySem.W.nsIn K mainGlobals x = some (some (.ref f)))
    (l : K.lookup f = some ⟨oc, od, .func (PySem.W.fnOf x x (defArgs st) (defBody st) (defScope st) .none kV doc pm an (.ref c0) ct), osl⟩)
    (c : PySem.W.codeIn K (.ref c0) x = true) (k : PySem.W.keepIn K (.ref f) = true)
    (hb : ∀ (kV doc pm : Value) (an : Option Addr) (cdv ct : Value) (us : List Value), us.length = ps.length → bindArgs (PySem.W.fnOf x x (defArgs st) (defBody st) (defScope st) .none kV doc pm an cdv ct) ⟨us, []⟩ = pure (ps.zip us)) :
    DefC K mg x st ps c0 := ⟨f, _, fun_mk l c k, PySem.W.mg_of X G hx, (fun_mk l c k).binds hb, rfl⟩

/-! ### an error's class -/
theorem exm_of {C D : Addr} (h1 : PySem.W.subIn K (.ref C) (.type "BaseException") = some true) (h2 : PySem.W.isClsIn K C = true)
    (h1' : PySem.W.subIn K (.ref D) (.type "BaseException") = some true) (h2' : PySem.W.isClsIn K D = true) (h3 : PySem.W.typeIn K (.ref D) = some (.type "type"))
    {b : Bool} (h4 : PySem.W.subIn K (.ref C) (.ref D) = some b) : PySem.W.exmOne K (.ref C) (.ref D) = some b := by
  have a1 : (PySem.W.subIn K (.ref D) (.type "BaseException") == some true) = true := by rw [h1'] <;> rfl
  have a2 : ((PySem.W.clsIn K D).isSome && PySem.W.typeIn K (.ref D) == some (.type "type")) = true := by
    have q : (PySem.W.clsIn K D).isSome = true := h2'
    rw [q, h3] <;> rfl
  show (if (PySem.W.subIn K (.ref D) (.type "BaseException") == some true) = true then (if ((PySem.W.clsIn K D).isSome && PySem.W.typeIn K (.ref D) == some (.type "type")) = true then PySem.W.subIn K (.ref C) (.ref D) else none) else none) = some b
  rw [if_pos a1, if_pos a2]
  exact h4
/-- an error's __init__: super().__init__(text); self.at = at -/
def InitShape (st : Stmt) : Prop := ∃ (msg : Str) (j : Nat) (p0 p1 p2 p3 p4 p5 q1 q2 q3 q4 : Pos),
  defBody st = [.Expr (.Call (.Attribute (.Call (.Name "super" p0) [] [] p1) "__init__" p2) [.Constant (.str msg) j p3] [] p4) p5, .Assign [.Attribute (.Name "self" q1) "at" q2] (.Name "at" q3) q4] ∧
  SuperCall msg j p0 p1 p2 p3 p4 ∧ defScope st = atScope ∧ ∃ ar : Arg, ((defArgs st).posonlyargs ++ (defArgs st).args).head? = some ar ∧ ar.arg = "self"
theorem errK_mk {x qual nm q : Str} {st : Stmt} {C fI cc cda N : Addr} {bs bm : List Value} {sn : List Str} {sub : List Value} {ab : Bool} {col : Option Bool} {dd od an cdd cld : Option Addr} {k0 k1 k2 k3 k5 : Option Value}
    {oc doc pm ct ccl cl : Value} {osl ccs csl : Array (Option Value)} {vs : Array Value} {file : Str} {tf : Tok} (X : K.In h) (G : h.Ns mainGlobals mg)
    (hx : PySem.W.nsIn K mainGlobals x = some (some (.ref C)))
    (xL : K.lookup C = some (excClassObj nm q C N bs bm true sn sub ab col dd k0 k1 k2 k3 k5 "ValueError.__new__")) (xV : PySem.HandSPX.refsVE bm = true)
    (sa : PySem.W.findIn K (.ref C) "__setattr__" = some (some (.builtin "object.__setattr__")))
    (exC : PySem.W.subIn K (.ref C) (.type "BaseException") = some true) (tyC : PySem.W.typeIn K (.ref C) = some (.type "type")) (kC : PySem.W.keepIn K (.ref C) = true)
    (iC : PySem.W.findIn K (.ref C) "__init__" = some (some (.ref fI))) (tI : PySem.W.typeIn K (.ref fI) = some (.type "function"))
    (fn : K.lookup fI = some ⟨oc, od, .func (PySem.W.ksFn "__init__" qual (defArgs st) (defBody st) (defScope st) .none .none doc pm an (.ref cda) ct cc), osl⟩)
    (cd : PySem.W.codeIn K (.ref cda) qual = true) (fl : K.lookup cda = some ⟨ccl, cdd, .fields vs, ccs⟩) (fv : vs[2]? = some (.str file tf)) (fP : ((P.main.file : Str) == file) = true)
    (ce : K.lookup cc = some ⟨cl, cld, .cell (some (.ref C)), csl⟩) (mr : PySem.W.mroIn K C (.ref C) = some true)
    (sup : PySem.W.nsIn K mainGlobals "super" = some none) (any : PySem.W.nsIn K PySem.cStatics "thirdparty.any" = some none)
    (si : PySem.W.ks_superIn K C C "__init__" = some (some (.builtin "ValueError.__init__"))) (sv : PySem.W.subIn K (.ref C) (.type "ValueError") = some true)
    (top : (P.main.scope.names.lookup ("super" : Str)).isSome = false)
    (noAt : PySem.W.findIn K (.ref C) "at" = some none)
    (hg : PySem.W.findIn K (.ref C) "__getattribute__" = some (some (.builtin "BaseException.__getattribute__"))) (hk : PySem.W.findIn K (.ref C) "__getattr__" = some none)
    (hd : PySem.W.hasDictIn K C = true) (ha : PySem.W.findIn K (.ref C) "__class__" = some (some (.builtin "object.__class__")))
    (hn : PySem.W.specialIn K (.builtin "object.__class__") "__get__" = some (some (.builtin "getset_descriptor.__get__"))) (ht : PySem.W.takesIn K (.builtin "object.__class__") = some true)
    (hm : PySem.W.mroIn K C (.type "object") = some true) (icl : PySem.W.isClsIn K C = true) (sCC : PySem.W.subIn K (.ref C) (.ref C) = some true)
    (shape : InitShape st)
    (hb : ∀ (doc pm : Value) (an : Option Addr) (cdv ct : Value) (cc : Addr) (us : List Value), us.length = 2 →
      bindArgs (PySem.W.ksFn "__init__" qual (defArgs st) (defBody st) (defScope st) .none .none doc pm an cdv ct cc) ⟨us, []⟩ = pure ((["self", "at"] : List Str).zip us)) :
    ErrK P K mg x C := by
  have ox : OexC K C := ⟨⟨nm, q, N, bs, bm, sn, sub, ab, col, dd, k0, k1, k2, k3, k5, xL, xV⟩, sa, exC, tyC, kC⟩
  have F : ErrF P K C fI cc cda qual (defArgs st) (defBody st) (defScope st) :=
    ⟨ox, iC, tI, ⟨_, _, _, _, _, _, _, fn⟩, cd, ⟨_, _, _, _, _, _, fl, fv, fP⟩, ⟨_, _, _, ce⟩, mr, sup, any, si, sv, top⟩
  obtain ⟨msg, j, p0, p1, p2, p3, p4, p5, q1, q2, q3, q4, eb, sc, es, ar, h1, h2⟩ := shape
  rw [eb, es] at F
  refine ⟨PySem.W.mg_of X G hx, ox, ⟨fI, _, iC, tI, .all (hb doc pm an (.ref cda) ct cc), fun w base => ?_⟩, ⟨hg, hk, exC, hd, ha, hn, ht, hm⟩, noAt, exm_of exC icl exC icl tyC sCC⟩
  refine err_init F ⟨doc, pm, an, ct, ?_, oc, od, osl, fn⟩ h1 h2 sc noAt
  rw [eb, es]
theorem fd_one {x q : Str} {st : Stmt} {f : Addr} {d e : FuncData} (F : Fun K x q st f d) (G : Fun K x q st f e) : d = e := by
  obtain ⟨_, _, _, _, _, _, _, _, _, _, l1, _⟩ := F.ex
  obtain ⟨_, _, _, _, _, _, _, _, _, _, l2, _⟩ := G.ex
  have z := l1.symm.trans l2
  injection z with z
  injection z with _ _ z
  injection z
/-- the law's def at its one place -/
theorem law_mk {w : World} {x y : Str} {st : Stmt} {fa : Addr} {k : Nat} {sp : Sp} {cs : List (Addr × Addr)} (D : Def K mg x st [y]) (hfa : mg x = some (.ref fa))
    (hb : ∀ (kV doc pm : Value) (an : Option Addr) (cdv ct u : Value), bindArgs (PySem.W.fnOf x x (defArgs st) (defBody st) (defScope st) .none kV doc pm an cdv ct) ⟨[u], []⟩ = pure [(y, u)])
    (ok : ∀ base : Heap, K.In base → base.Ns mainGlobals mg → (∀ p ∈ cs, LamX.TabB base mg p.1 p.2) → KeptG P w K mg base CX0 k x st [y] sp) :
    ∃ fd : FuncData, (∀ (s : Shared) (u : Value), BindsTo s fd ⟨[u], []⟩ [(y, u)]) ∧
      ∀ base : Heap, K.In base → base.Ns mainGlobals mg → (∀ p ∈ cs, LamX.TabB base mg p.1 p.2) → FnG P w K mg base CX0 k fa fd [y] sp := by
  obtain ⟨f, fd, F, g, _⟩ := D
  cases g.symm.trans hfa
  refine ⟨fd, fun s u => ?_, fun base h1 h2 h3 => ?_⟩
  · obtain ⟨_, _, kV, doc, pm, an, cdv, ct, _, rfl, _⟩ := F.ex
    exact .of_eq (hb kV doc pm an cdv ct u)
  · obtain ⟨f2, fd2, F2, g2, _, G⟩ := ok base h1 h2 h3
    cases g2.symm.trans hfa
    cases fd_one F F2
    exact G
/-- the law's table -/
theorem tab_mk {c PT : Addr} (X : K.In h) (e : PySem.W.codeHdIn K c PT = true) : PySem.W.CodeHd h c PT := PySem.W.codeHd_of_K X e
end
end NL
set_option maxRecDepth 100000
set_option maxHeartbeats 2000000
namespace K01
open PySem L2 NL
def top (i : Nat) : Stmt := PySem.Challenge.pw_handalong_k01_fractions_in_lowest_terms.main.body.getD i (.Pass ⟨0, 0, 0, 0⟩)
abbrev s_is_integer : Stmt := top 4
abbrev s_divisor : Stmt := top 6
abbrev s_is_fraction : Stmt := top 7
abbrev s_made : Stmt := top 8
abbrev s_added : Stmt := top 9
abbrev s_less : Stmt := top 10
abbrev s_times : Stmt := top 11
abbrev s_compared : Stmt := top 12
theorem sc_is_integer : FnScope ["value"] ["value"] (defScope s_is_integer) :=
  ⟨rfl, rfl, rfl, by decide +kernel, rfl, by decide +kernel, by decide +kernel⟩
theorem sc_divisor : FnScope ["one", "other"] ["one", "other"] (defScope s_divisor) :=
  ⟨rfl, rfl, rfl, by decide +kernel, rfl, by decide +kernel, by decide +kernel⟩
theorem sc_is_fraction : FnScope ["value", "part"] ["value"] (defScope s_is_fraction) :=
  ⟨rfl, rfl, rfl, by decide +kernel, rfl, by decide +kernel, by decide +kernel⟩
theorem sc_made : FnScope ["top", "bottom", "share"] ["top", "bottom"] (defScope s_made) :=
  ⟨rfl, rfl, rfl, by decide +kernel, rfl, by decide +kernel, by decide +kernel⟩
theorem sc_added : FnScope ["one", "other"] ["one", "other"] (defScope s_added) :=
  ⟨rfl, rfl, rfl, by decide +kernel, rfl, by decide +kernel, by decide +kernel⟩
theorem sc_less : FnScope ["one", "other"] ["one", "other"] (defScope s_less) :=
  ⟨rfl, rfl, rfl, by decide +kernel, rfl, by decide +kernel, by decide +kernel⟩
theorem sc_times : FnScope ["one", "other"] ["one", "other"] (defScope s_times) :=
  ⟨rfl, rfl, rfl, by decide +kernel, rfl, by decide +kernel, by decide +kernel⟩
theorem sc_compared : FnScope ["one", "other", "gap"] ["one", "other"] (defScope s_compared) :=
  ⟨rfl, rfl, rfl, by decide +kernel, rfl, by decide +kernel, by decide +kernel⟩
local macro_rules | `(tactic| walk_at "s1") => `(tactic| with_reducible first
  | refine w_seq ?_ | refine w_asg ?_ | refine w_drop ?_ | refine w_ret ?_ | refine w_next ?_ | refine w_ifS ?_
  | refine w_c ?_ | refine w_op ?_ | refine w_un ?_ | refine w_test ?_ | refine w_B ?_ | refine w_bl ?_ | refine w_not ?_ | refine w_and ?_ | refine w_or ?_
  | refine w_andV ?_ | refine w_orV ?_ | refine w_notV ?_ | refine w_blP ?_ | refine w_if ?_ | refine w_nil ?_ | refine w_cons ?_ | refine w_call ?_ | refine w_callS ?_ | refine w_callW ?_
  | refine w_cb ?_ | refine w_tup ?_ | refine w_lst ?_ | refine w_par ?_ | refine w_two ?_ | refine w_addI ?_ | refine w_I0 ?_ | refine w_neg ?_ | refine w_eqI ?_ | refine w_neI ?_
  | refine w_absI ?_ | refine w_intI ?_ | refine w_sub ?_ | refine w_bm0 ?_ | refine w_bm ?_ | refine w_iteT ?_ | refine w_iteF ?_ | refine w_iteNF ?_ | refine w_iteNT ?_ | refine w_lcT ?_ | refine w_lcL ?_ | refine w_ref ?_ | refine w_sl ?_ | refine w_npart ?_ | refine w_part ?_ | refine w_iv ?_ | refine w_rev ?_ | refine w_forL ?_ | refine w_forT ?_ | refine w_forR1 ?_ | refine w_one ?_ | refine w_g ?_
  | refine w_var (by with_unfolding_all rfl) ?_)
local macro_rules | `(tactic| walk_at "s") => `(tactic| repeat (walk_at "s1"))

structure Txt (P : Program) (K : PySem.W.Frag) (mg : Str → Option Value) (CQ CN : Addr) : Prop where
  x_InvalidQuestion : ErrK P K mg "InvalidQuestion" CQ
  n_isinstance : mg "isinstance" = none
  n_int : mg "int" = none
  n_bool : mg "bool" = none
  n_tuple : mg "tuple" = none
  n_len : mg "len" = none
  n_all : mg "all" = none
  n_abs : mg "abs" = none
  d_is_integer : Def K mg "is_integer" s_is_integer ["value"]
  d_divisor : Def K mg "divisor" s_divisor ["one", "other"]
  d_is_fraction : Def K mg "is_fraction" s_is_fraction ["value"]
  d_made : Def K mg "made" s_made ["top", "bottom"]
  d_added : Def K mg "added" s_added ["one", "other"]
  d_less : Def K mg "less" s_less ["one", "other"]
  d_times : Def K mg "times" s_times ["one", "other"]
  d_compared : Def K mg "compared" s_compared ["one", "other"]

/-! ### is_integer -/
def kinds : List String := ["NoneType", "bool", "int", "str", "list", "tuple", "dict"]
def spIsInt (K : PySem.W.Frag) : Sp := fun vs H Q _ => ∃ (x : V) (T : String), vs = [x] ∧ TyX K H x (.type T) ∧ T ∈ kinds ∧ Q (.bl (T == "int")) H
theorem kind_int {U : String} (hU : U ∈ kinds) : ∃ b1 b2, kitB U "int" = some b1 ∧ kitB U "bool" = some b2 ∧ (b1 && !b2) = (U == "int") := by
  simp only [kinds, List.mem_cons, List.not_mem_nil, or_false] at hU
  rcases hU with rfl | rfl | rfl | rfl | rfl | rfl | rfl
  · exact ⟨false, false, by decide +kernel, by decide +kernel, by decide +kernel⟩
  · exact ⟨true, true, by decide +kernel, by decide +kernel, by decide +kernel⟩
  · exact ⟨true, false, by decide +kernel, by decide +kernel, by decide +kernel⟩
  · exact ⟨false, false, by decide +kernel, by decide +kernel, by decide +kernel⟩
  · exact ⟨false, false, by decide +kernel, by decide +kernel, by decide +kernel⟩
  · exact ⟨false, false, by decide +kernel, by decide +kernel, by decide +kernel⟩
  · exact ⟨false, false, by decide +kernel, by decide +kernel, by decide +kernel⟩
section
variable {P : Program} {w : World} {K : PySem.W.Frag} {mg : Str → Option Value} {base : Heap} {CQ CN : Addr}
theorem ok_is_integer (T : Txt P K mg CQ CN) : Kept P w K mg base CX0 1 "is_integer" s_is_integer ["value"] (spIsInt K) := by
  refine keep0 T.d_is_integer sc_is_integer (fun vs H Q E h => ?_) (fun f cdv A outer s H vs Q E hr h => ?_)
  · obtain ⟨x, T, rfl, _⟩ := h
    rfl
  · obtain ⟨x, U, rfl, ty, hU, q⟩ := h
    refine ⟨_, (pss_one (ps_ret (pe_and (pe_callB cIsi (by rfl) T.n_isinstance (by decide +kernel) (pa_cons (pv 0) (pa_cons (pe_bltn (v := .ty "int") (u := .type "int") (by rfl) T.n_int (by decide +kernel) rfl) pa_nil))) (pe_one (pe_not (pe_callB cIsi (by rfl) T.n_isinstance (by decide +kernel) (pa_cons (pv 0) (pa_cons (pe_bltn (v := .ty "bool") (u := .type "bool") (by rfl) T.n_bool (by decide +kernel) rfl) pa_nil)))))))), ?_⟩
    walk_at "s"
    obtain ⟨b1, b2, h1, h2, h3⟩ := kind_int hU
    refine w_isi ty h1 ?_
    rw [← h3] at q
    refine w_blP ?_
    cases b1
    · walk_at "s"
      exact q
    · walk_at "s"
      refine w_isi ty h2 ?_
      walk_at "s"
      exact q
/-! ### divisor -/
def spDiv : Sp := fun vs H Q _ => ∃ a b : Nat, vs = [.int a, .int b] ∧ Q (.int (Nat.gcd a b : Nat)) H
theorem gcd_step (a b : Nat) : Nat.gcd b (a % b) = Nat.gcd a b := by
  rw [Nat.gcd_comm a b, Nat.gcd_rec b a, Nat.gcd_comm]
theorem fmod_nat (a b : Nat) : (a : Int).fmod (b : Int) = ((a % b : Nat) : Int) := by
  rw [Int.fmod_eq_emod_of_nonneg _ (by omega)]
  rfl
theorem ok_divisor (T : Txt P K mg CQ CN) : Kept P w K mg base CX0 1 "divisor" s_divisor ["one", "other"] spDiv := by
  refine keep0 T.d_divisor sc_divisor (fun vs H Q E h => ?_) (fun f cdv A outer s H vs Q E hr h => ?_)
  · obtain ⟨a, b, rfl, _⟩ := h
    rfl
  · obtain ⟨a, b, rfl, q⟩ := h
    refine ⟨_, (pss_cons (ps_while PassesOwn.never (pt_cmpR (oNe (ru64 hr)) (pv 1) pe_int (nomark _)) (pss_one (ps_par (i := 0) (j := 1) (by rfl) sc_divisor.nd rfl rfl (by decide) rfl rfl (pa_cons (pv 1) (pa_cons (pe_op oMod (pe_callTy cInt (by rfl) T.n_int (by decide +kernel) (pa_cons (pv 0) pa_nil)) (pv 1)) pa_nil)) (by rfl))))
      (pss_one (ps_ret (pv 0)))), ?_⟩
    walk_at "s"
    refine w_while (m := b) (fun m σ H' => ∃ a' : Nat, σ = [some (.int a'), some (.int m)] ∧ H' = H ∧ Nat.gcd a' m = Nat.gcd a b) ⟨a, rfl, rfl, rfl⟩ ?_
    rintro m σ H' ⟨a', rfl, rfl, hg⟩
    walk_at "s"
    refine w_iteN (fun h0 => ?_) (fun h0 => ?_)
    · refine w_go ?_
      walk_at "s"
      refine w_mod h0 ?_
      walk_at "s"
      have hp : 0 < m := by omega
      refine ⟨a' % m, Nat.mod_lt _ hp, m, ?_, rfl, ?_⟩
      · rw [fmod_nat]
        rfl
      · rw [gcd_step]
        exact hg
    · have e : m = 0 := by omega
      subst e
      rw [Nat.gcd_zero_right] at hg
      walk_at "s"
      rw [hg]
      exact q
/-! ### is_fraction -/
def isI : V → Bool
  | .int _ => true
  | _ => false
def frB : List V → Bool
  | [.int t, .int b] => decide (b ≥ 1) && decide (Nat.gcd t.natAbs b.natAbs = 1)
  | _ => false
inductive FrV (K : PySem.W.Frag) (H : Hp) : V → Bool → Prop
  | other {x : V} {T : String} (ty : TyX K H x (.type T)) (hT : T ∈ kinds) (ne : T ≠ "tuple") : FrV K H x false
  | tup {a : Addr} {xs : List V} (ty : TyX K H (.ref a) (.type "tuple")) (S : SqT K H a xs) (hz : xs.length ≤ 100)
    (each : ∀ x ∈ xs, ∃ T ∈ kinds, TyX K H x (.type T) ∧ isI x = (T == "int")) : FrV K H (.ref a) (frB xs)
def spFrac (K : PySem.W.Frag) : Sp := fun vs H Q _ => ∃ (x : V) (b : Bool), vs = [x] ∧ FrV K H x b ∧ ∀ H', Same H H' → Q (.bl b) H'
theorem kit_tuple {U : String} (hU : U ∈ kinds) : kitB U "tuple" = some (U == "tuple") := by
  simp only [kinds, List.mem_cons, List.not_mem_nil, or_false] at hU
  rcases hU with rfl | rfl | rfl | rfl | rfl | rfl | rfl <;> decide +kernel
theorem ok_is_fraction (T : Txt P K mg CQ CN) : Kept P w K mg base CX0 2 "is_fraction" s_is_fraction ["value"] (spFrac K) := by
  have O_is_integer := ok_is_integer (w := w) (base := base) T
  have O_divisor := ok_divisor (w := w) (base := base) T
  refine keep0 T.d_is_fraction sc_is_fraction (fun vs H Q E h => ?_) (fun f cdv A outer s H vs Q E hr h => ?_)
  · obtain ⟨x, b, rfl, _⟩ := h
    rfl
  · obtain ⟨x, b, rfl, fr, q⟩ := h
    refine ⟨_, (pss_cons (ps_if (PW.pt (pw_or (pt_not (pt_val (pe_callB cIsi (by rfl) T.n_isinstance (by decide +kernel) (pa_cons (pv 0) (pa_cons (pe_bltn (v := .ty "tuple") (u := .type "tuple") (by rfl) T.n_tuple (by decide +kernel) rfl) pa_nil))))) (pw_or (pt_cmpR (oNe (ru64 hr)) (pe_callB cLen (by rfl) T.n_len PySem.boot_len (pa_cons (pv 0) pa_nil)) pe_int (nomark _)) (pw_or1 (pt_not (pt_val (pe_callB (cr_all rfl) (by rfl) T.n_all (by decide +kernel) (pa_cons (pe_lc (own := [("part", 1)]) (g := gName 1) (tt := tYes) (by rfl) sc_is_fraction.nd (pi_tup (pv 0)) (blkOk_by (own := [("part", 1)]) (N := ["value", "part"]) (sc := defScope s_is_fraction) (by decide +kernel)) (fun _ _ _ _ _ => (pg_name (i := 1) sc_is_fraction.nd rfl (by first | exact Or.inl rfl | exact Or.inr rfl))) (fun _ _ _ _ _ => pts_nil) (fun _ _ _ _ _ => (pk_call O_is_integer (hr.mono (by decide)) (pa_cons (pv 1) pa_nil)))) pa_nil))))))))
        (pss_one (ps_ret pe_bl)) pss_nil)
      (pss_one (ps_ret (pe_and (pe_cmpR op_ge (pe_ix ix_seq (pv 0) pe_int (fun _ _ => rfl)) pe_int (nomark _)) (pe_one (pe_cmpR (oEq (ru64 hr)) (pk_call O_divisor (hr.mono (by decide)) (pa_cons (pe_callB cAbs (by rfl) T.n_abs (by decide +kernel) (pa_cons (pe_ix ix_seq (pv 0) pe_int (fun _ _ => rfl)) pa_nil)) (pa_cons (pe_ix ix_seq (pv 0) pe_int (fun _ _ => rfl)) pa_nil))) pe_int (nomark _))))))), ?_⟩
    walk_at "s"
    cases fr with
    | other ty hT ne =>
      refine w_isi ty (kit_tuple hT) ?_
      rw [beq_eq_false_iff_ne.mpr ne]
      walk_at "s"
      exact q H (Same.refl H)
    | tup ty S hz each =>
      rename_i a xs
      refine w_isi ty (b := true) (by decide +kernel) ?_
      walk_at "s"
      refine w_lenT S ?_
      walk_at "s"
      refine w_iteN (fun h2 => ?_) (fun h2 => ?_)
      · rw [show frB xs = false by
          unfold frB
          split
          · exact absurd rfl h2
          · rfl] at q
        walk_at "s"
        exact q H (Same.refl H)
      walk_at "s"
      refine ⟨⟨_, S⟩, ?_⟩
      refine lc_tup_rel (fun x y _ => y = .bl (isI x)) (fun _ => true) S (Nat.lt_of_le_of_lt hz (by decide +kernel)) (fun _ => rfl) (fun _ _ _ _ _ _ r _ => r) (fun x _ => turn_yes) (fun x hx _ => ?_) (fun D H' L => ?_)
      · intro H1 s1 Q1 q1
        obtain ⟨T, hT, ty, e⟩ := each x hx
        walk_at "s"
        refine ⟨x, T, rfl, ty_same s1 ty, hT, ?_⟩
        rw [← e]
        exact q1 _ _ (Same.refl _) rfl
      rw [filter_true] at L
      obtain ⟨nw, sm, ys, e, pr⟩ := L
      have e2 := paired_eq pr
      subst e2
      walk_at "s"
      refine ⟨D, xs.map isI, rfl, .inl (.inl (by rw [List.map_map]; exact e)), ?_⟩
      walk_at "s"
      match xs, h2, S, each with
      | [u, v], _, S, each =>
      by_cases hb : ([u, v].map isI).all id = true
      · have hu : ∃ t, u = .int t := by
          cases u <;> first | exact ⟨_, rfl⟩ | (simp [isI] at hb)
        have hv : ∃ t, v = .int t := by
          cases v <;> first | exact ⟨_, rfl⟩ | (simp [isI] at hb)
        obtain ⟨t, rfl⟩ := hu
        obtain ⟨b, rfl⟩ := hv
        rw [hb]
        have S' := same_t sm S
        walk_at "s"
        refine w_ixT S' rfl ?_
        walk_at "s"
        refine w_iteD (fun h1 => ?_) (fun h1 => ?_)
        · walk_at "s"
          refine w_ixT S' rfl ?_
          walk_at "s"
          refine w_ixT S' rfl ?_
          walk_at "s"
          refine ⟨t.natAbs, b.natAbs, ?_, ?_⟩
          · rw [abs_nat, show ((b.natAbs : Nat) : Int) = b by omega]
            rfl
          walk_at "s"
          rw [show (decide (((Nat.gcd t.natAbs b.natAbs : Nat) : Int) = 1)) = frB [.int t, .int b] by
            show _ = (decide (b ≥ 1) && decide (Nat.gcd t.natAbs b.natAbs = 1))
            rw [decide_eq_true h1, Bool.true_and]
            exact decide_eq_decide.mpr (by omega)]
          exact q _ sm
        · rw [show frB [.int t, .int b] = false by
            show (decide (b ≥ 1) && decide (Nat.gcd t.natAbs b.natAbs = 1)) = _
            rw [decide_eq_false h1, Bool.false_and]] at q
          exact q _ sm
      · have hb := Bool.eq_false_iff.mpr hb
        rw [show frB [u, v] = false by
          unfold frB
          split
          · rename_i e
            cases e
            exact absurd hb (by simp [isI])
          · rfl] at q
        rw [hb]
        walk_at "s"
        exact q _ sm
/-! ### made -/
def lowG (t b : Int) : Int := if b < 0 then -(Nat.gcd t.natAbs b.natAbs : Nat) else (Nat.gcd t.natAbs b.natAbs : Nat)
def lowT (t b : Int) : Int := t.fdiv (lowG t b)
def lowB (t b : Int) : Int := b.fdiv (lowG t b)
def lowV (t b : Int) : List V := [.int (lowT t b), .int (lowB t b)]
theorem lowG_ne {t b : Int} (h : b ≠ 0) : lowG t b ≠ 0 := by
  have : 0 < Nat.gcd t.natAbs b.natAbs := Nat.gcd_pos_of_pos_right _ (by omega)
  unfold lowG
  split <;> omega
theorem lowG_le {t b : Int} (h : b ≠ 0) : (lowG t b).natAbs ≤ b.natAbs := by
  have : Nat.gcd t.natAbs b.natAbs ≤ b.natAbs := Nat.gcd_le_right _ (by omega)
  unfold lowG
  split <;> omega
theorem log_lt {i : Int} {n : Nat} (h : i.natAbs < 2 ^ n) (h0 : 0 < n) (h9 : n ≤ 9000) : i.natAbs.log2 < 9000 :=
  Nat.lt_of_lt_of_le (PySem.Flt.log2_lt_of h0 h) h9
def spMade (CQ : Addr) : Sp := fun vs H Q E => ∃ t b : Int, vs = [.int t, .int b] ∧ ((b = 0 ∧ ∀ d, H d = none → E (.ref CQ) (some d) (upd H d (.xd [("at", .int 1)]))) ∨
  (b ≠ 0 ∧ b.natAbs < 2 ^ 2000 ∧ ∀ p, H p = none → Q (.ref p) (upd H p (.tup (lowV t b)))))
theorem ok_made (T : Txt P K mg CQ CN) : Kept P w K mg base (L2.CX P w) 4 "made" s_made ["top", "bottom"] (spMade CQ) := by
  have O_divisor := ok_divisor (w := w) (base := base) T
  refine keepX T.d_made sc_made (fun vs H Q E h => ?_) (fun f cdv A outer s H vs Q E hr h => ?_)
  · obtain ⟨t, b, rfl, _⟩ := h
    rfl
  · obtain ⟨t, b, rfl, q⟩ := h
    refine ⟨_, (pss_cons (ps_if (pt_cmpR (oEq (ru64 hr)) (pv 1) pe_int (nomark _))
        (pss_one (ps_raise rfl (takes_of rfl rfl rfl rfl) (pmk_err T.x_InvalidQuestion (hr.mono (by decide)) (pa_cons pe_int pa_nil)))) pss_nil)
      (pss_cons (ps_asg (pk_call O_divisor (hr.mono (by decide)) (pa_cons (pe_callB cAbs (by rfl) T.n_abs (by decide +kernel) (pa_cons (pv 0) pa_nil)) (pa_cons (pe_callB cAbs (by rfl) T.n_abs (by decide +kernel) (pa_cons (pv 1) pa_nil)) pa_nil))) (pg_name (i := 2) sc_made.nd rfl (by first | exact Or.inl rfl | exact Or.inr rfl)))
      (pss_cons (ps_if (pt_cmpR op_lt (pv 1) pe_int (nomark _))
        (pss_one (ps_asg (pe_un un_neg (pv 2)) (pg_name (i := 2) sc_made.nd rfl (by first | exact Or.inl rfl | exact Or.inr rfl)))) pss_nil)
      (pss_one (ps_ret (pe_tup (pa_cons (pe_op oDiv (pv 0) (pv 2)) (pa_cons (pe_op oDiv (pv 1) (pv 2)) pa_nil)))))))), ?_⟩
    walk_at "s"
    rcases q with ⟨rfl, q⟩ | ⟨hb, hz, q⟩
    · refine w_iteD (fun h1 => ?_) (fun h1 => absurd rfl h1)
      exact ⟨_, rfl, q⟩
    · refine w_iteD (fun h1 => absurd h1 hb) (fun h1 => ?_)
      walk_at "s"
      refine ⟨t.natAbs, b.natAbs, ?_, ?_⟩
      · rw [abs_nat, abs_nat]
        rfl
      walk_at "s"
      have g0 : lowG t b ≠ 0 := lowG_ne hb
      have gl : (lowG t b).natAbs.log2 < 9000 := log_lt (Nat.lt_of_le_of_lt (lowG_le hb) hz) (by decide) (by decide)
      refine w_iteD (fun h2 => ?_) (fun h2 => ?_)
      · walk_at "s"
        rw [show -((Nat.gcd t.natAbs b.natAbs : Nat) : Int) = lowG t b by unfold lowG; rw [if_pos h2]]
        refine w_div g0 gl ?_
        walk_at "s"
        refine w_div g0 gl ?_
        walk_at "s"
        exact ⟨show 2 ≤ sizeLine by decide +kernel, q⟩
      · walk_at "s"
        rw [show ((Nat.gcd t.natAbs b.natAbs : Nat) : Int) = lowG t b by unfold lowG; rw [if_neg h2]]
        refine w_div g0 gl ?_
        walk_at "s"
        refine w_div g0 gl ?_
        walk_at "s"
        exact ⟨show 2 ≤ sizeLine by decide +kernel, q⟩
/-! ### added, less, times, compared -/
/-- a pair that stands at p, its parts below 2 ^ n -/
structure Pr (n : Nat) (K : PySem.W.Frag) (H : Hp) (p : Addr) (t b : Int) : Prop where
  sq : SqT K H p [.int t, .int b]
  zt : t.natAbs < 2 ^ n
  zb : b.natAbs < 2 ^ n
  b0 : b ≠ 0
def spPair (K : PySem.W.Frag) (ft : Int → Int → Int → Int → Int) : Sp := fun vs H Q _ => ∃ (p q : Addr) (t b u c : Int), vs = [.ref p, .ref q] ∧ Pr 400 K H p t b ∧ Pr 400 K H q u c ∧
  ∀ r, H r = none → Q (.ref r) (upd H r (.tup (lowV (ft t b u c) (b * c))))
theorem pr_b {n : Nat} {K : PySem.W.Frag} {H : Hp} {p q : Addr} {t b u c : Int} (x : Pr n K H p t b) (y : Pr n K H q u c) (hn : 2 * n ≤ 2000) : b * c ≠ 0 ∧ (b * c).natAbs < 2 ^ 2000 := by
  refine ⟨Int.mul_ne_zero x.b0 y.b0, ?_⟩
  have := wide_lt x.zb y.zb
  exact Nat.lt_of_lt_of_le this (Nat.pow_le_pow_right (by omega) (by omega))
theorem mulW {i j : Int} {n : Nat} (a : i.natAbs < 2 ^ n) (b : j.natAbs < 2 ^ n) (h0 : 0 < n) (h : n ≤ 9000) : CMulW i j := wide_mul a b h0 h0 (by omega)
theorem ok_added (T : Txt P K mg CQ CN) : Kept P w K mg base CX0 5 "added" s_added ["one", "other"] (spPair K fun t b u c => t * c + u * b) := by
  have O_made := ok_made (w := w) (base := base) T
  refine keep0 T.d_added sc_added (fun vs H Q E h => ?_) (fun f cdv A outer s H vs Q E hr h => ?_)
  · obtain ⟨p, q, t, b, u, c, rfl, _⟩ := h
    rfl
  · obtain ⟨p, q, t, b, u, c, rfl, x, y, q⟩ := h
    refine ⟨_, (pss_one (ps_ret (pk_callL O_made (hr.mono (by decide)) (pa_cons (pe_op oAdd (pe_op oMul (pe_ix ix_seq (pv 0) pe_int (fun _ _ => rfl)) (pe_ix ix_seq (pv 1) pe_int (fun _ _ => rfl))) (pe_op oMul (pe_ix ix_seq (pv 1) pe_int (fun _ _ => rfl)) (pe_ix ix_seq (pv 0) pe_int (fun _ _ => rfl)))) (pa_cons (pe_op oMul (pe_ix ix_seq (pv 0) pe_int (fun _ _ => rfl)) (pe_ix ix_seq (pv 1) pe_int (fun _ _ => rfl))) pa_nil))))), ?_⟩
    walk_at "s"
    refine w_ixT x.sq rfl ?_
    walk_at "s"
    refine w_ixT y.sq rfl ?_
    refine w_mul (mulW x.zt y.zb (by decide) (by decide)) ?_
    walk_at "s"
    refine w_ixT y.sq rfl ?_
    walk_at "s"
    refine w_ixT x.sq rfl ?_
    refine w_mul (mulW y.zt x.zb (by decide) (by decide)) ?_
    walk_at "s"
    refine w_ixT x.sq rfl ?_
    walk_at "s"
    refine w_ixT y.sq rfl ?_
    refine w_mul (mulW x.zb y.zb (by decide) (by decide)) ?_
    walk_at "s"
    exact ⟨_, _, rfl, .inr ⟨(pr_b x y (by decide)).1, (pr_b x y (by decide)).2, q⟩⟩
theorem ok_less (T : Txt P K mg CQ CN) : Kept P w K mg base CX0 5 "less" s_less ["one", "other"] (spPair K fun t b u c => t * c - u * b) := by
  have O_made := ok_made (w := w) (base := base) T
  refine keep0 T.d_less sc_less (fun vs H Q E h => ?_) (fun f cdv A outer s H vs Q E hr h => ?_)
  · obtain ⟨p, q, t, b, u, c, rfl, _⟩ := h
    rfl
  · obtain ⟨p, q, t, b, u, c, rfl, x, y, q⟩ := h
    refine ⟨_, (pss_one (ps_ret (pk_callL O_made (hr.mono (by decide)) (pa_cons (pe_op op_sub (pe_op oMul (pe_ix ix_seq (pv 0) pe_int (fun _ _ => rfl)) (pe_ix ix_seq (pv 1) pe_int (fun _ _ => rfl))) (pe_op oMul (pe_ix ix_seq (pv 1) pe_int (fun _ _ => rfl)) (pe_ix ix_seq (pv 0) pe_int (fun _ _ => rfl)))) (pa_cons (pe_op oMul (pe_ix ix_seq (pv 0) pe_int (fun _ _ => rfl)) (pe_ix ix_seq (pv 1) pe_int (fun _ _ => rfl))) pa_nil))))), ?_⟩
    walk_at "s"
    refine w_ixT x.sq rfl ?_
    walk_at "s"
    refine w_ixT y.sq rfl ?_
    refine w_mul (mulW x.zt y.zb (by decide) (by decide)) ?_
    walk_at "s"
    refine w_ixT y.sq rfl ?_
    walk_at "s"
    refine w_ixT x.sq rfl ?_
    refine w_mul (mulW y.zt x.zb (by decide) (by decide)) ?_
    walk_at "s"
    refine w_ixT x.sq rfl ?_
    walk_at "s"
    refine w_ixT y.sq rfl ?_
    refine w_mul (mulW x.zb y.zb (by decide) (by decide)) ?_
    walk_at "s"
    exact ⟨_, _, rfl, .inr ⟨(pr_b x y (by decide)).1, (pr_b x y (by decide)).2, q⟩⟩
theorem ok_times (T : Txt P K mg CQ CN) : Kept P w K mg base CX0 5 "times" s_times ["one", "other"] (spPair K fun t b u c => t * u) := by
  have O_made := ok_made (w := w) (base := base) T
  refine keep0 T.d_times sc_times (fun vs H Q E h => ?_) (fun f cdv A outer s H vs Q E hr h => ?_)
  · obtain ⟨p, q, t, b, u, c, rfl, _⟩ := h
    rfl
  · obtain ⟨p, q, t, b, u, c, rfl, x, y, q⟩ := h
    refine ⟨_, (pss_one (ps_ret (pk_callL O_made (hr.mono (by decide)) (pa_cons (pe_op oMul (pe_ix ix_seq (pv 0) pe_int (fun _ _ => rfl)) (pe_ix ix_seq (pv 1) pe_int (fun _ _ => rfl))) (pa_cons (pe_op oMul (pe_ix ix_seq (pv 0) pe_int (fun _ _ => rfl)) (pe_ix ix_seq (pv 1) pe_int (fun _ _ => rfl))) pa_nil))))), ?_⟩
    walk_at "s"
    refine w_ixT x.sq rfl ?_
    walk_at "s"
    refine w_ixT y.sq rfl ?_
    refine w_mul (mulW x.zt y.zt (by decide) (by decide)) ?_
    walk_at "s"
    refine w_ixT x.sq rfl ?_
    walk_at "s"
    refine w_ixT y.sq rfl ?_
    refine w_mul (mulW x.zb y.zb (by decide) (by decide)) ?_
    walk_at "s"
    exact ⟨_, _, rfl, .inr ⟨(pr_b x y (by decide)).1, (pr_b x y (by decide)).2, q⟩⟩
def sgn (g : Int) : Int := if g = 0 then 0 else if g < 0 then -1 else 1
def spComp (K : PySem.W.Frag) : Sp := fun vs H Q _ => ∃ (p q : Addr) (t b u c : Int), vs = [.ref p, .ref q] ∧ Pr 400 K H p t b ∧ Pr 400 K H q u c ∧ Q (.int (sgn (t * c - u * b))) H
theorem ok_compared (T : Txt P K mg CQ CN) : Kept P w K mg base CX0 1 "compared" s_compared ["one", "other"] (spComp K) := by
  refine keep0 T.d_compared sc_compared (fun vs H Q E h => ?_) (fun f cdv A outer s H vs Q E hr h => ?_)
  · obtain ⟨p, q, t, b, u, c, rfl, _⟩ := h
    rfl
  · obtain ⟨p, q, t, b, u, c, rfl, x, y, q⟩ := h
    refine ⟨_, (pss_cons (ps_asg (pe_op op_sub (pe_op oMul (pe_ix ix_seq (pv 0) pe_int (fun _ _ => rfl)) (pe_ix ix_seq (pv 1) pe_int (fun _ _ => rfl))) (pe_op oMul (pe_ix ix_seq (pv 1) pe_int (fun _ _ => rfl)) (pe_ix ix_seq (pv 0) pe_int (fun _ _ => rfl)))) (pg_name (i := 2) sc_compared.nd rfl (by first | exact Or.inl rfl | exact Or.inr rfl)))
      (pss_cons (ps_if (pt_cmpR (oEq (ru64 hr)) (pv 2) pe_int (nomark _))
        (pss_one (ps_ret pe_int)) pss_nil)
      (pss_one (ps_ret (pe_ifExp (pt_cmpR op_lt (pv 2) pe_int (nomark _)) (pe_un un_neg pe_int) pe_int))))), ?_⟩
    walk_at "s"
    refine w_ixT x.sq rfl ?_
    walk_at "s"
    refine w_ixT y.sq rfl ?_
    refine w_mul (mulW x.zt y.zb (by decide) (by decide)) ?_
    walk_at "s"
    refine w_ixT y.sq rfl ?_
    walk_at "s"
    refine w_ixT x.sq rfl ?_
    refine w_mul (mulW y.zt x.zb (by decide) (by decide)) ?_
    walk_at "s"
    refine w_iteD (fun h2 => ?_) (fun h2 => ?_)
    · walk_at "s"
      rw [show sgn (t * c - u * b) = 0 by unfold sgn; rw [if_pos h2]] at q
      exact q
    · walk_at "s"
      refine w_iteD (fun h3 => ?_) (fun h3 => ?_)
      · walk_at "s"
        rw [show sgn (t * c - u * b) = -1 by unfold sgn; rw [if_neg h2, if_pos h3]] at q
        exact q
      · walk_at "s"
        rw [show sgn (t * c - u * b) = 1 by unfold sgn; rw [if_neg h2, if_neg h3]] at q
        exact q
end
end K01
set_option maxRecDepth 100000
set_option maxHeartbeats 2000000
namespace K01
open PySem L2 NL
local macro_rules | `(tactic| walk_at "s1") => `(tactic| with_reducible first
  | refine w_seq ?_ | refine w_asg ?_ | refine w_drop ?_ | refine w_ret ?_ | refine w_next ?_ | refine w_ifS ?_
  | refine w_c ?_ | refine w_op ?_ | refine w_un ?_ | refine w_test ?_ | refine w_B ?_ | refine w_bl ?_ | refine w_not ?_ | refine w_and ?_ | refine w_or ?_
  | refine w_andV ?_ | refine w_orV ?_ | refine w_notV ?_ | refine w_blP ?_ | refine w_if ?_ | refine w_nil ?_ | refine w_cons ?_ | refine w_call ?_ | refine w_callS ?_ | refine w_callW ?_
  | refine w_cb ?_ | refine w_tup ?_ | refine w_lst ?_ | refine w_par ?_ | refine w_two ?_ | refine w_addI ?_ | refine w_I0 ?_ | refine w_neg ?_ | refine w_eqI ?_ | refine w_neI ?_
  | refine w_absI ?_ | refine w_intI ?_ | refine w_sub ?_ | refine w_bm0 ?_ | refine w_bm ?_ | refine w_iteT ?_ | refine w_iteF ?_ | refine w_iteNF ?_ | refine w_iteNT ?_ | refine w_lcT ?_ | refine w_lcL ?_ | refine w_ref ?_ | refine w_sl ?_ | refine w_npart ?_ | refine w_part ?_ | refine w_iv ?_ | refine w_rev ?_ | refine w_forL ?_ | refine w_forT ?_ | refine w_forR1 ?_ | refine w_one ?_ | refine w_g ?_
  | refine w_var (by with_unfolding_all rfl) ?_)
local macro_rules | `(tactic| walk_at "s") => `(tactic| repeat (walk_at "s1"))

abbrev s__law_draw : Stmt := top 14
abbrev s__law_any : Stmt := top 15
abbrev s__law_of : Stmt := top 16
theorem sc__law_draw : FnScope ["_law_script", "_law_salt", "_law_cells", "_law_cell", "_law_blend"] ["_law_script", "_law_salt"] (defScope s__law_draw) :=
  ⟨rfl, rfl, rfl, by decide +kernel, rfl, by decide +kernel, by decide +kernel⟩
theorem sc__law_any : FnScope ["_law_deal", "_law_bound", "_law_rest"] ["_law_deal", "_law_bound"] (defScope s__law_any) :=
  ⟨rfl, rfl, rfl, by decide +kernel, rfl, by decide +kernel, by decide +kernel⟩
theorem sc__law_of : FnScope ["_law_deal", "_law_some"] ["_law_deal", "_law_some"] (defScope s__law_of) :=
  ⟨rfl, rfl, rfl, by decide +kernel, rfl, by decide +kernel, by decide +kernel⟩
structure DealTxt (K : PySem.W.Frag) (mg : Str → Option Value) : Prop where
  n_abs : mg "abs" = none
  n_int : mg "int" = none
  n_len : mg "len" = none
  d__law_draw : Def K mg "_law_draw" s__law_draw ["_law_script", "_law_salt"]
  d__law_any : Def K mg "_law_any" s__law_any ["_law_deal", "_law_bound"]
  d__law_of : Def K mg "_law_of" s__law_of ["_law_deal", "_law_some"]
section
variable {P : Program} {w : World} {K : PySem.W.Frag} {mg : Str → Option Value} {base : Heap}
def absV : V → V
  | .int n => .int (n.natAbs : Nat)
  | x => x
def bigV : V → Bool
  | .int n => decide (10 ^ 18 ≤ n)
  | _ => false
theorem filter_big (ns : List Int) : (ns.map V.int).filter bigV = (ns.filter fun n => decide (10 ^ 18 ≤ n)).map V.int := by
  rw [List.filter_map]
  rfl
theorem ok__law_draw (T : DealTxt K mg) : Kept P w K mg base CX0 1 "_law_draw" s__law_draw ["_law_script", "_law_salt"] (spDraw K) := by
  refine keep0 T.d__law_draw sc__law_draw (fun vs H Q E h => ?_) (fun f cdv A outer s H vs Q E hr h => ?_)
  · obtain ⟨p, ns, z, rfl, _⟩ := h
    rfl
  · obtain ⟨p, ns, z, rfl, S, z0, z1, q⟩ := h
    refine ⟨_, (pss_cons (ps_setLc (i := 2) (own := [("_law_cell", 3)]) (g := gName 3) (tt := tYes) (by rfl) sc__law_draw.nd rfl rfl (sw_true rfl rfl rfl (by decide +kernel)) (pi_list (pe_slice sl_any (pv 0) po_none (po_some pe_int))) (blkOk_by (own := [("_law_cell", 3)]) (N := ["_law_script", "_law_salt", "_law_cells", "_law_cell", "_law_blend"]) (sc := defScope s__law_draw) (by decide +kernel)) (fun _ _ _ _ _ => (pg_name (i := 3) sc__law_draw.nd rfl (by first | exact Or.inl rfl | exact Or.inr rfl))) (fun _ _ _ _ _ => pts_nil) (fun _ _ _ _ _ => (pe_callB cAbs (by rfl) T.n_abs (by decide +kernel) (pa_cons (pe_callTy cInt (by rfl) T.n_int (by decide +kernel) (pa_cons (pv 3) pa_nil)) pa_nil))))
      (pss_cons (ps_asg (pe_op oAdd pe_int (pe_op oMul pe_int (pv 1))) (pg_name (i := 4) sc__law_draw.nd rfl (by first | exact Or.inl rfl | exact Or.inr rfl)))
      (pss_cons (ps_for PassesOwn.never rfl (pi_list (pv 2)) (pg_name (i := 3) sc__law_draw.nd rfl (by first | exact Or.inl rfl | exact Or.inr rfl))
        (pss_one (ps_asg (pe_op oMod (pe_callTy cInt (by rfl) T.n_int (by decide +kernel) (pa_cons (pe_op oAdd (pe_op oAdd (pe_op oMul (pv 4) pe_int) (pe_op oMod (pv 3) pe_int)) pe_int) pa_nil)) pe_int) (pg_name (i := 4) sc__law_draw.nd rfl (by first | exact Or.inl rfl | exact Or.inr rfl)))))
      (pss_one (ps_ret (pe_lst (pa_cons (pe_revL (pe_lc (own := [("_law_cell", 3)]) (g := gName 3) (by rfl) sc__law_draw.nd (pi_list (pv 2)) (blkOk_by (own := [("_law_cell", 3)]) (N := ["_law_script", "_law_salt", "_law_cells", "_law_cell", "_law_blend"]) (sc := defScope s__law_draw) (by decide +kernel)) (fun _ _ _ _ _ => (pg_name (i := 3) sc__law_draw.nd rfl (by first | exact Or.inl rfl | exact Or.inr rfl))) (fun _ _ _ _ _ => (pts_one (pt_cmpR op_ge (pv 3) (pe_op oPow pe_int pe_int) (nomark _)))) (fun _ _ _ _ _ => (pv 3)))) (pa_cons (pv 4) pa_nil)))))))), ?_⟩
    walk_at "s"
    refine w_slL S (fun p1 n1 => ?_)
    walk_at "s"
    have e1 : upd H p1 (.lst (cutV (ns.map V.int) none (some 48))) p1 = some (.lst ((ns.take 48).map V.int)) := by
      rw [upd_same, show cutV (ns.map V.int) none (some 48) = _ from cut_to _ 48, List.map_take]
    have hz : (ns.take 48).length ≤ 48 := List.length_take_le _ _
    have S1 := SqL.of (K := K) e1
    refine ⟨⟨_, S1⟩, ?_⟩
    refine lc_lst_rel (fun x y _ => y = absV x) (fun _ => true) S1 (by rw [List.length_map]; exact Nat.lt_of_le_of_lt hz (by decide +kernel)) (fun _ => rfl) (fun _ _ _ _ _ _ r _ => r) (fun x _ => turn_yes) (fun x hx _ => ?_) (fun D H' L => ?_)
    · intro H1 s1 Q1 q1
      obtain ⟨n, _, rfl⟩ := List.mem_map.mp hx
      walk_at "s"
      rw [abs_nat]
      exact q1 _ _ (Same.refl _) rfl
    rw [filter_true] at L
    obtain ⟨nw, sm, ys, e, pr⟩ := L
    have e2 := paired_eq pr
    subst e2
    rw [List.map_map] at e
    have e : H' D = some (.lst (((ns.take 48).map fun n => (n.natAbs : Int)).map V.int)) := by
      rw [List.map_map]
      exact e
    have hl : ((ns.take 48).map fun n => (n.natAbs : Int)).length ≤ 48 := by
      rw [List.length_map]
      exact hz
    have hp : ∀ n ∈ (ns.take 48).map fun n => (n.natAbs : Int), 0 ≤ n := fun n hn => by
      obtain ⟨m, _, rfl⟩ := List.mem_map.mp hn
      omega
    generalize (ns.take 48).map (fun n => (n.natAbs : Int)) = cs at e hl hp
    have sm1 : Same H H' := (Same.newT n1).trans sm
    clear e1 S1 sm nw hz pr
    walk_at "s"
    refine w_mul (wide_mul (a := 64) (b := 64) (by decide) (by omega) (by decide) (by decide) (by decide)) ?_
    walk_at "s"
    refine ⟨⟨_, SqL.of e⟩, ?_⟩
    refine fgL (xs := cs.map V.int) (fun i σ H1 => H1 = H' ∧ ∃ (v : Option V) (b : Int), σ = [some (.ref p), some (.int z), some (.ref D), v, some (.int b)] ∧ 0 ≤ b ∧ b < 2147483647) ⟨rfl, _, _, rfl, by omega, by omega⟩ ?_ ?_ ?_
    · rintro i σ H1 _ ⟨rfl, _⟩
      exact SqL.of e
    · rintro i x σ H1 hx ⟨rfl, v, b, rfl, b0, b1⟩
      obtain ⟨n, hn, rfl⟩ := List.mem_map.mp (List.mem_of_getElem? hx)
      walk_at "s"
      refine w_mul (wide_mul (a := 64) (b := 64) (by omega) (by decide) (by decide) (by decide) (by decide)) ?_
      walk_at "s"
      refine w_mod (by decide) ?_
      walk_at "s"
      refine w_mod (by decide) ?_
      walk_at "s"
      exact ⟨rfl, _, _, rfl, Int.fmod_nonneg_of_pos _ (by decide), Int.fmod_lt_of_pos _ (by decide)⟩
    · rintro σ H1 ⟨rfl, v, b, rfl, b0, b1⟩
      walk_at "s"
      refine ⟨⟨_, SqL.of e⟩, ?_⟩
      refine lc_lst_rel (fun x y _ => y = x) bigV (SqL.of e) (by rw [List.length_map]; exact Nat.lt_of_le_of_lt hl (by decide +kernel)) (fun _ => rfl) (fun _ _ _ _ _ _ r _ => r) (fun x hx => ?_) (fun x hx _ => ?_) (fun D2 H2 L => ?_)
      · intro H1 s1 Q1 q1
        obtain ⟨n, _, rfl⟩ := List.mem_map.mp hx
        walk_at "s"
        refine w_pow ⟨by decide, by decide, by decide⟩ ?_
        walk_at "s"
        exact q1 _ (Same.refl _)
      · intro H1 s1 Q1 q1
        walk_at "s"
        exact q1 _ _ (Same.refl _) rfl
      rw [filter_big] at L
      obtain ⟨nw, sm, ys, e3, pr⟩ := L
      have e2 : ys = _ := (paired_eq (f := fun x => x) pr).trans (List.map_id _)
      subst e2
      refine ⟨D2, _, rfl, SqL.of e3, fun l nl => ?_⟩
      walk_at "s"
      refine ⟨show 2 ≤ sizeLine by decide +kernel, fun a na => ?_⟩
      have ne : l ≠ a := fun z => by
        subst z
        rw [upd_same] at na
        cases na
      have nl' : H l = none := none_same (sm1.trans sm) nl
      have na' : H2 a = none := by
        rw [upd_ne (Ne.symm ne)] at na
        exact na
      refine q a l _ (none_same (sm1.trans sm) na') nl' ⟨ne, (cs.filter fun n => decide (10 ^ 18 ≤ n)).reverse, b, upd_same, ?_, ?_, ?_, b0, b1⟩ ?_
      · rw [upd_ne ne, upd_same, List.map_reverse]
      · intro n hn
        exact hp n (List.mem_filter.mp (List.mem_reverse.mp hn)).1
      · rw [List.length_reverse]
        exact Nat.le_trans (List.length_filter_le _ _) hl
      · exact Same.putT (Same.putT (Same.trans sm1 sm) nl') (none_same (sm1.trans sm) na')
theorem ok__law_any (T : DealTxt K mg) : Kept P w K mg base CX0 1 "_law_any" s__law_any ["_law_deal", "_law_bound"] spAny := by
  refine keep0 T.d__law_any sc__law_any (fun vs H Q E h => ?_) (fun f cdv A outer s H vs Q E hr h => ?_)
  · obtain ⟨a, l, n, rfl, _⟩ := h
    rfl
  · obtain ⟨a, l, n, rfl, n0, n1, D, q⟩ := h
    have n2 : n.natAbs < 2 ^ 100 := by omega
    refine ⟨_, (pss_cons (ps_while PassesOwn.never (PW.pt (pw_and (pt_cmpR (oNe (ru64 hr)) (pe_ix ix_seq (pv 0) pe_int (fun _ _ => rfl)) (pe_lst pa_nil) (nomark _)) (pw_and1 (pt_cmpR (oEq (ru64 hr)) (pe_ix ix_seq (pe_ix ix_seq (pv 0) pe_int (fun _ _ => rfl)) (pe_un un_neg pe_int) (fun _ _ => rfl)) pe_int (nomark _))))) (pss_one (ps_expr (pe_bm0 PySem.F.plainAttrs_list PySem.F.slot_list_pop PySem.F.type_list_pop mt_pop (pe_ix ix_seq (pv 0) pe_int (fun _ _ => rfl))))))
      (pss_cons (ps_if (pt_cmpR (oNe (ru64 hr)) (pe_ix ix_seq (pv 0) pe_int (fun _ _ => rfl)) (pe_lst pa_nil) (nomark _))
        (pss_cons (ps_asg (pe_callTy cInt (by rfl) T.n_int (by decide +kernel) (pa_cons (pe_bm0 PySem.F.plainAttrs_list PySem.F.slot_list_pop PySem.F.type_list_pop mt_pop (pe_ix ix_seq (pv 0) pe_int (fun _ _ => rfl))) pa_nil)) (pg_name (i := 2) sc__law_any.nd rfl (by first | exact Or.inl rfl | exact Or.inr rfl)))
      (pss_cons (ps_expr (pe_bm PySem.F.plainAttrs_list PySem.F.slot_list_append PySem.F.type_list_append mt_append (pe_ix ix_seq (pv 0) pe_int (fun _ _ => rfl)) (pa_cons (pe_op oDiv (pv 2) (pv 1)) pa_nil)))
      (pss_one (ps_ret (pe_op oMod (pv 2) (pv 1)))))) pss_nil)
      (pss_cons (ps_asg (pe_op oMod (pe_callTy cInt (by rfl) T.n_int (by decide +kernel) (pa_cons (pe_op oAdd (pe_op oMul (pe_ix ix_seq (pv 0) pe_int (fun _ _ => rfl)) pe_int) pe_int) pa_nil)) pe_int) (pg_sub (pv 0) pe_int set_list))
      (pss_one (ps_ret (pe_op oMod (pe_callTy cInt (by rfl) T.n_int (by decide +kernel) (pa_cons (pe_op oDiv (pe_ix ix_seq (pv 0) pe_int (fun _ _ => rfl)) pe_int) pa_nil)) (pv 1))))))), ?_⟩
    walk_at "s"
    obtain ⟨ne, ns, b, e1, e2, hp, hl, b0, b1⟩ := D
    refine w_while (m := ns.length) (fun m σ H' => Fr a l H H' ∧ ∃ (ns' : List Int) (v : Option V), σ = [some (.ref a), some (.int n), v] ∧ m = ns'.length ∧ H' a = some (.lst [.ref l, .int b]) ∧
      H' l = some (.lst (ns'.map V.int)) ∧ (∀ n ∈ ns', 0 ≤ n) ∧ ns'.length ≤ 48) ⟨Fr.refl, ns, none, rfl, rfl, e1, e2, hp, hl⟩ ?_
    rintro m σ H' ⟨fr, ns, v, rfl, rfl, e1, e2, hp, hl⟩
    clear hr
    walk_at "s"
    refine w_ixL (SqL.of e1) rfl ?_
    walk_at "s"
    refine ⟨by decide +kernel, fun t1 nt1 => ?_⟩
    have ne1 : a ≠ t1 := ne_of_none e1 nt1
    have ne2 : l ≠ t1 := ne_of_none e2 nt1
    have f1 : upd H' t1 (.lst []) a = some (.lst [.ref l, .int b]) := by rw [upd_ne ne1]; exact e1
    have f2 : upd H' t1 (.lst []) l = some (.lst (ns.map V.int)) := by rw [upd_ne ne2]; exact e2
    have fr1 := fr.newT (o := .lst []) nt1
    refine w_neL (ns := ns) (ms := []) (SqL.of f2) (SqL.of upd_same) ?_
    generalize upd H' t1 (.lst []) = H1 at f1 f2 fr1
    clear e1 e2 fr nt1 ne1 ne2
    walk_at "s"
    refine w_iteN (fun h0 => ?_) (fun h0 => ?_)
    · walk_at "s"
      refine w_ixL (SqL.of f1) rfl ?_
      walk_at "s"
      refine w_ixL (SqL.of f2) (at_last h0) ?_
      walk_at "s"
      refine w_iteD (fun h1 => ?_) (fun h1 => ?_)
      · refine w_go ?_
        walk_at "s"
        refine w_ixL (SqL.of f1) rfl ?_
        refine w_pop f2 (get_last h0) ?_
        have hn : ns.length - 1 < ns.length := by
          have := List.length_pos_iff.mpr h0
          omega
        refine ⟨_, hn, fr1.updL, ns.dropLast, v, rfl, List.length_dropLast.symm, ?_, ?_, fun n hn => hp n (mem_drop_last hn), ?_⟩
        · rw [upd_ne (Ne.symm ne)]
          exact f1
        · rw [upd_same, map_drop_last]
        · rw [List.length_dropLast]
          omega
      · walk_at "s"
        refine w_ixL (SqL.of f1) rfl ?_
        walk_at "s"
        refine ⟨by decide +kernel, fun t1 nt1 => ?_⟩
        have ne1 : a ≠ t1 := ne_of_none f1 nt1
        have ne2 : l ≠ t1 := ne_of_none f2 nt1
        have g1 : upd H1 t1 (.lst []) a = some (.lst [.ref l, .int b]) := by rw [upd_ne ne1]; exact f1
        have g2 : upd H1 t1 (.lst []) l = some (.lst (ns.map V.int)) := by rw [upd_ne ne2]; exact f2
        have fr2 := fr1.newT (o := .lst []) nt1
        refine w_neL (ns := ns) (ms := []) (SqL.of g2) (SqL.of upd_same) ?_
        generalize upd H1 t1 (.lst []) = H2 at g1 g2 fr2
        clear f1 f2 fr1 nt1 ne1 ne2
        walk_at "s"
        refine w_iteN (fun _ => ?_) (fun z => absurd z h0)
        walk_at "s"
        refine w_ixL (SqL.of g1) rfl ?_
        refine w_pop g2 (get_last h0) ?_
        walk_at "s"
        have r0 := hp _ (last_mem h0)
        generalize ns.getLast h0 = r at r0 h1
        have k1 : upd H2 l (.lst (ns.map V.int).dropLast) a = some (.lst [.ref l, .int b]) := by rw [upd_ne (Ne.symm ne)]; exact g1
        refine w_ixL (SqL.of k1) rfl ?_
        walk_at "s"
        refine ⟨tyL upd_same, ?_⟩
        walk_at "s"
        refine w_divP n0 n2 (by decide) (by decide) ?_
        walk_at "s"
        refine w_append upd_same (by rw [map_drop_last, List.length_map, List.length_dropLast]; exact Nat.lt_of_le_of_lt (Nat.le_trans (Nat.sub_le _ _) hl) (by decide +kernel)) ?_
        walk_at "s"
        refine w_mod (by omega) ?_
        refine q _ _ (Int.fmod_nonneg_of_pos _ n0) (Int.fmod_lt_of_pos _ n0) ⟨ne, ns.dropLast ++ [r / n], b, ?_, ?_, ?_, ?_, b0, b1⟩ fr2.updL.updL
        · rw [upd_ne (Ne.symm ne), upd_ne (Ne.symm ne)]
          exact g1
        · rw [upd_same, map_drop_last, List.map_append]
          rfl
        · intro x hx
          rcases List.mem_append.mp hx with hx | hx
          · exact hp x (mem_drop_last hx)
          · rw [List.mem_singleton.mp hx]
            exact Int.ediv_nonneg r0 (by omega)
        · have := List.length_pos_iff.mpr h0
          rw [List.length_append, List.length_dropLast]
          show ns.length - 1 + 1 ≤ 48
          omega
    · subst h0
      walk_at "s"
      refine w_ixL (SqL.of f1) rfl ?_
      walk_at "s"
      refine ⟨by decide +kernel, fun t1 nt1 => ?_⟩
      have ne1 : a ≠ t1 := ne_of_none f1 nt1
      have ne2 : l ≠ t1 := ne_of_none f2 nt1
      have g1 : upd H1 t1 (.lst []) a = some (.lst [.ref l, .int b]) := by rw [upd_ne ne1]; exact f1
      have g2 : upd H1 t1 (.lst []) l = some (.lst []) := by rw [upd_ne ne2]; exact f2
      have fr2 := fr1.newT (o := .lst []) nt1
      refine w_neL (ns := []) (ms := []) (SqL.of g2) (SqL.of upd_same) ?_
      generalize upd H1 t1 (.lst []) = H2 at g1 g2 fr2
      clear f1 f2 fr1 nt1 ne1 ne2
      walk_at "s"
      refine w_iteN (fun z => absurd rfl z) (fun _ => ?_)
      walk_at "s"
      refine w_ixL (SqL.of g1) rfl ?_
      refine w_mul (wide_mul (a := 64) (b := 64) (by omega) (by decide) (by decide) (by decide) (by decide)) ?_
      walk_at "s"
      refine w_mod (by decide) ?_
      walk_at "s"
      refine w_setL g1 rfl ?_
      walk_at "s"
      have k1 : upd H2 a (.lst ([V.ref l, V.int b].set 1 (.int ((b * 40693 + 71).fmod 2147483647)))) a = some (.lst [.ref l, .int ((b * 40693 + 71).fmod 2147483647)]) := upd_same
      refine w_ixL (SqL.of k1) rfl ?_
      refine w_divP (b := 10) (by decide) (by decide) (by decide) (by decide) ?_
      walk_at "s"
      refine w_mod (by omega) ?_
      refine q _ _ (Int.fmod_nonneg_of_pos _ n0) (Int.fmod_lt_of_pos _ n0) ⟨ne, [], _, k1, ?_, hp, hl, Int.fmod_nonneg_of_pos _ (by decide), Int.fmod_lt_of_pos _ (by decide)⟩ fr2.updA
      rw [upd_ne ne]
      exact g2
theorem ok__law_of (T : DealTxt K mg) : Kept P w K mg base CX0 2 "_law_of" s__law_of ["_law_deal", "_law_some"] (spOf K) := by
  have O__law_any := ok__law_any (P := P) (w := w) (base := base) T
  refine keep0 T.d__law_of sc__law_of (fun vs H Q E h => ?_) (fun f cdv A outer s H vs Q E hr h => ?_)
  · obtain ⟨a, l, p, xs, rfl, _⟩ := h
    rfl
  · obtain ⟨a, l, p, xs, rfl, D, S, e1, e2, h1, h2, q⟩ := h
    refine ⟨_, (pss_one (ps_ret (pe_ix ix_seq (pv 1) (pk_call O__law_any (hr.mono (by decide)) (pa_cons (pv 0) (pa_cons (pe_callB cLen (by rfl) T.n_len PySem.boot_len (pa_cons (pv 1) pa_nil)) pa_nil))) (fun _ _ => rfl)))), ?_⟩
    walk_at "s"
    refine w_lenL S ?_
    walk_at "s"
    refine ⟨a, l, xs.length, rfl, by omega, by omega, D, fun r H' r0 r1 D' fr => ?_⟩
    have hr' : r.toNat < xs.length := by omega
    refine w_ixL (v := xs[r.toNat]) (fr.sqL S e1 e2) ?_ ?_
    · unfold atI ixN
      rw [if_pos r0, if_pos r1]
      show xs[r.toNat]? = _
      exact List.getElem?_eq_getElem hr'
    · exact q _ (List.getElem_mem hr') _ D' fr
end

end K01
set_option maxRecDepth 100000
set_option maxHeartbeats 2000000
namespace K01
open PySem L2 NL
local macro_rules | `(tactic| walk_at "s1") => `(tactic| with_reducible first
  | refine w_seq ?_ | refine w_asg ?_ | refine w_drop ?_ | refine w_ret ?_ | refine w_next ?_ | refine w_ifS ?_
  | refine w_c ?_ | refine w_op ?_ | refine w_un ?_ | refine w_test ?_ | refine w_B ?_ | refine w_bl ?_ | refine w_not ?_ | refine w_and ?_ | refine w_or ?_
  | refine w_andV ?_ | refine w_orV ?_ | refine w_notV ?_ | refine w_blP ?_ | refine w_if ?_ | refine w_nil ?_ | refine w_cons ?_ | refine w_call ?_ | refine w_callS ?_ | refine w_callW ?_
  | refine w_cb ?_ | refine w_tup ?_ | refine w_lst ?_ | refine w_par ?_ | refine w_two ?_ | refine w_addI ?_ | refine w_I0 ?_ | refine w_neg ?_ | refine w_eqI ?_ | refine w_neI ?_
  | refine w_absI ?_ | refine w_intI ?_ | refine w_sub ?_ | refine w_bm0 ?_ | refine w_bm ?_ | refine w_iteT ?_ | refine w_iteF ?_ | refine w_iteNF ?_ | refine w_iteNT ?_ | refine w_lcT ?_ | refine w_lcL ?_ | refine w_ref ?_ | refine w_sl ?_ | refine w_npart ?_ | refine w_part ?_ | refine w_iv ?_ | refine w_rev ?_ | refine w_forL ?_ | refine w_forT ?_ | refine w_forR1 ?_ | refine w_one ?_ | refine w_g ?_ | refine w_asgT ?_ | refine w_gcons ?_ | refine w_gnil ?_
  | refine w_var (by with_unfolding_all rfl) ?_)
local macro_rules | `(tactic| walk_at "s") => `(tactic| repeat (walk_at "s1"))
abbrev s__law_low : Stmt := top 17
abbrev s__law_integer : Stmt := top 18
abbrev s__law_bottom : Stmt := top 19
abbrev s__law_refused : Stmt := top 20
abbrev s__law_sums_right : Stmt := top 21
abbrev s_law : Stmt := top 22
theorem sc__law_low : FnScope ["_law_top", "_law_bottom_here", "_law_one", "_law_other"] ["_law_top", "_law_bottom_here"] (defScope s__law_low) :=
  ⟨rfl, rfl, rfl, by decide +kernel, rfl, by decide +kernel, by decide +kernel⟩
theorem sc__law_integer : FnScope ["_law_deal", "_law_form"] ["_law_deal"] (defScope s__law_integer) :=
  ⟨rfl, rfl, rfl, by decide +kernel, rfl, by decide +kernel, by decide +kernel⟩
theorem sc__law_bottom : FnScope ["_law_deal", "_law_found"] ["_law_deal"] (defScope s__law_bottom) :=
  ⟨rfl, rfl, rfl, by decide +kernel, rfl, by decide +kernel, by decide +kernel⟩
theorem sc__law_refused : FnScope ["_law_work", "e"] ["_law_work"] (defScope s__law_refused) :=
  ⟨rfl, rfl, rfl, by decide +kernel, rfl, by decide +kernel, by decide +kernel⟩
theorem sc__law_sums_right : FnScope ["_law_one", "_law_other", "_law_gap", "_law_due"] ["_law_one", "_law_other"] (defScope s__law_sums_right) :=
  ⟨rfl, rfl, rfl, by decide +kernel, rfl, by decide +kernel, by decide +kernel⟩
theorem sc_law : FnScope ["_law_script", "_law_deal", "_law_turn", "_law_top", "_law_bottom_here", "_law_share", "_law_one", "_law_other", "_law_many", "_law_wrong", "_law_value"] ["_law_script"] (defScope s_law) :=
  ⟨rfl, rfl, rfl, by decide +kernel, rfl, by decide +kernel, by decide +kernel⟩
structure LTxt (P : Program) (K : PySem.W.Frag) (mg : Str → Option Value) (CQ CN : Addr) : Prop extends Txt P K mg CQ CN, DealTxt K mg where
  n_range : mg "range" = none
  n_str : mg "str" = none
  n_repr : mg "repr" = none
  c_InvalidQuestion : mg "InvalidQuestion" = some (.ref CQ)
  c_NetError : mg "NetError" = some (.ref CN)
  heard : Heard K CQ CQ CN
  d__law_low : Def K mg "_law_low" s__law_low ["_law_top", "_law_bottom_here"]
  d__law_integer : Def K mg "_law_integer" s__law_integer ["_law_deal"]
  d__law_bottom : Def K mg "_law_bottom" s__law_bottom ["_law_deal"]
  d__law_refused : Def K mg "_law_refused" s__law_refused ["_law_work"]
  d__law_sums_right : Def K mg "_law_sums_right" s__law_sums_right ["_law_one", "_law_other"]
section
variable {P : Program} {w : World} {K : PySem.W.Frag} {mg : Str → Option Value} {base : Heap} {CQ CN : Addr}
def spLow : Sp := fun vs H Q _ => ∃ t b : Int, vs = [.int t, .int b] ∧ b ≠ 0 ∧ b.natAbs < 2 ^ 1000 ∧ ∀ p, H p = none → Q (.ref p) (upd H p (.tup (lowV t b)))
theorem ok__law_low (T : LTxt P K mg CQ CN) : Kept P w K mg base CX0 1 "_law_low" s__law_low ["_law_top", "_law_bottom_here"] spLow := by
  refine keep0 T.d__law_low sc__law_low (fun vs H Q E h => ?_) (fun f cdv A outer s H vs Q E hr h => ?_)
  · obtain ⟨t, b, rfl, _⟩ := h
    rfl
  · obtain ⟨t, b, rfl, hb, hz, q⟩ := h
    have g0 : lowG t b ≠ 0 := lowG_ne hb
    have gl : (lowG t b).natAbs.log2 < 9000 := log_lt (Nat.lt_of_le_of_lt (lowG_le hb) hz) (by decide) (by decide)
    refine ⟨_, (pss_cons (ps_par (i := 2) (j := 3) (by rfl) sc__law_low.nd rfl rfl (by decide) rfl rfl (pa_cons (pe_callB cAbs (by rfl) T.n_abs (by decide +kernel) (pa_cons (pv 0) pa_nil)) (pa_cons (pe_callB cAbs (by rfl) T.n_abs (by decide +kernel) (pa_cons (pv 1) pa_nil)) pa_nil)) (by rfl))
      (pss_cons (ps_while PassesOwn.never (pt_cmpR op_gt (pv 3) pe_int (nomark _)) (pss_one (ps_par (i := 2) (j := 3) (by rfl) sc__law_low.nd rfl rfl (by decide) rfl rfl (pa_cons (pv 3) (pa_cons (pe_op oMod (pe_callTy cInt (by rfl) T.n_int (by decide +kernel) (pa_cons (pv 2) pa_nil)) (pv 3)) pa_nil)) (by rfl))))
      (pss_cons (ps_asg (pe_ifExp (pt_cmpR op_gt (pv 1) pe_int (nomark _)) (pv 2) (pe_op op_sub pe_int (pv 2))) (pg_name (i := 2) sc__law_low.nd rfl (by first | exact Or.inl rfl | exact Or.inr rfl)))
      (pss_one (ps_ret (pe_tup (pa_cons (pe_op oDiv (pv 0) (pv 2)) (pa_cons (pe_op oDiv (pv 1) (pv 2)) pa_nil)))))))), ?_⟩
    walk_at "s"
    rw [abs_nat, abs_nat]
    refine w_while (m := b.natAbs) (fun m σ H' => ∃ a' : Nat, σ = [some (.int t), some (.int b), some (.int a'), some (.int m)] ∧ H' = H ∧ Nat.gcd a' m = Nat.gcd t.natAbs b.natAbs) ⟨t.natAbs, rfl, rfl, rfl⟩ ?_
    rintro m σ H' ⟨a', rfl, rfl, hg⟩
    walk_at "s"
    refine w_iteD (fun h0 => ?_) (fun h0 => ?_)
    · refine w_go ?_
      walk_at "s"
      refine w_mod (by omega) ?_
      walk_at "s"
      have hp : 0 < m := by omega
      refine ⟨a' % m, Nat.mod_lt _ hp, m, ?_, rfl, ?_⟩
      · rw [fmod_nat]
        rfl
      · rw [gcd_step]
        exact hg
    · have e : m = 0 := by omega
      subst e
      rw [Nat.gcd_zero_right] at hg
      subst hg
      walk_at "s"
      refine w_iteD (fun h2 => ?_) (fun h2 => ?_)
      · walk_at "s"
        rw [show ((Nat.gcd t.natAbs b.natAbs : Nat) : Int) = lowG t b by unfold lowG; rw [if_neg (by omega)]]
        refine w_div g0 gl ?_
        walk_at "s"
        refine w_div g0 gl ?_
        walk_at "s"
        exact ⟨show 2 ≤ sizeLine by decide +kernel, q⟩
      · walk_at "s"
        rw [show 0 - ((Nat.gcd t.natAbs b.natAbs : Nat) : Int) = lowG t b by unfold lowG; rw [if_pos (by omega)]; omega]
        refine w_div g0 gl ?_
        walk_at "s"
        refine w_div g0 gl ?_
        walk_at "s"
        exact ⟨show 2 ≤ sizeLine by decide +kernel, q⟩
def spInteger : Sp := fun vs H Q _ => ∃ a l : Addr, vs = [.ref a] ∧ DealAt H a l ∧ ∀ r H', r.natAbs < 2 ^ 60 → DealAt H' a l → Fr a l H H' → Q (.int r) H'
def spBottom : Sp := fun vs H Q _ => ∃ a l : Addr, vs = [.ref a] ∧ DealAt H a l ∧ ∀ r H', r ≠ 0 → r.natAbs < 2 ^ 60 → DealAt H' a l → Fr a l H H' → Q (.int r) H'
theorem ok__law_integer (T : LTxt P K mg CQ CN) : Kept P w K mg base CX0 3 "_law_integer" s__law_integer ["_law_deal"] spInteger := by
  have O__law_any := ok__law_any (P := P) (w := w) (base := base) T.toDealTxt
  have O__law_of := ok__law_of (P := P) (w := w) (base := base) T.toDealTxt
  refine keep0 T.d__law_integer sc__law_integer (fun vs H Q E h => ?_) (fun f cdv A outer s H vs Q E hr h => ?_)
  · obtain ⟨a, l, rfl, _⟩ := h
    rfl
  · obtain ⟨a, l, rfl, D, q⟩ := h
    refine ⟨_, (pss_cons (ps_asg (pk_call O__law_any (hr.mono (by decide)) (pa_cons (pv 0) (pa_cons pe_int pa_nil))) (pg_name (i := 1) sc__law_integer.nd rfl (by first | exact Or.inl rfl | exact Or.inr rfl)))
      (pss_cons (ps_if (pt_cmpR (oEq (ru64 hr)) (pv 1) pe_int (nomark _))
        (pss_one (ps_ret (pe_op op_sub (pk_call O__law_any (hr.mono (by decide)) (pa_cons (pv 0) (pa_cons pe_int pa_nil))) pe_int))) pss_nil)
      (pss_cons (ps_if (pt_cmpR (oEq (ru64 hr)) (pv 1) pe_int (nomark _))
        (pss_one (ps_ret (pe_op oMul (pe_op op_sub (pk_call O__law_any (hr.mono (by decide)) (pa_cons (pv 0) (pa_cons pe_int pa_nil))) pe_int) (pk_call O__law_of (hr.mono (by decide)) (pa_cons (pv 0) (pa_cons (pe_lst (pa_cons pe_int (pa_cons pe_int (pa_cons (pe_op oPow pe_int pe_int) (pa_cons (pe_op oPow pe_int pe_int) (pa_cons (pe_op oPow pe_int pe_int) pa_nil)))))) pa_nil)))))) pss_nil)
      (pss_one (ps_ret (pe_op op_sub (pk_call O__law_any (hr.mono (by decide)) (pa_cons (pv 0) (pa_cons pe_int pa_nil))) pe_int)))))), ?_⟩
    walk_at "s"
    refine ⟨a, l, _, rfl, by decide, by decide, D, fun r H1 r0 r1 D1 f1 => ?_⟩
    walk_at "s"
    refine w_iteD (fun _ => ?_) (fun _ => ?_)
    · walk_at "s"
      refine ⟨a, l, _, rfl, by decide, by decide, D1, fun r2 H2 r0 r1 D2 f2 => ?_⟩
      walk_at "s"
      exact q _ _ (by omega) D2 (f1.trans f2)
    walk_at "s"
    refine w_iteD (fun _ => ?_) (fun _ => ?_)
    · walk_at "s"
      refine ⟨a, l, _, rfl, by decide, by decide, D1, fun r2 H2 r0 r1 D2 f2 => ?_⟩
      walk_at "s"
      refine w_pow ⟨by decide, by decide, by decide⟩ ?_
      walk_at "s"
      refine w_pow ⟨by decide, by decide, by decide⟩ ?_
      walk_at "s"
      refine w_pow ⟨by decide, by decide, by decide⟩ ?_
      walk_at "s"
      refine ⟨show 5 ≤ sizeLine by decide +kernel, fun p np => ?_⟩
      walk_at "s"
      have nep : ∀ b o, H2 b = some o → b ≠ p := fun b o e => ne_of_none e np
      have D2' := D2
      obtain ⟨_, _, _, ea, el, _⟩ := D2'
      refine ⟨a, l, p, _, rfl, D2.same (Same.newT np), SqL.of upd_same, (nep _ _ ea).symm, (nep _ _ el).symm, show 0 < 5 by decide, show 5 ≤ 2 ^ 24 by decide, fun x hx H3 D3 f3 => ?_⟩
      have fin : ∀ z : Int, z.natAbs ≤ 6 ^ 20 → x = .int z → aMul (.int (r2 - 6)) x H3 Q := by
        rintro z hz rfl
        have h6 : (6 : Nat) ^ 20 = 3656158440062976 := by decide
        refine w_mul (wide_mul (a := 64) (b := 64) (by omega) (by omega) (by decide) (by decide) (by decide)) ?_
        refine q _ _ ?_ D3 ((f1.trans f2).trans ((Fr.refl.newT np).trans f3))
        rw [Int.natAbs_mul]
        have : (r2 - 6).natAbs * z.natAbs ≤ 6 * 6 ^ 20 := Nat.mul_le_mul (by omega) hz
        omega
      simp only [List.mem_cons, List.not_mem_nil, or_false] at hx
      rcases hx with h | h | h | h | h
      · exact fin 10 (by decide) h
      · exact fin 210 (by decide) h
      · exact fin (3 ^ 9) (by decide) h
      · exact fin (10 ^ 12) (by decide) h
      · exact fin (6 ^ 20) (by decide) h
    walk_at "s"
    refine ⟨a, l, _, rfl, by decide, by decide, D1, fun r2 H2 r0 r1 D2 f2 => ?_⟩
    walk_at "s"
    exact q _ _ (by omega) D2 (f1.trans f2)
theorem ok__law_bottom (T : LTxt P K mg CQ CN) : Kept P w K mg base CX0 4 "_law_bottom" s__law_bottom ["_law_deal"] spBottom := by
  have O__law_integer := ok__law_integer (w := w) (base := base) T
  refine keep0 T.d__law_bottom sc__law_bottom (fun vs H Q E h => ?_) (fun f cdv A outer s H vs Q E hr h => ?_)
  · obtain ⟨a, l, rfl, _⟩ := h
    rfl
  · obtain ⟨a, l, rfl, D, q⟩ := h
    refine ⟨_, (pss_cons (ps_asg (pk_call O__law_integer (hr.mono (by decide)) (pa_cons (pv 0) pa_nil)) (pg_name (i := 1) sc__law_bottom.nd rfl (by first | exact Or.inl rfl | exact Or.inr rfl)))
      (pss_one (ps_ret (pe_ifExp (pt_cmpR (oNe (ru64 hr)) (pv 1) pe_int (nomark _)) (pv 1) pe_int)))), ?_⟩
    walk_at "s"
    refine ⟨a, l, rfl, D, fun r H1 r0 D1 f1 => ?_⟩
    walk_at "s"
    refine w_iteN (fun h => ?_) (fun h => ?_)
    · walk_at "s"
      exact q _ _ h r0 D1 f1
    · walk_at "s"
      exact q _ _ (by decide) (by decide) D1 f1
end
end K01
set_option maxRecDepth 100000
set_option maxHeartbeats 4000000
namespace K01
open PySem L2 NL
local macro_rules | `(tactic| walk_at "s1") => `(tactic| with_reducible first
  | refine w_seq ?_ | refine w_asg ?_ | refine w_drop ?_ | refine w_ret ?_ | refine w_next ?_ | refine w_ifS ?_
  | refine w_c ?_ | refine w_op ?_ | refine w_un ?_ | refine w_test ?_ | refine w_B ?_ | refine w_bl ?_ | refine w_not ?_ | refine w_and ?_ | refine w_or ?_
  | refine w_andV ?_ | refine w_orV ?_ | refine w_notV ?_ | refine w_blP ?_ | refine w_if ?_ | refine w_nil ?_ | refine w_cons ?_ | refine w_call ?_ | refine w_callS ?_ | refine w_callW ?_
  | refine w_cb ?_ | refine w_tup ?_ | refine w_lst ?_ | refine w_par ?_ | refine w_two ?_ | refine w_addI ?_ | refine w_I0 ?_ | refine w_neg ?_ | refine w_eqI ?_ | refine w_neI ?_
  | refine w_absI ?_ | refine w_intI ?_ | refine w_sub ?_ | refine w_bm0 ?_ | refine w_bm ?_ | refine w_iteT ?_ | refine w_iteF ?_ | refine w_iteNF ?_ | refine w_iteNT ?_ | refine w_lcT ?_ | refine w_lcL ?_ | refine w_ref ?_ | refine w_sl ?_ | refine w_npart ?_ | refine w_part ?_ | refine w_iv ?_ | refine w_rev ?_ | refine w_forL ?_ | refine w_forT ?_ | refine w_forR1 ?_ | refine w_one ?_ | refine w_g ?_ | refine w_asgT ?_ | refine w_gcons ?_ | refine w_gnil ?_
  | refine w_var (by with_unfolding_all rfl) ?_)
local macro_rules | `(tactic| walk_at "s") => `(tactic| repeat (walk_at "s1"))
section
variable {P : Program} {w : World} {K : PySem.W.Frag} {mg : Str → Option Value} {base : Heap} {CQ CN : Addr} {H H' : Hp} {Q : VK}
theorem Pr.same {n : Nat} {p : Addr} {t b : Int} (x : Pr n K H p t b) (e : Same H H') : Pr n K H' p t b := ⟨same_t e x.sq, x.zt, x.zb, x.b0⟩
theorem Pr.le {n m : Nat} {p : Addr} {t b : Int} (x : Pr n K H p t b) (h : n ≤ m) : Pr m K H p t b :=
  ⟨x.sq, Nat.lt_of_lt_of_le x.zt (Nat.pow_le_pow_right (by decide) h), Nat.lt_of_lt_of_le x.zb (Nat.pow_le_pow_right (by decide) h), x.b0⟩
theorem w_neSS {x : Str} (h : Q (.bl false) H) : aNe K (.str x) (.str x) H Q := w_neS (by rw [decide_eq_true rfl]; exact h)
theorem w_eqSS {x : Str} (h : Q (.bl true) H) : aEq K (.str x) (.str x) H Q := w_eqS (by rw [decide_eq_true rfl]; exact h)
theorem lowT_le (t b : Int) : (lowT t b).natAbs ≤ t.natAbs := PySem.natAbs_fdiv_le _ _
theorem lowB_le (t b : Int) : (lowB t b).natAbs ≤ b.natAbs := PySem.natAbs_fdiv_le _ _
theorem low_show {t b : Int} {n : Nat} (ht : t.natAbs < 2 ^ n) (hb : b.natAbs < 2 ^ n) (h0 : 0 < n) (hn : n ≤ 1900) : ∀ m ∈ [lowT t b, lowB t b], m.natAbs.log2 < 1920 := by
  intro m hm
  simp only [List.mem_cons, List.not_mem_nil, or_false] at hm
  rcases hm with rfl | rfl
  · exact small_show (Nat.lt_of_le_of_lt (lowT_le t b) ht) h0 hn
  · exact small_show (Nat.lt_of_le_of_lt (lowB_le t b) hb) h0 hn
/-- repr of a lowest pair -/
def shLow (t b : Int) : Str := PyData.shown (.tuple (dInts [lowT t b, lowB t b]))
theorem w_rprLow {a : Addr} {t b : Int} {n : Nat} (e : H a = some (.tup (lowV t b))) (ht : t.natAbs < 2 ^ n) (hb : b.natAbs < 2 ^ n) (h0 : 0 < n) (hn : n ≤ 1900) (q : Q (.str (shLow t b)) H) : rRepr K [.ref a] H Q :=
  w_rprT (ns := [lowT t b, lowB t b]) (.inl (.inl e)) (low_show ht hb h0 hn) (show 2 ≤ 1000 by decide) q
theorem sum_lt {i j : Int} {n : Nat} (a : i.natAbs < 2 ^ n) (b : j.natAbs < 2 ^ n) : (i + j).natAbs < 2 ^ (n + 1) := by
  rw [Nat.pow_succ]
  omega
theorem sub_lt {i j : Int} {n : Nat} (a : i.natAbs < 2 ^ n) (b : j.natAbs < 2 ^ n) : (i - j).natAbs < 2 ^ (n + 1) := by
  rw [Nat.pow_succ]
  omega
theorem up_lt {i : Int} {n m : Nat} (a : i.natAbs < 2 ^ n) (h : n ≤ m) : i.natAbs < 2 ^ m := Nat.lt_of_lt_of_le a (Nat.pow_le_pow_right (by decide) h)
theorem sgn_small (g : Int) : (sgn g).natAbs.log2 < 1920 := by
  unfold sgn
  split
  · decide
  · split <;> decide
def spSums (K : PySem.W.Frag) : Sp := fun vs H Q _ => ∃ (p q : Addr) (t b u c : Int), vs = [.ref p, .ref q] ∧ Pr 200 K H p t b ∧ Pr 200 K H q u c ∧ ∀ H', Same H H' → Q (.bl true) H'
theorem ok__law_sums_right (T : LTxt P K mg CQ CN) : KeptG P w K mg base CX0 6 "_law_sums_right" s__law_sums_right ["_law_one", "_law_other"] (spSums K) := by
  have O_added := ok_added (w := w) (base := base) T.toTxt
  have O_less := ok_less (w := w) (base := base) T.toTxt
  have O_times := ok_times (w := w) (base := base) T.toTxt
  have O_compared := ok_compared (w := w) (base := base) T.toTxt
  have O__law_low := ok__law_low (w := w) (base := base) T
  refine keepG T.d__law_sums_right sc__law_sums_right (fun vs H Q E h => ?_) (fun f cdv A outer s H vs Q E hgd hr h => ?_)
  · obtain ⟨p, q, t, b, u, c, rfl, _⟩ := h
    rfl
  · obtain ⟨p, q, t, b, u, c, rfl, x, y, k⟩ := h
    have m1 : (t * c).natAbs < 2 ^ 400 := wide_lt x.zt y.zb
    have m2 : (u * b).natAbs < 2 ^ 400 := wide_lt y.zt x.zb
    have m3 : (b * c).natAbs < 2 ^ 400 := wide_lt x.zb y.zb
    have m4 : (t * u).natAbs < 2 ^ 400 := wide_lt x.zt y.zt
    have m5 := sum_lt m1 m2
    have m6 := sub_lt m1 m2
    have b0 : b * c ≠ 0 := Int.mul_ne_zero x.b0 y.b0
    refine ⟨_, (pss_cons (ps_par (i := 2) (j := 3) (by rfl) sc__law_sums_right.nd rfl rfl (by decide) rfl rfl (pa_cons (pe_op op_sub (pe_op oMul (pe_ix ix_seq (pv 0) pe_int (fun _ _ => rfl)) (pe_ix ix_seq (pv 1) pe_int (fun _ _ => rfl))) (pe_op oMul (pe_ix ix_seq (pv 1) pe_int (fun _ _ => rfl)) (pe_ix ix_seq (pv 0) pe_int (fun _ _ => rfl)))) (pa_cons pe_int pa_nil)) (by rfl))
      (pss_cons (ps_if (pt_cmpR (oNe (ru64 hr)) (pv 2) pe_int (nomark _))
        (pss_one (ps_asg (pe_ifExp (pt_cmpR op_gt (pv 2) pe_int (nomark _)) pe_int (pe_op op_sub pe_int pe_int)) (pg_name (i := 3) sc__law_sums_right.nd rfl (by first | exact Or.inl rfl | exact Or.inr rfl)))) pss_nil)
      (pss_cons (ps_if (pt_cmpR (oNe (ru64 hr)) (pe_callB (call_repr hgd (ru64 hr)) (by rfl) T.n_repr (by decide +kernel) (pa_cons (pk_callW0 (ks := ["other", "one"]) (idx := [1, 0]) O_added pass0 (fun _ _ _ _ _ _ us ws h1 h2 => match us, ws, h1, h2 with | [], [_, _], _, _ => rfl) (hr.mono (by decide)) (pk_cons (pv 1) (pk_cons (pv 0) pk_nil))) pa_nil)) (pe_callB (call_repr hgd (ru64 hr)) (by rfl) T.n_repr (by decide +kernel) (pa_cons (pk_call O__law_low (hr.mono (by decide)) (pa_cons (pe_op oAdd (pe_op oMul (pe_ix ix_seq (pv 0) pe_int (fun _ _ => rfl)) (pe_ix ix_seq (pv 1) pe_int (fun _ _ => rfl))) (pe_op oMul (pe_ix ix_seq (pv 1) pe_int (fun _ _ => rfl)) (pe_ix ix_seq (pv 0) pe_int (fun _ _ => rfl)))) (pa_cons (pe_op oMul (pe_ix ix_seq (pv 0) pe_int (fun _ _ => rfl)) (pe_ix ix_seq (pv 1) pe_int (fun _ _ => rfl))) pa_nil))) pa_nil)) (nomark _))
        (pss_one (ps_ret pe_bl)) pss_nil)
      (pss_cons (ps_if (pt_cmpR (oNe (ru64 hr)) (pe_callB (call_repr hgd (ru64 hr)) (by rfl) T.n_repr (by decide +kernel) (pa_cons (pk_callW (n := 1) (ks := ["other"]) (idx := [0, 1]) O_less pass0 (fun _ _ _ _ _ _ us ws h1 h2 => match us, ws, h1, h2 with | [_], [_], _, _ => rfl) (hr.mono (by decide)) (pa_cons (pv 0) pa_nil) (pk_cons (pv 1) pk_nil)) pa_nil)) (pe_callB (call_repr hgd (ru64 hr)) (by rfl) T.n_repr (by decide +kernel) (pa_cons (pk_call O__law_low (hr.mono (by decide)) (pa_cons (pv 2) (pa_cons (pe_op oMul (pe_ix ix_seq (pv 0) pe_int (fun _ _ => rfl)) (pe_ix ix_seq (pv 1) pe_int (fun _ _ => rfl))) pa_nil))) pa_nil)) (nomark _))
        (pss_one (ps_ret pe_bl)) pss_nil)
      (pss_cons (ps_if (pt_cmpR (oNe (ru64 hr)) (pe_callB (call_repr hgd (ru64 hr)) (by rfl) T.n_repr (by decide +kernel) (pa_cons (pk_call O_times (hr.mono (by decide)) (pa_cons (pv 0) (pa_cons (pv 1) pa_nil))) pa_nil)) (pe_callB (call_repr hgd (ru64 hr)) (by rfl) T.n_repr (by decide +kernel) (pa_cons (pk_call O__law_low (hr.mono (by decide)) (pa_cons (pe_op oMul (pe_ix ix_seq (pv 0) pe_int (fun _ _ => rfl)) (pe_ix ix_seq (pv 1) pe_int (fun _ _ => rfl))) (pa_cons (pe_op oMul (pe_ix ix_seq (pv 0) pe_int (fun _ _ => rfl)) (pe_ix ix_seq (pv 1) pe_int (fun _ _ => rfl))) pa_nil))) pa_nil)) (nomark _))
        (pss_one (ps_ret pe_bl)) pss_nil)
      (pss_one (ps_ret (pe_and (pe_cmpR (oEq (ru64 hr)) (pe_callB (call_repr hgd (ru64 hr)) (by rfl) T.n_repr (by decide +kernel) (pa_cons (pk_call O_compared (hr.mono (by decide)) (pa_cons (pv 0) (pa_cons (pv 1) pa_nil))) pa_nil)) (pe_callB (call_repr hgd (ru64 hr)) (by rfl) T.n_repr (by decide +kernel) (pa_cons (pv 3) pa_nil)) (nomark _)) (pe_one (pe_cmpR (oEq (ru64 hr)) (pe_callB (call_repr hgd (ru64 hr)) (by rfl) T.n_repr (by decide +kernel) (pa_cons (pk_callW0 (ks := ["one", "other"]) (idx := [0, 1]) O_compared pass0 (fun _ _ _ _ _ _ us ws h1 h2 => match us, ws, h1, h2 with | [], [_, _], _, _ => rfl) (hr.mono (by decide)) (pk_cons (pv 0) (pk_cons (pv 0) pk_nil))) pa_nil)) pe_str (nomark _))))))))))), ?_⟩
    walk_at "s"
    refine w_ixT x.sq rfl ?_
    walk_at "s"
    refine w_ixT y.sq rfl ?_
    refine w_mul (mulW x.zt y.zb (by decide) (by decide)) ?_
    walk_at "s"
    refine w_ixT y.sq rfl ?_
    walk_at "s"
    refine w_ixT x.sq rfl ?_
    refine w_mul (mulW y.zt x.zb (by decide) (by decide)) ?_
    walk_at "s"
    generalize hR : tSeq _ _ { nx := fun x H' => Q V.non H', rt := Q } = R
    have rest : ∀ d, d = sgn (t * c - u * b) → R [some (.ref p), some (.ref q), some (.int (t * c - u * b)), some (.int d)] H := by
      rintro d rfl
      subst hR
      have idx : ∀ {H1 : Hp}, Same H H1 → Pr 200 K H1 p t b ∧ Pr 200 K H1 q u c := fun e => ⟨x.same e, y.same e⟩
      walk_at "s"
      refine ⟨rfl, rfl, p, q, t, b, u, c, rfl, x.le (by decide), y.le (by decide), fun r1 n1 => ?_⟩
      have e1 : Same H (upd H r1 (.tup (lowV (t * c + u * b) (b * c)))) := Same.newT n1
      have g1 : upd H r1 (.tup (lowV (t * c + u * b) (b * c))) r1 = some (.tup (lowV (t * c + u * b) (b * c))) := upd_same
      generalize upd H r1 (.tup (lowV (t * c + u * b) (b * c))) = H1 at e1 g1
      walk_at "s"
      refine w_rprLow g1 m5 (up_lt m3 (by decide)) (by decide) (by decide) ?_
      walk_at "s"
      refine w_ixT (idx e1).1.sq rfl ?_
      walk_at "s"
      refine w_ixT (idx e1).2.sq rfl ?_
      refine w_mul (mulW x.zt y.zb (by decide) (by decide)) ?_
      walk_at "s"
      refine w_ixT (idx e1).2.sq rfl ?_
      walk_at "s"
      refine w_ixT (idx e1).1.sq rfl ?_
      refine w_mul (mulW y.zt x.zb (by decide) (by decide)) ?_
      walk_at "s"
      refine w_ixT (idx e1).1.sq rfl ?_
      walk_at "s"
      refine w_ixT (idx e1).2.sq rfl ?_
      refine w_mul (mulW x.zb y.zb (by decide) (by decide)) ?_
      walk_at "s"
      refine ⟨_, _, rfl, b0, up_lt m3 (by decide), fun r2 n2 => ?_⟩
      have e2 := e1.trans (Same.newT (o := .tup (lowV (t * c + u * b) (b * c))) n2)
      have g2 : upd H1 r2 (.tup (lowV (t * c + u * b) (b * c))) r2 = some (.tup (lowV (t * c + u * b) (b * c))) := upd_same
      generalize upd H1 r2 (.tup (lowV (t * c + u * b) (b * c))) = H2 at e2 g2
      walk_at "s"
      refine w_rprLow g2 m5 (up_lt m3 (by decide)) (by decide) (by decide) ?_
      refine w_neSS ?_
      walk_at "s"
      -- less
      refine ⟨rfl, rfl, p, q, t, b, u, c, rfl, (idx e2).1.le (by decide), (idx e2).2.le (by decide), fun r3 n3 => ?_⟩
      have e3 := e2.trans (Same.newT (o := .tup (lowV (t * c - u * b) (b * c))) n3)
      have g3 : upd H2 r3 (.tup (lowV (t * c - u * b) (b * c))) r3 = some (.tup (lowV (t * c - u * b) (b * c))) := upd_same
      generalize upd H2 r3 (.tup (lowV (t * c - u * b) (b * c))) = H3 at e3 g3
      walk_at "s"
      refine w_rprLow g3 m6 (up_lt m3 (by decide)) (by decide) (by decide) ?_
      walk_at "s"
      refine w_ixT (idx e3).1.sq rfl ?_
      walk_at "s"
      refine w_ixT (idx e3).2.sq rfl ?_
      refine w_mul (mulW x.zb y.zb (by decide) (by decide)) ?_
      walk_at "s"
      refine ⟨_, _, rfl, b0, up_lt m3 (by decide), fun r4 n4 => ?_⟩
      have e4 := e3.trans (Same.newT (o := .tup (lowV (t * c - u * b) (b * c))) n4)
      have g4 : upd H3 r4 (.tup (lowV (t * c - u * b) (b * c))) r4 = some (.tup (lowV (t * c - u * b) (b * c))) := upd_same
      generalize upd H3 r4 (.tup (lowV (t * c - u * b) (b * c))) = H4 at e4 g4
      walk_at "s"
      refine w_rprLow g4 m6 (up_lt m3 (by decide)) (by decide) (by decide) ?_
      refine w_neSS ?_
      walk_at "s"
      -- times
      refine ⟨p, q, t, b, u, c, rfl, (idx e4).1.le (by decide), (idx e4).2.le (by decide), fun r5 n5 => ?_⟩
      have e5 := e4.trans (Same.newT (o := .tup (lowV (t * u) (b * c))) n5)
      have g5 : upd H4 r5 (.tup (lowV (t * u) (b * c))) r5 = some (.tup (lowV (t * u) (b * c))) := upd_same
      generalize upd H4 r5 (.tup (lowV (t * u) (b * c))) = H5 at e5 g5
      walk_at "s"
      refine w_rprLow g5 m4 m3 (by decide) (by decide) ?_
      walk_at "s"
      refine w_ixT (idx e5).1.sq rfl ?_
      walk_at "s"
      refine w_ixT (idx e5).2.sq rfl ?_
      refine w_mul (mulW x.zt y.zt (by decide) (by decide)) ?_
      walk_at "s"
      refine w_ixT (idx e5).1.sq rfl ?_
      walk_at "s"
      refine w_ixT (idx e5).2.sq rfl ?_
      refine w_mul (mulW x.zb y.zb (by decide) (by decide)) ?_
      walk_at "s"
      refine ⟨_, _, rfl, b0, up_lt m3 (by decide), fun r6 n6 => ?_⟩
      have e6 := e5.trans (Same.newT (o := .tup (lowV (t * u) (b * c))) n6)
      have g6 : upd H5 r6 (.tup (lowV (t * u) (b * c))) r6 = some (.tup (lowV (t * u) (b * c))) := upd_same
      generalize upd H5 r6 (.tup (lowV (t * u) (b * c))) = H6 at e6 g6
      walk_at "s"
      refine w_rprLow g6 m4 m3 (by decide) (by decide) ?_
      refine w_neSS ?_
      walk_at "s"
      -- compared
      refine ⟨p, q, t, b, u, c, rfl, (idx e6).1.le (by decide), (idx e6).2.le (by decide), ?_⟩
      walk_at "s"
      refine w_rprI (sgn_small _) ?_
      walk_at "s"
      refine w_rprI (sgn_small _) ?_
      refine w_eqSS ?_
      walk_at "s"
      refine ⟨rfl, rfl, p, p, t, b, t, b, rfl, (idx e6).1.le (by decide), (idx e6).1.le (by decide), ?_⟩
      rw [show sgn (t * b - t * b) = 0 by rw [Int.sub_self]; rfl]
      walk_at "s"
      refine w_rprI (by decide) ?_
      walk_at "s"
      rw [show (((toString (0 : Int) : String) : Str)) = "0" by decide +kernel]
      refine w_eqSS ?_
      walk_at "s"
      exact k _ e6
    clear hR
    refine w_iteN (fun h => ?_) (fun h => ?_)
    · walk_at "s"
      refine w_iteD (fun h2 => ?_) (fun h2 => ?_)
      · walk_at "s"
        exact rest _ (by unfold sgn; rw [if_neg h, if_neg (by omega)])
      · walk_at "s"
        exact rest _ (by unfold sgn; rw [if_neg h, if_pos (by omega)]; rfl)
    · walk_at "s"
      exact rest _ (by unfold sgn; rw [if_pos h])
end
end K01
set_option maxRecDepth 100000
set_option maxHeartbeats 4000000
namespace K01
open PySem L2 NL
local macro_rules | `(tactic| walk_at "s1") => `(tactic| with_reducible first
  | refine w_seq ?_ | refine w_asg ?_ | refine w_drop ?_ | refine w_ret ?_ | refine w_next ?_ | refine w_ifS ?_
  | refine w_c ?_ | refine w_op ?_ | refine w_un ?_ | refine w_test ?_ | refine w_B ?_ | refine w_bl ?_ | refine w_not ?_ | refine w_and ?_ | refine w_or ?_
  | refine w_andV ?_ | refine w_orV ?_ | refine w_notV ?_ | refine w_blP ?_ | refine w_if ?_ | refine w_nil ?_ | refine w_cons ?_ | refine w_call ?_ | refine w_callS ?_ | refine w_callW ?_
  | refine w_cb ?_ | refine w_tup ?_ | refine w_lst ?_ | refine w_par ?_ | refine w_two ?_ | refine w_addI ?_ | refine w_I0 ?_ | refine w_neg ?_ | refine w_eqI ?_ | refine w_neI ?_
  | refine w_absI ?_ | refine w_intI ?_ | refine w_sub ?_ | refine w_bm0 ?_ | refine w_bm ?_ | refine w_iteT ?_ | refine w_iteF ?_ | refine w_iteNF ?_ | refine w_iteNT ?_ | refine w_lcT ?_ | refine w_lcL ?_ | refine w_ref ?_ | refine w_sl ?_ | refine w_npart ?_ | refine w_part ?_ | refine w_iv ?_ | refine w_rev ?_ | refine w_forL ?_ | refine w_forT ?_ | refine w_forR1 ?_ | refine w_one ?_ | refine w_g ?_ | refine w_asgT ?_ | refine w_gcons ?_ | refine w_gnil ?_
  | refine w_var (by with_unfolding_all rfl) ?_)
local macro_rules | `(tactic| walk_at "s") => `(tactic| repeat (walk_at "s1"))
theorem gv__law_refused {X : Cx} {CQ CN : Addr} {q : Str} {g : Addr} {cdg : Value} (T : LTxt X.prog X.K X.mg CQ CN) :
    LamX.GivesTo X ["_law_work", "e"] "_law_refused" (defScope s__law_refused) g cdg (defBody s__law_refused) "_law_work" q (TRef X.K CQ CN) := by
  intro f c' s H Q tl act hc h
  refine ⟨_, pss_cons (ps_try_as (i := 1) (tb := fun W => tAct 2 f c' q tl W) (Wout := fun _ _ _ _ => False) rfl rfl sc__law_refused.nd rfl rfl ⟨rfl, by decide, Or.inl T.c_InvalidQuestion⟩ LamX.takes0
    (fun W pn xe tk _ => pss_act act tk)
    (fun a oe cls d pn hz hf => pss_one (ps_ret (pe_ifExp (pt_val (pe_callB (call_isErr hz hf) rfl T.n_isinstance (by decide +kernel) (pa_cons (pv 1) (pa_cons (pe_glob (v := .ref CN) rfl T.c_NetError rfl) pa_nil)))) (pe_at hz hf (pv 1)) pe_non))))
    (pss_one (ps_ret pe_non)), ?_⟩
  refine ⟨_, ?_, rfl, hc, h⟩
  rintro cls d σ' H' hl ⟨C, dd, v, rfl, rfl, he, hd, qv⟩
  match σ', hl with
  | [x0, x1], _ =>
  refine ⟨true, he.yes, fun _ a na => ?_, fun z => Bool.noConfusion z⟩
  walk_at "s"
  refine ⟨C, .ref CN, .ref CN, true, rfl, rfl, he.ec, fun u r => r, he.isn, .inr ⟨dd, _, rfl, hd⟩, ?_⟩
  walk_at "s"
  refine ⟨_, rfl, rfl, C, dd, v, rfl, rfl, he.ec, he.noAt, hd, qv⟩
/-! ### the plain law -/
theorem low_mul {m x y : Int} (hm : m ≠ 0) (hy : 0 < y) (hg : Nat.gcd x.natAbs y.natAbs = 1) : lowG (m * x) (m * y) = m := by
  have e : Nat.gcd (m * x).natAbs (m * y).natAbs = m.natAbs := by
    rw [Int.natAbs_mul, Int.natAbs_mul, Nat.gcd_mul_left, hg, Nat.mul_one]
  unfold lowG
  rw [e]
  by_cases h : m < 0
  · have : m * y < 0 := Int.mul_neg_of_neg_of_pos h hy
    rw [if_pos this]
    omega
  · have h0 : 0 < m := by omega
    have : 0 < m * y := Int.mul_pos h0 hy
    rw [if_neg (by omega)]
    omega
theorem low_spec {t b : Int} (hb : b ≠ 0) : t = lowG t b * lowT t b ∧ b = lowG t b * lowB t b := by
  have g0 := lowG_ne (t := t) hb
  have d1 : lowG t b ∣ t := by
    unfold lowG
    split
    · exact Int.neg_dvd.mpr (Int.gcd_dvd_left ..)
    · exact Int.gcd_dvd_left ..
  have d2 : lowG t b ∣ b := by
    unfold lowG
    split
    · exact Int.neg_dvd.mpr (Int.gcd_dvd_right ..)
    · exact Int.gcd_dvd_right ..
  obtain ⟨x, hx⟩ := d1
  obtain ⟨y, hy⟩ := d2
  constructor
  · unfold lowT
    generalize lowG t b = g at *
    rw [hx, Int.mul_fdiv_cancel_left _ g0]
  · unfold lowB
    generalize lowG t b = g at *
    rw [hy, Int.mul_fdiv_cancel_left _ g0]
theorem low_pos {t b : Int} (hb : b ≠ 0) : 0 < lowB t b := by
  obtain ⟨_, h⟩ := low_spec (t := t) hb
  have gs : (b < 0 → lowG t b < 0) ∧ (0 < b → 0 < lowG t b) := by
    have : 0 < Nat.gcd t.natAbs b.natAbs := Nat.gcd_pos_of_pos_right _ (by omega)
    unfold lowG
    split <;> constructor <;> omega
  generalize lowG t b = g at *
  generalize lowB t b = y at *
  by_cases hy : 0 < y
  · exact hy
  · exfalso
    rcases Int.lt_or_gt_of_ne hb with h1 | h1
    · have := Int.mul_nonneg_of_nonpos_of_nonpos (a := g) (b := y) (by have := gs.1 h1; omega) (by omega)
      omega
    · have := Int.mul_nonpos_of_nonneg_of_nonpos (a := g) (b := y) (by have := gs.2 h1; omega) (by omega)
      omega
theorem low_gcd {t b : Int} (hb : b ≠ 0) : Nat.gcd (lowT t b).natAbs (lowB t b).natAbs = 1 := by
  obtain ⟨h1, h2⟩ := low_spec (t := t) hb
  have gp : 0 < Nat.gcd t.natAbs b.natAbs := Nat.gcd_pos_of_pos_right _ (by omega)
  have ga : (lowG t b).natAbs = Nat.gcd t.natAbs b.natAbs := by
    unfold lowG
    split <;> omega
  have e : Nat.gcd t.natAbs b.natAbs = Nat.gcd t.natAbs b.natAbs * Nat.gcd (lowT t b).natAbs (lowB t b).natAbs := by
    have e1 : t.natAbs = (lowG t b).natAbs * (lowT t b).natAbs := by rw [← Int.natAbs_mul, ← h1]
    have e2 : b.natAbs = (lowG t b).natAbs * (lowB t b).natAbs := by rw [← Int.natAbs_mul, ← h2]
    have e3 : Nat.gcd t.natAbs b.natAbs = (lowG t b).natAbs * Nat.gcd (lowT t b).natAbs (lowB t b).natAbs := by
      rw [← Nat.gcd_mul_left, ← e1, ← e2]
    rw [← ga]
    rw [ga]
    rw [ga] at e3
    exact e3
  exact Nat.eq_of_mul_eq_mul_left gp (by rw [Nat.mul_one]; exact e.symm)
theorem low_scale {t b s : Int} (hb : b ≠ 0) (hs : s ≠ 0) : lowV (t * s) (b * s) = lowV t b := by
  obtain ⟨h1, h2⟩ := low_spec (t := t) hb
  have g0 := lowG_ne (t := t) hb
  have m0 : lowG t b * s ≠ 0 := Int.mul_ne_zero g0 hs
  have e1 : t * s = (lowG t b * s) * lowT t b := by
    rw [Int.mul_right_comm, ← h1]
  have e2 : b * s = (lowG t b * s) * lowB t b := by
    rw [Int.mul_right_comm, ← h2]
  have e3 := low_mul m0 (low_pos (t := t) hb) (low_gcd hb)
  rw [← e1, ← e2] at e3
  unfold lowV
  rw [show lowT (t * s) (b * s) = lowT t b by
      rw [show lowT (t * s) (b * s) = (t * s).fdiv (lowG (t * s) (b * s)) from rfl, e3, e1, Int.mul_fdiv_cancel_left _ m0],
    show lowB (t * s) (b * s) = lowB t b by
      rw [show lowB (t * s) (b * s) = (b * s).fdiv (lowG (t * s) (b * s)) from rfl, e3, e2, Int.mul_fdiv_cancel_left _ m0]]
theorem low_self {x y : Int} (hy : 0 < y) (hg : Nat.gcd x.natAbs y.natAbs = 1) : lowT x y = x ∧ lowB x y = y := by
  have e := low_mul (m := 1) (by decide) hy hg
  rw [Int.one_mul, Int.one_mul] at e
  unfold lowT lowB
  rw [e]
  exact ⟨Int.fdiv_one _, Int.fdiv_one _⟩
theorem fr_low {t b : Int} (hb : b ≠ 0) : frB (lowV t b) = true := by
  show (decide (lowB t b ≥ 1) && decide (Nat.gcd (lowT t b).natAbs (lowB t b).natAbs = 1)) = true
  rw [decide_eq_true (show lowB t b ≥ 1 from low_pos hb), decide_eq_true (low_gcd hb)]
  rfl
theorem fr_iff {t b : Int} (hb : b ≠ 0) : frB [.int t, .int b] = decide ([t, b] = [lowT t b, lowB t b]) := by
  show (decide (b ≥ 1) && decide (Nat.gcd t.natAbs b.natAbs = 1)) = _
  by_cases h : b ≥ 1 ∧ Nat.gcd t.natAbs b.natAbs = 1
  · obtain ⟨e1, e2⟩ := low_self (by omega) h.2
    rw [decide_eq_true h.1, decide_eq_true h.2, e1, e2, decide_eq_true rfl]
    rfl
  · have n : ¬ [t, b] = [lowT t b, lowB t b] := by
      intro e
      injection e with e1 e2
      injection e2 with e2 _
      apply h
      have := low_pos (t := t) hb
      have g := low_gcd (t := t) hb
      rw [← e1, ← e2] at g
      exact ⟨by omega, g⟩
    rw [decide_eq_false n]
    by_cases h1 : b ≥ 1
    · rw [decide_eq_true h1, decide_eq_false fun z => h ⟨h1, z⟩]
      rfl
    · rw [decide_eq_false h1]
      rfl
theorem fr_many {x y m : Int} (hm : 2 ≤ m) (hg : Nat.gcd x.natAbs y.natAbs = 1) : frB [.int (x * m), .int (y * m)] = false := by
  have n : ¬ Nat.gcd (x * m).natAbs (y * m).natAbs = 1 := by
    rw [Int.natAbs_mul, Int.natAbs_mul, Nat.gcd_mul_right, hg, Nat.one_mul]
    omega
  show (decide (y * m ≥ 1) && decide (Nat.gcd (x * m).natAbs (y * m).natAbs = 1)) = false
  rw [decide_eq_false n, Bool.and_false]
theorem fr_neg {x y : Int} (hy : y < 1) : frB [.int x, .int y] = false := by
  show (decide (y ≥ 1) && _) = false
  rw [decide_eq_false (by omega), Bool.false_and]
theorem fr_zero {m : Int} (hm : 2 ≤ m) : frB [.int 0, .int m] = false := by
  have n : ¬ Nat.gcd (0 : Int).natAbs m.natAbs = 1 := by
    rw [show Nat.gcd (0 : Int).natAbs m.natAbs = m.natAbs from Nat.gcd_zero_left _]
    omega
  show (decide (m ≥ 1) && decide (Nat.gcd (0 : Int).natAbs m.natAbs = 1)) = false
  rw [decide_eq_false n, Bool.and_false]
end K01
set_option maxRecDepth 100000
set_option maxHeartbeats 4000000
set_option pp.maxSteps 600
namespace K01
open PySem L2 NL
local macro_rules | `(tactic| walk_at "s1") => `(tactic| with_reducible first
  | refine w_seq ?_ | refine w_asg ?_ | refine w_drop ?_ | refine w_ret ?_ | refine w_next ?_ | refine w_ifS ?_
  | refine w_c ?_ | refine w_op ?_ | refine w_un ?_ | refine w_test ?_ | refine w_B ?_ | refine w_bl ?_ | refine w_not ?_ | refine w_and ?_ | refine w_or ?_
  | refine w_andV ?_ | refine w_orV ?_ | refine w_notV ?_ | refine w_blP ?_ | refine w_if ?_ | refine w_nil ?_ | refine w_cons ?_ | refine w_call ?_ | refine w_callS ?_ | refine w_callW ?_
  | refine w_cb ?_ | refine w_tup ?_ | refine w_lst ?_ | refine w_par ?_ | refine w_two ?_ | refine w_addI ?_ | refine w_I0 ?_ | refine w_neg ?_ | refine w_eqI ?_ | refine w_neI ?_
  | refine w_absI ?_ | refine w_intI ?_ | refine w_sub ?_ | refine w_bm0 ?_ | refine w_bm ?_ | refine w_iteT ?_ | refine w_iteF ?_ | refine w_iteNF ?_ | refine w_iteNT ?_ | refine w_lcT ?_ | refine w_lcL ?_ | refine w_ref ?_ | refine w_sl ?_ | refine w_npart ?_ | refine w_part ?_ | refine w_iv ?_ | refine w_rev ?_ | refine w_forL ?_ | refine w_forT ?_ | refine w_forR1 ?_ | refine w_one ?_ | refine w_g ?_ | refine w_asgT ?_ | refine w_gcons ?_ | refine w_gnil ?_
  | refine w_var (by with_unfolding_all rfl) ?_)
local macro_rules | `(tactic| walk_at "s") => `(tactic| repeat (walk_at "s1"))
section
variable {P : Program} {w : World} {K : PySem.W.Frag} {mg : Str → Option Value} {base : Heap} {CQ CN c PT : Addr}
abbrev TL (PT : Addr) : List (Addr × Str) := [(PT, ("law" : Str) ++ ".<locals>." ++ "<lambda>")]
/-- what stands between the steps of a turn -/
structure St (a l PT : Addr) (H : Hp) : Prop where
  d : DealAt H a l
  t : LamX.Tabs (TL PT) H
theorem St.fr {a l PT : Addr} {H H' : Hp} (s : St a l PT H) (D : DealAt H' a l) (f : Fr a l H H') : St a l PT H' := ⟨D, s.d.tabs f s.t⟩
theorem St.same {a l PT : Addr} {H H' : Hp} (s : St a l PT H) (e : Same H H') : St a l PT H' := ⟨s.d.same e, s.t.ext e⟩
theorem St.keepT {a l PT c : Addr} {H H' : Hp} {xs : List V} (s : St a l PT H) (f : Fr a l H H') (e : H c = some (.tup xs)) : H' c = some (.tup xs) := s.d.keep f e fun _ z => by cases z
theorem FrV.same {K : PySem.W.Frag} {H H' : Hp} {x : V} {b : Bool} (h : FrV K H x b) (e : Same H H') : FrV K H' x b := by
  cases h with
  | other ty hT ne => exact .other (ty_same e ty) hT ne
  | tup ty S hz each => exact .tup (ty_same e ty) (same_t e S) hz fun x hx => (each x hx).elim fun T h => ⟨T, h.1, ty_same e h.2.1, h.2.2⟩
def Each (K : PySem.W.Frag) (H : Hp) (xs : List V) : Prop := ∀ x ∈ xs, ∃ T ∈ kinds, TyX K H x (.type T) ∧ isI x = (T == "int")
section
variable {K : PySem.W.Frag} {H : Hp} {x : V} {xs : List V} {a : Addr} {b : Bool}
theorem each0 : Each K H [] := fun x h => by cases h
theorem eachI {i : Int} (h : Each K H xs) : Each K H (.int i :: xs) := fun x hx => by
  rcases List.mem_cons.mp hx with rfl | hx
  · exact ⟨"int", by decide, .base (.int i), rfl⟩
  · exact h x hx
theorem eachB {i : Bool} (h : Each K H xs) : Each K H (.bl i :: xs) := fun x hx => by
  rcases List.mem_cons.mp hx with rfl | hx
  · exact ⟨"bool", by decide, .base (.bl i), show false = ("bool" == "int") by decide⟩
  · exact h x hx
theorem eachS {i : Str} (h : Each K H xs) : Each K H (.str i :: xs) := fun x hx => by
  rcases List.mem_cons.mp hx with rfl | hx
  · exact ⟨"str", by decide, .base (.str i), show false = ("str" == "int") by decide⟩
  · exact h x hx
theorem eachT {ys : List V} (e : H a = some (.tup ys)) (h : Each K H xs) : Each K H (.ref a :: xs) := fun x hx => by
  rcases List.mem_cons.mp hx with rfl | hx
  · exact ⟨"tuple", by decide, .base (.tup e), show false = ("tuple" == "int") by decide⟩
  · exact h x hx
theorem mkFr (e : H a = some (.tup xs)) (hz : xs.length ≤ 100) (each : Each K H xs) (hb : frB xs = b) : FrV K H (.ref a) b := hb ▸ .tup (.base (.tup e)) (.inl (.inl e)) hz each
theorem allF0 : ∀ x ∈ ([] : List V), FrV K H x false := fun x h => by cases h
theorem allF (h : FrV K H x false) (h2 : ∀ y ∈ xs, FrV K H y false) : ∀ y ∈ x :: xs, FrV K H y false := fun y hy => by
  rcases List.mem_cons.mp hy with rfl | hy
  · exact h
  · exact h2 y hy
end
theorem w_tref {K : PySem.W.Frag} {H : Hp} {Q : VK} {CQ CN : Addr} {tl : XK → Hp → VK → Prop} (h : tl (fun cls d H' => ∃ (C dd : Addr) (v : V), cls = .ref C ∧ d = some dd ∧ Heard K C CQ CN ∧ H' dd = some (.xd [("at", v)]) ∧ Q v H') H fun _ H' => Q .non H') : TRef K CQ CN tl H Q := h
def spLaw (K : PySem.W.Frag) (PT : Addr) : Sp := fun vs H Q _ => ∃ (p : Addr) (ns : List Int), vs = [.ref p] ∧ SqL K H p (ns.map V.int) ∧ H PT = some (.tbl #[]) ∧ ∀ H', Q (.bl true) H'
theorem ok_law (T : LTxt P K mg CQ CN) (D : DefC K mg "law" s_law ["_law_script"] c) (TB : LamX.TabB base mg c PT) : KeptG P w K mg base CX0 7 "law" s_law ["_law_script"] (spLaw K PT) := by
  have O_is_fraction := ok_is_fraction (w := w) (base := base) T.toTxt
  have O_made := ok_made (w := w) (base := base) T.toTxt
  have O__law_draw := ok__law_draw (P := P) (w := w) (base := base) T.toDealTxt
  have O__law_any := ok__law_any (P := P) (w := w) (base := base) T.toDealTxt
  have O__law_low := ok__law_low (w := w) (base := base) T
  have O__law_integer := ok__law_integer (w := w) (base := base) T
  have O__law_bottom := ok__law_bottom (w := w) (base := base) T
  have O__law_sums_right := ok__law_sums_right (w := w) (base := base) T
  refine keepGC D sc_law (fun vs H Q E h => ?_) (fun f A outer s H vs Q E hgd hr h => ?_)
  · obtain ⟨p, ns, rfl, _⟩ := h
    rfl
  · obtain ⟨p, ns, rfl, S, ht, q⟩ := h
    refine ⟨_, (pss_cons (ps_asg (pk_call O__law_draw (hr.mono (by decide)) (pa_cons (pv 0) (pa_cons pe_int pa_nil))) (pg_name (i := 1) sc_law.nd rfl (by first | exact Or.inl rfl | exact Or.inr rfl)))
      (pss_cons (ps_for PassesOwn.never rfl (pi_range1 rfl T.n_range (pa_cons pe_int pa_nil)) (pg_name (i := 2) sc_law.nd rfl (by first | exact Or.inl rfl | exact Or.inr rfl))
        (pss_cons (ps_asg (pe_tup (pa_cons (pk_call O__law_integer (hr.mono (by decide)) (pa_cons (pv 1) pa_nil)) (pa_cons (pk_call O__law_bottom (hr.mono (by decide)) (pa_cons (pv 1) pa_nil)) (pa_cons (pk_call O__law_bottom (hr.mono (by decide)) (pa_cons (pv 1) pa_nil)) pa_nil)))) (pg_tup rfl (pgs_cons (pg_name (i := 3) sc_law.nd rfl (by first | exact Or.inl rfl | exact Or.inr rfl)) (pgs_cons (pg_name (i := 4) sc_law.nd rfl (by first | exact Or.inl rfl | exact Or.inr rfl)) (pgs_cons (pg_name (i := 5) sc_law.nd rfl (by first | exact Or.inl rfl | exact Or.inr rfl)) pgs_nil)))))
      (pss_cons (ps_par (i := 6) (j := 7) (by rfl) sc_law.nd rfl rfl (by decide) rfl rfl (pa_cons (pk_call O__law_low (hr.mono (by decide)) (pa_cons (pv 3) (pa_cons (pv 4) pa_nil))) (pa_cons (pk_call O__law_low (hr.mono (by decide)) (pa_cons (pk_call O__law_integer (hr.mono (by decide)) (pa_cons (pv 1) pa_nil)) (pa_cons (pk_call O__law_bottom (hr.mono (by decide)) (pa_cons (pv 1) pa_nil)) pa_nil))) pa_nil)) (by rfl))
      (pss_cons (ps_if (PW.pt (pw_or (pt_cmpR (oNe (ru64 hr)) (pe_callB (call_repr hgd (ru64 hr)) (by rfl) T.n_repr (by decide +kernel) (pa_cons (pk_callL O_made (hr.mono (by decide)) (pa_cons (pv 3) (pa_cons (pv 4) pa_nil))) pa_nil)) (pe_callB (call_repr hgd (ru64 hr)) (by rfl) T.n_repr (by decide +kernel) (pa_cons (pv 6) pa_nil)) (nomark _)) (pw_or1 (pt_cmpR (oNe (ru64 hr)) (pe_callB (call_repr hgd (ru64 hr)) (by rfl) T.n_repr (by decide +kernel) (pa_cons (pk_callW0 (ks := ["bottom", "top"]) (idx := [1, 0]) O_made passL (fun _ _ _ _ _ _ us ws h1 h2 => match us, ws, h1, h2 with | [], [_, _], _, _ => rfl) (hr.mono (by decide)) (pk_cons (pe_op oMul (pv 4) (pv 5)) (pk_cons (pe_op oMul (pv 3) (pv 5)) pk_nil))) pa_nil)) (pe_callB (call_repr hgd (ru64 hr)) (by rfl) T.n_repr (by decide +kernel) (pa_cons (pv 6) pa_nil)) (nomark _)))))
        (pss_one (ps_ret pe_bl)) pss_nil)
      (pss_cons (ps_if (PW.pt (pw_or (pt_not (pt_val (pk_callG O__law_sums_right hgd (hr.mono (by decide)) (pa_cons (pv 6) (pa_cons (pv 7) pa_nil))))) (pw_or1 (pt_not (pt_val (pk_callG O__law_sums_right hgd (hr.mono (by decide)) (pa_cons (pv 7) (pa_cons (pk_call O__law_low (hr.mono (by decide)) (pa_cons (pe_op oAdd (pe_ix ix_seq (pv 7) pe_int (fun _ _ => rfl)) pe_int) (pa_cons (pe_ix ix_seq (pv 7) pe_int (fun _ _ => rfl)) pa_nil))) pa_nil))))))))
        (pss_one (ps_ret pe_bl)) pss_nil)
      (pss_cons (ps_if (PW.pt (pw_or (pt_cmpR oNis (pk_call O_is_fraction (hr.mono (by decide)) (pa_cons (pv 6) pa_nil)) pe_bl (nomark _)) (pw_or1 (pt_cmpR (oNe (ru64 hr)) (pe_callB (call_repr hgd (ru64 hr)) (by rfl) T.n_repr (by decide +kernel) (pa_cons (pk_call O_is_fraction (hr.mono (by decide)) (pa_cons (pe_tup (pa_cons (pv 3) (pa_cons (pv 4) pa_nil))) pa_nil)) pa_nil)) (pe_callB (call_repr hgd (ru64 hr)) (by rfl) T.n_repr (by decide +kernel) (pa_cons (pe_cmpR (oEq (ru64 hr)) (pe_tup (pa_cons (pv 3) (pa_cons (pv 4) pa_nil))) (pv 6) (nomark _)) pa_nil)) (nomark _)))))
        (pss_one (ps_ret pe_bl)) pss_nil)
      (pss_cons (ps_asg (pe_op oAdd pe_int (pk_call O__law_any (hr.mono (by decide)) (pa_cons (pv 1) (pa_cons pe_int pa_nil)))) (pg_name (i := 8) sc_law.nd rfl (by first | exact Or.inl rfl | exact Or.inr rfl)))
      (pss_cons (ps_asg (pe_lst (pa_cons (pe_lst (pa_cons (pe_ix ix_seq (pv 6) pe_int (fun _ _ => rfl)) (pa_cons (pe_ix ix_seq (pv 6) pe_int (fun _ _ => rfl)) pa_nil))) (pa_cons (pe_tup (pa_cons (pe_op oMul (pe_ix ix_seq (pv 6) pe_int (fun _ _ => rfl)) (pv 8)) (pa_cons (pe_op oMul (pe_ix ix_seq (pv 6) pe_int (fun _ _ => rfl)) (pv 8)) pa_nil))) (pa_cons (pe_tup (pa_cons (pe_ix ix_seq (pv 6) pe_int (fun _ _ => rfl)) (pa_cons (pe_op op_sub pe_int (pe_ix ix_seq (pv 6) pe_int (fun _ _ => rfl))) pa_nil))) (pa_cons (pe_tup (pa_cons (pe_ix ix_seq (pv 6) pe_int (fun _ _ => rfl)) (pa_cons pe_int pa_nil))) (pa_cons (pe_op oAdd (pv 6) (pe_tup (pa_cons pe_int pa_nil))) (pa_cons (pe_tup (pa_cons (pe_ix ix_seq (pv 6) pe_int (fun _ _ => rfl)) pa_nil)) (pa_cons pe_non pa_nil)))))))) (pg_name (i := 9) sc_law.nd rfl (by first | exact Or.inl rfl | exact Or.inr rfl)))
      (pss_cons (ps_asg (pe_op oAdd (pv 9) (pe_lst (pa_cons (pe_tup (pa_cons pe_bl (pa_cons (pe_ix ix_seq (pv 6) pe_int (fun _ _ => rfl)) pa_nil))) (pa_cons (pe_tup (pa_cons (pe_ix ix_seq (pv 6) pe_int (fun _ _ => rfl)) (pa_cons pe_bl pa_nil))) (pa_cons (pe_tup (pa_cons (pe_callTy cStr (by rfl) T.n_str (by decide +kernel) (pa_cons (pe_ix ix_seq (pv 6) pe_int (fun _ _ => rfl)) pa_nil)) (pa_cons (pe_ix ix_seq (pv 6) pe_int (fun _ _ => rfl)) pa_nil))) (pa_cons pe_int (pa_cons pe_str (pa_cons (pe_tup (pa_cons pe_int (pa_cons (pv 8) pa_nil))) (pa_cons (pe_tup (pa_cons (pe_tup (pa_cons pe_int (pa_cons pe_int pa_nil))) (pa_cons pe_int pa_nil))) (pa_cons (pe_tup pa_nil) (pa_cons (pe_tup (pa_cons pe_int (pa_cons pe_int pa_nil))) pa_nil))))))))))) (pg_name (i := 9) sc_law.nd rfl (by first | exact Or.inl rfl | exact Or.inr rfl)))
      (pss_cons (ps_for PassesOwn.never rfl (pi_list (pv 9)) (pg_name (i := 10) sc_law.nd rfl (by first | exact Or.inl rfl | exact Or.inr rfl))
        (pss_one (ps_if (pt_cmpR oNis (pk_call O_is_fraction (hr.mono (by decide)) (pa_cons (pv 10) pa_nil)) pe_bl (nomark _))
        (pss_one (ps_ret pe_bl)) pss_nil)))
      (pss_cons (ps_if (pt_cmpR (oNe (ru64 hr)) (pk_lam (k := 4) T.d__law_refused sc__law_refused rfl (Or.inl rfl) (fun g cdg => gv__law_refused T) TB rfl (List.mem_singleton.mpr rfl) (fun p hp _ => by rw [List.mem_singleton.mp hp]) (hr.mono (by decide)) (LamX.lamS_by (sc := defScope s_law) (by decide +kernel)) (fun A outer s H E f c' hr => (pk_callX O_made (takes_of rfl rfl rfl rfl) (hr.mono (by decide)) (pa_cons (pv 3) (pa_cons pe_int pa_nil))))) pe_int (nomark _))
        (pss_one (ps_ret pe_bl)) pss_nil)
      (pss_one (ps_if (pt_cmpR (oNe (ru64 hr)) (pk_lam (k := 4) T.d__law_refused sc__law_refused rfl (Or.inl rfl) (fun g cdg => gv__law_refused T) TB rfl (List.mem_singleton.mpr rfl) (fun p hp _ => by rw [List.mem_singleton.mp hp]) (hr.mono (by decide)) (LamX.lamS_by (sc := defScope s_law) (by decide +kernel)) (fun A outer s H E f c' hr => (pk_callW0 (ks := ["bottom", "top"]) (idx := [1, 0]) O_made (passes_call (takes_of rfl rfl rfl rfl) fun _ _ _ _ h => h) (fun _ _ _ _ _ _ us ws h1 h2 => match us, ws, h1, h2 with | [], [_, _], _, _ => rfl) (hr.mono (by decide)) (pk_cons pe_int (pk_cons pe_int pk_nil))))) pe_int (nomark _))
        (pss_one (ps_ret pe_bl)) pss_nil)))))))))))))
      (pss_one (ps_ret pe_bl)))), ?_⟩
    walk_at "s"
    refine ⟨p, ns, 1, rfl, S, by decide, by decide, fun a l H1 na nl D1 s1 => ?_⟩
    have S1 : St a l PT H1 := ⟨D1, fun x hx => by
      rw [List.mem_singleton.mp hx]
      exact LamX.TabS.nil (s1 _ _ ht)⟩
    clear S ht s1 na nl D1
    walk_at "s"
    refine ⟨by decide, by decide, ?_⟩
    refine fgR (fun i σ H' => ∃ v0 v2 v3 v4 v5 v6 v7 v8 v9 v10 : Option V, σ = [v0, some (.ref a), v2, v3, v4, v5, v6, v7, v8, v9, v10] ∧ St a l PT H') ⟨_, _, _, _, _, _, _, _, _, _, rfl, S1⟩ ?_ ?_
    · clear S1 H1
      rintro i σ H1 _ ⟨v0, v2, v3, v4, v5, v6, v7, v8, v9, v10, rfl, S1⟩
      walk_at "s"
      refine ⟨a, l, rfl, S1.d, fun t H2 zt D2 f2 => ?_⟩
      have S2 := S1.fr D2 f2
      walk_at "s"
      refine ⟨a, l, rfl, S2.d, fun b H3 b0 zb D3 f3 => ?_⟩
      have S3 := S2.fr D3 f3
      walk_at "s"
      refine ⟨a, l, rfl, S3.d, fun sh H4 s0 zs D4 f4 => ?_⟩
      have S4 := S3.fr D4 f4
      walk_at "s"
      refine ⟨show 3 ≤ sizeLine by decide +kernel, fun p1 n1 => ?_⟩
      have S5 := S4.same (Same.newT (o := .tup [.int t, .int b, .int sh]) n1)
      refine w_gtup (.inl (.inl upd_same)) rfl ?_
      generalize upd H4 p1 (.tup [.int t, .int b, .int sh]) = H5 at S5
      clear S1 S2 S3 S4 D2 D3 D4 f2 f3 f4 n1
      walk_at "s"
      refine ⟨t, b, rfl, b0, up_lt zb (by decide), fun p2 n2 => ?_⟩
      have S6 := S5.same (Same.newT (o := .tup (lowV t b)) n2)
      have g6 : upd H5 p2 (.tup (lowV t b)) p2 = some (.tup (lowV t b)) := upd_same
      generalize upd H5 p2 (.tup (lowV t b)) = H6 at S6 g6
      walk_at "s"
      refine ⟨a, l, rfl, S6.d, fun t2 H7 zt2 D7 f7 => ?_⟩
      have S7 := S6.fr D7 f7
      have g7 := S6.keepT f7 g6
      walk_at "s"
      refine ⟨a, l, rfl, S7.d, fun b2 H8 b20 zb2 D8 f8 => ?_⟩
      have S8 := S7.fr D8 f8
      have g8 := S7.keepT f8 g7
      walk_at "s"
      refine ⟨t2, b2, rfl, b20, up_lt zb2 (by decide), fun p3 n3 => ?_⟩
      have e9 : Same H8 _ := Same.newT (o := .tup (lowV t2 b2)) n3
      have S9 := S8.same e9
      have g9 := e9 _ _ g8
      have k9 : upd H8 p3 (.tup (lowV t2 b2)) p3 = some (.tup (lowV t2 b2)) := upd_same
      generalize upd H8 p3 (.tup (lowV t2 b2)) = H9 at S9 g9 k9 e9
      clear S5 S6 S7 S8 D7 D8 f7 f8 g6 g7 g8 e9 n2 n3
      have yp : 0 < lowB t b := low_pos b0
      have wp : 0 < lowB t2 b2 := low_pos b20
      have zx := Nat.lt_of_le_of_lt (lowT_le t b) zt
      have zy := Nat.lt_of_le_of_lt (lowB_le t b) zb
      have zu := Nat.lt_of_le_of_lt (lowT_le t2 b2) zt2
      have zw := Nat.lt_of_le_of_lt (lowB_le t2 b2) zb2
      -- made
      walk_at "s"
      refine ⟨t, b, rfl, .inr ⟨b0, up_lt zb (by decide), fun p4 n4 => ?_⟩⟩
      have e10 : Same H9 _ := Same.newT (o := .tup (lowV t b)) n4
      have k10 : upd H9 p4 (.tup (lowV t b)) p4 = some (.tup (lowV t b)) := upd_same
      generalize upd H9 p4 (.tup (lowV t b)) = H10 at e10 k10
      walk_at "s"
      refine w_rprLow k10 zt zb (by decide) (by decide) ?_
      walk_at "s"
      refine w_rprLow (e10 _ _ g9) zt zb (by decide) (by decide) ?_
      refine w_neSS ?_
      walk_at "s"
      refine w_mul (mulW zb zs (by decide) (by decide)) ?_
      walk_at "s"
      refine w_mul (mulW zt zs (by decide) (by decide)) ?_
      walk_at "s"
      refine ⟨rfl, rfl, t * sh, b * sh, rfl, .inr ⟨Int.mul_ne_zero b0 s0, up_lt (wide_lt zb zs) (by decide), fun p5 n5 => ?_⟩⟩
      rw [low_scale b0 s0]
      have e11 : Same H10 _ := Same.newT (o := .tup (lowV t b)) n5
      have k11 : upd H10 p5 (.tup (lowV t b)) p5 = some (.tup (lowV t b)) := upd_same
      generalize upd H10 p5 (.tup (lowV t b)) = H11 at e11 k11
      have e11 := Same.trans e10 e11
      walk_at "s"
      refine w_rprLow k11 zt zb (by decide) (by decide) ?_
      walk_at "s"
      refine w_rprLow (e11 _ _ g9) zt zb (by decide) (by decide) ?_
      refine w_neSS ?_
      walk_at "s"
      -- sums
      have P1 : ∀ {H'}, Same H9 H' → Pr 200 K H' p2 (lowT t b) (lowB t b) := fun e => ⟨.inl (.inl (e _ _ g9)), up_lt zx (by decide), up_lt zy (by decide), by omega⟩
      have P2 : ∀ {H'}, Same H9 H' → Pr 200 K H' p3 (lowT t2 b2) (lowB t2 b2) := fun e => ⟨.inl (.inl (e _ _ k9)), up_lt zu (by decide), up_lt zw (by decide), by omega⟩
      refine ⟨p2, p3, _, _, _, _, rfl, P1 e11, P2 e11, fun H12 e12 => ?_⟩
      have e12 := Same.trans e11 e12
      clear e10 e11 k10 k11 n4 n5
      walk_at "s"
      refine w_ixT (P2 e12).sq rfl ?_
      walk_at "s"
      refine w_ixT (P2 e12).sq rfl ?_
      walk_at "s"
      refine ⟨_, _, rfl, by omega, up_lt zw (by decide), fun p6 n6 => ?_⟩
      have e13 : Same H12 _ := Same.newT (o := .tup (lowV (lowT t2 b2 + 1) (lowB t2 b2))) n6
      have k13 : upd H12 p6 (.tup (lowV (lowT t2 b2 + 1) (lowB t2 b2))) p6 = some (.tup (lowV (lowT t2 b2 + 1) (lowB t2 b2))) := upd_same
      generalize upd H12 p6 (.tup (lowV (lowT t2 b2 + 1) (lowB t2 b2))) = H13 at e13 k13
      have e13 := Same.trans e12 e13
      walk_at "s"
      refine ⟨p3, p6, _, _, _, _, rfl, P2 e13, ⟨.inl (.inl k13), ?_, ?_, ?_⟩, fun H14 e14 => ?_⟩
      · refine up_lt (n := 61) (Nat.lt_of_le_of_lt (lowT_le _ _) ?_) (by decide)
        omega
      · exact up_lt (Nat.lt_of_le_of_lt (lowB_le _ _) zw) (by decide)
      · have := low_pos (t := lowT t2 b2 + 1) (b := lowB t2 b2) (by omega)
        omega
      have e14 := Same.trans e13 e14
      walk_at "s"
      -- is_fraction
      refine ⟨_, _, rfl, mkFr (e14 _ _ g9) (show 2 ≤ 100 by decide) (eachI (eachI each0)) (fr_low b0), fun H15 e15 => ?_⟩
      have e15 := Same.trans e14 e15
      walk_at "s"
      refine w_nisS ?_
      walk_at "s"
      refine ⟨show 2 ≤ sizeLine by decide +kernel, fun p7 n7 => ?_⟩
      have e16 : Same H15 _ := Same.newT (o := .tup [.int t, .int b]) n7
      have k16 : upd H15 p7 (.tup [.int t, .int b]) p7 = some (.tup [.int t, .int b]) := upd_same
      generalize upd H15 p7 (.tup [.int t, .int b]) = H16 at e16 k16
      have e16 := Same.trans e15 e16
      walk_at "s"
      refine ⟨_, _, rfl, mkFr k16 (show 2 ≤ 100 by decide) (eachI (eachI each0)) (fr_iff b0), fun H17 e17 => ?_⟩
      have e17 := Same.trans e16 e17
      walk_at "s"
      refine w_rprB ?_
      walk_at "s"
      refine ⟨show 2 ≤ sizeLine by decide +kernel, fun p8 n8 => ?_⟩
      have e18 : Same H17 _ := Same.newT (o := .tup [.int t, .int b]) n8
      have k18 : upd H17 p8 (.tup [.int t, .int b]) p8 = some (.tup [.int t, .int b]) := upd_same
      generalize upd H17 p8 (.tup [.int t, .int b]) = H18 at e18 k18
      have e18 := Same.trans e17 e18
      walk_at "s"
      refine w_eqT (ns := [t, b]) (ms := [lowT t b, lowB t b]) (.inl (.inl k18)) (.inl (.inl (e18 _ _ g9))) ?_
      walk_at "s"
      refine w_rprB ?_
      refine w_neSS ?_
      walk_at "s"
      -- many
      have S18 := S9.same e18
      have g18 := e18 _ _ g9
      refine ⟨a, l, 5, rfl, by decide, by decide, S18.d, fun r A0 r0 r1 D19 f19 => ?_⟩
      have S19 := S18.fr D19 f19
      have g19 : A0 p2 = some (.tup [.int (lowT t b), .int (lowB t b)]) := S18.keepT f19 g18
      have a0 := Same.refl A0
      have hg := low_gcd (t := t) b0
      have zm : (2 + r).natAbs < 2 ^ 60 := by omega
      have B1 : ∀ {H'}, Same A0 H' → SqT K H' p2 [.int (lowT t b), .int (lowB t b)] := fun e => .inl (.inl (e _ _ g19))
      clear e14 e15 e16 e17 e18 k16 k18 n7 n8 S9 g9 k9 P1 P2 D19 f19 S18 g18
      walk_at "s"
      refine w_ixT (B1 a0) rfl ?_
      walk_at "s"
      refine w_ixT (B1 a0) rfl ?_
      walk_at "s"
      refine ⟨show 2 ≤ sizeLine by decide +kernel, fun q1 m1 => ?_⟩
      have s1 : Same A0 _ := Same.newT (o := .lst [(.int (lowT t b)), (.int (lowB t b))]) m1
      have u1 : upd A0 q1 (.lst [(.int (lowT t b)), (.int (lowB t b))]) q1 = some (.lst [(.int (lowT t b)), (.int (lowB t b))]) := upd_same
      generalize upd A0 q1 (.lst [(.int (lowT t b)), (.int (lowB t b))]) = A1 at s1 u1
      have a1 := Same.trans a0 s1
      have F1 : FrV K A1 (.ref q1) false := .other (.base (.lst u1)) (by decide) (by decide)
      walk_at "s"
      refine w_ixT (B1 a1) rfl ?_
      walk_at "s"
      refine w_mul (mulW zx zm (by decide) (by decide)) ?_
      walk_at "s"
      refine w_ixT (B1 a1) rfl ?_
      walk_at "s"
      refine w_mul (mulW zy zm (by decide) (by decide)) ?_
      walk_at "s"
      refine ⟨show 2 ≤ sizeLine by decide +kernel, fun q2 m2 => ?_⟩
      have s2 : Same A1 _ := Same.newT (o := .tup [.int (lowT t b * (2 + r)), .int (lowB t b * (2 + r))]) m2
      have u2 : upd A1 q2 (.tup [.int (lowT t b * (2 + r)), .int (lowB t b * (2 + r))]) q2 = some (.tup [.int (lowT t b * (2 + r)), .int (lowB t b * (2 + r))]) := upd_same
      generalize upd A1 q2 (.tup [.int (lowT t b * (2 + r)), .int (lowB t b * (2 + r))]) = A2 at s2 u2
      have a2 := Same.trans a1 s2
      have F1 := FrV.same F1 s2
      have F2 : FrV K A2 (.ref q2) false := mkFr u2 (show 2 ≤ 100 by decide) (eachI (eachI each0)) (fr_many (by omega) hg)
      walk_at "s"
      refine w_ixT (B1 a2) rfl ?_
      walk_at "s"
      refine w_ixT (B1 a2) rfl ?_
      walk_at "s"
      refine ⟨show 2 ≤ sizeLine by decide +kernel, fun q3 m3 => ?_⟩
      have s3 : Same A2 _ := Same.newT (o := .tup [(.int (lowT t b)), .int (0 - lowB t b)]) m3
      have u3 : upd A2 q3 (.tup [(.int (lowT t b)), .int (0 - lowB t b)]) q3 = some (.tup [(.int (lowT t b)), .int (0 - lowB t b)]) := upd_same
      generalize upd A2 q3 (.tup [(.int (lowT t b)), .int (0 - lowB t b)]) = A3 at s3 u3
      have a3 := Same.trans a2 s3
      have F1 := FrV.same F1 s3
      have F2 := FrV.same F2 s3
      have F3 : FrV K A3 (.ref q3) false := mkFr u3 (show 2 ≤ 100 by decide) (eachI (eachI each0)) (fr_neg (by omega))
      walk_at "s"
      refine w_ixT (B1 a3) rfl ?_
      walk_at "s"
      refine ⟨show 2 ≤ sizeLine by decide +kernel, fun q4 m4 => ?_⟩
      have s4 : Same A3 _ := Same.newT (o := .tup [(.int (lowT t b)), .int 0]) m4
      have u4 : upd A3 q4 (.tup [(.int (lowT t b)), .int 0]) q4 = some (.tup [(.int (lowT t b)), .int 0]) := upd_same
      generalize upd A3 q4 (.tup [(.int (lowT t b)), .int 0]) = A4 at s4 u4
      have a4 := Same.trans a3 s4
      have F1 := FrV.same F1 s4
      have F2 := FrV.same F2 s4
      have F3 := FrV.same F3 s4
      have F4 : FrV K A4 (.ref q4) false := mkFr u4 (show 2 ≤ 100 by decide) (eachI (eachI each0)) (fr_neg (by omega))
      walk_at "s"
      refine ⟨show 1 ≤ sizeLine by decide +kernel, fun q5 m5 => ?_⟩
      have s5 : Same A4 _ := Same.newT (o := .tup [.int 1]) m5
      have u5 : upd A4 q5 (.tup [.int 1]) q5 = some (.tup [.int 1]) := upd_same
      generalize upd A4 q5 (.tup [.int 1]) = A5 at s5 u5
      have a5 := Same.trans a4 s5
      have F1 := FrV.same F1 s5
      have F2 := FrV.same F2 s5
      have F3 := FrV.same F3 s5
      have F4 := FrV.same F4 s5
      walk_at "s"
      refine .inr (.inl ⟨p2, q5, _, _, rfl, rfl, B1 a5, .inl (.inl u5), show 3 ≤ sizeLine by decide +kernel, ?_⟩)
      refine ⟨fun z => (by cases z), fun _ z => (by cases z), fun _ _ q6 m6 => ?_⟩
      simp only [List.cons_append, List.nil_append]
      have s6 : Same A5 _ := Same.newT (o := .tup [(.int (lowT t b)), (.int (lowB t b)), .int 1]) m6
      have u6 : upd A5 q6 (.tup [(.int (lowT t b)), (.int (lowB t b)), .int 1]) q6 = some (.tup [(.int (lowT t b)), (.int (lowB t b)), .int 1]) := upd_same
      generalize upd A5 q6 (.tup [(.int (lowT t b)), (.int (lowB t b)), .int 1]) = A6 at s6 u6
      have a6 := Same.trans a5 s6
      have F1 := FrV.same F1 s6
      have F2 := FrV.same F2 s6
      have F3 := FrV.same F3 s6
      have F4 := FrV.same F4 s6
      have F6 : FrV K A6 (.ref q6) false := mkFr u6 (show 3 ≤ 100 by decide) (eachI (eachI (eachI each0))) rfl
      walk_at "s"
      refine w_ixT (B1 a6) rfl ?_
      walk_at "s"
      refine ⟨show 1 ≤ sizeLine by decide +kernel, fun q7 m7 => ?_⟩
      have s7 : Same A6 _ := Same.newT (o := .tup [(.int (lowT t b))]) m7
      have u7 : upd A6 q7 (.tup [(.int (lowT t b))]) q7 = some (.tup [(.int (lowT t b))]) := upd_same
      generalize upd A6 q7 (.tup [(.int (lowT t b))]) = A7 at s7 u7
      have a7 := Same.trans a6 s7
      have F1 := FrV.same F1 s7
      have F2 := FrV.same F2 s7
      have F3 := FrV.same F3 s7
      have F4 := FrV.same F4 s7
      have F6 := FrV.same F6 s7
      have F7 : FrV K A7 (.ref q7) false := mkFr u7 (show 1 ≤ 100 by decide) (eachI each0) rfl
      walk_at "s"
      refine ⟨show 7 ≤ sizeLine by decide +kernel, fun q8 m8 => ?_⟩
      have s8 : Same A7 _ := Same.newT (o := .lst [.ref q1, .ref q2, .ref q3, .ref q4, .ref q6, .ref q7, .non]) m8
      have u8 : upd A7 q8 (.lst [.ref q1, .ref q2, .ref q3, .ref q4, .ref q6, .ref q7, .non]) q8 = some (.lst [.ref q1, .ref q2, .ref q3, .ref q4, .ref q6, .ref q7, .non]) := upd_same
      generalize upd A7 q8 (.lst [.ref q1, .ref q2, .ref q3, .ref q4, .ref q6, .ref q7, .non]) = A8 at s8 u8
      have a8 := Same.trans a7 s8
      have F1 := FrV.same F1 s8
      have F2 := FrV.same F2 s8
      have F3 := FrV.same F3 s8
      have F4 := FrV.same F4 s8
      have F6 := FrV.same F6 s8
      have F7 := FrV.same F7 s8
      walk_at "s"
      refine w_ixT (B1 a8) rfl ?_
      walk_at "s"
      refine ⟨show 2 ≤ sizeLine by decide +kernel, fun q9 m9 => ?_⟩
      have s9 : Same A8 _ := Same.newT (o := .tup [.bl true, (.int (lowB t b))]) m9
      have u9 : upd A8 q9 (.tup [.bl true, (.int (lowB t b))]) q9 = some (.tup [.bl true, (.int (lowB t b))]) := upd_same
      generalize upd A8 q9 (.tup [.bl true, (.int (lowB t b))]) = A9 at s9 u9
      have a9 := Same.trans a8 s9
      have F1 := FrV.same F1 s9
      have F2 := FrV.same F2 s9
      have F3 := FrV.same F3 s9
      have F4 := FrV.same F4 s9
      have F6 := FrV.same F6 s9
      have F7 := FrV.same F7 s9
      have u8 := s9 _ _ u8
      have F9 : FrV K A9 (.ref q9) false := mkFr u9 (show 2 ≤ 100 by decide) (eachB (eachI each0)) rfl
      walk_at "s"
      refine w_ixT (B1 a9) rfl ?_
      walk_at "s"
      refine ⟨show 2 ≤ sizeLine by decide +kernel, fun q10 m10 => ?_⟩
      have s10 : Same A9 _ := Same.newT (o := .tup [(.int (lowT t b)), .bl true]) m10
      have u10 : upd A9 q10 (.tup [(.int (lowT t b)), .bl true]) q10 = some (.tup [(.int (lowT t b)), .bl true]) := upd_same
      generalize upd A9 q10 (.tup [(.int (lowT t b)), .bl true]) = A10 at s10 u10
      have a10 := Same.trans a9 s10
      have F1 := FrV.same F1 s10
      have F2 := FrV.same F2 s10
      have F3 := FrV.same F3 s10
      have F4 := FrV.same F4 s10
      have F6 := FrV.same F6 s10
      have F7 := FrV.same F7 s10
      have F9 := FrV.same F9 s10
      have u8 := s10 _ _ u8
      have F10 : FrV K A10 (.ref q10) false := mkFr u10 (show 2 ≤ 100 by decide) (eachI (eachB each0)) rfl
      walk_at "s"
      refine w_ixT (B1 a10) rfl ?_
      walk_at "s"
      refine ⟨_, rfl, small_show zx (by decide) (by decide), ?_⟩
      walk_at "s"
      refine w_ixT (B1 a10) rfl ?_
      walk_at "s"
      refine ⟨show 2 ≤ sizeLine by decide +kernel, fun q11 m11 => ?_⟩
      have s11 : Same A10 _ := Same.newT (o := .tup [.str (toString (lowT t b)), (.int (lowB t b))]) m11
      have u11 : upd A10 q11 (.tup [.str (toString (lowT t b)), (.int (lowB t b))]) q11 = some (.tup [.str (toString (lowT t b)), (.int (lowB t b))]) := upd_same
      generalize upd A10 q11 (.tup [.str (toString (lowT t b)), (.int (lowB t b))]) = A11 at s11 u11
      have a11 := Same.trans a10 s11
      have F1 := FrV.same F1 s11
      have F2 := FrV.same F2 s11
      have F3 := FrV.same F3 s11
      have F4 := FrV.same F4 s11
      have F6 := FrV.same F6 s11
      have F7 := FrV.same F7 s11
      have F9 := FrV.same F9 s11
      have F10 := FrV.same F10 s11
      have u8 := s11 _ _ u8
      have F11 : FrV K A11 (.ref q11) false := mkFr u11 (show 2 ≤ 100 by decide) (eachS (eachI each0)) rfl
      walk_at "s"
      refine ⟨show 2 ≤ sizeLine by decide +kernel, fun q12 m12 => ?_⟩
      have s12 : Same A11 _ := Same.newT (o := .tup [.int 0, (.int (2 + r))]) m12
      have u12 : upd A11 q12 (.tup [.int 0, (.int (2 + r))]) q12 = some (.tup [.int 0, (.int (2 + r))]) := upd_same
      generalize upd A11 q12 (.tup [.int 0, (.int (2 + r))]) = A12 at s12 u12
      have a12 := Same.trans a11 s12
      have F1 := FrV.same F1 s12
      have F2 := FrV.same F2 s12
      have F3 := FrV.same F3 s12
      have F4 := FrV.same F4 s12
      have F6 := FrV.same F6 s12
      have F7 := FrV.same F7 s12
      have F9 := FrV.same F9 s12
      have F10 := FrV.same F10 s12
      have F11 := FrV.same F11 s12
      have u8 := s12 _ _ u8
      have F12 : FrV K A12 (.ref q12) false := mkFr u12 (show 2 ≤ 100 by decide) (eachI (eachI each0)) (fr_zero (by omega))
      walk_at "s"
      refine ⟨show 2 ≤ sizeLine by decide +kernel, fun q13 m13 => ?_⟩
      have s13 : Same A12 _ := Same.newT (o := .tup [.int 1, .int 2]) m13
      have u13 : upd A12 q13 (.tup [.int 1, .int 2]) q13 = some (.tup [.int 1, .int 2]) := upd_same
      generalize upd A12 q13 (.tup [.int 1, .int 2]) = A13 at s13 u13
      have a13 := Same.trans a12 s13
      have F1 := FrV.same F1 s13
      have F2 := FrV.same F2 s13
      have F3 := FrV.same F3 s13
      have F4 := FrV.same F4 s13
      have F6 := FrV.same F6 s13
      have F7 := FrV.same F7 s13
      have F9 := FrV.same F9 s13
      have F10 := FrV.same F10 s13
      have F11 := FrV.same F11 s13
      have F12 := FrV.same F12 s13
      have u8 := s13 _ _ u8
      walk_at "s"
      refine ⟨show 2 ≤ sizeLine by decide +kernel, fun q14 m14 => ?_⟩
      have s14 : Same A13 _ := Same.newT (o := .tup [.ref q13, .int 3]) m14
      have u14 : upd A13 q14 (.tup [.ref q13, .int 3]) q14 = some (.tup [.ref q13, .int 3]) := upd_same
      generalize upd A13 q14 (.tup [.ref q13, .int 3]) = A14 at s14 u14
      have a14 := Same.trans a13 s14
      have F1 := FrV.same F1 s14
      have F2 := FrV.same F2 s14
      have F3 := FrV.same F3 s14
      have F4 := FrV.same F4 s14
      have F6 := FrV.same F6 s14
      have F7 := FrV.same F7 s14
      have F9 := FrV.same F9 s14
      have F10 := FrV.same F10 s14
      have F11 := FrV.same F11 s14
      have F12 := FrV.same F12 s14
      have u8 := s14 _ _ u8
      have F14 : FrV K A14 (.ref q14) false := mkFr u14 (show 2 ≤ 100 by decide) (eachT (s14 _ _ u13) (eachI each0)) rfl
      walk_at "s"
      refine ⟨show 0 ≤ sizeLine by decide +kernel, fun q15 m15 => ?_⟩
      have s15 : Same A14 _ := Same.newT (o := .tup []) m15
      have u15 : upd A14 q15 (.tup []) q15 = some (.tup []) := upd_same
      generalize upd A14 q15 (.tup []) = A15 at s15 u15
      have a15 := Same.trans a14 s15
      have F1 := FrV.same F1 s15
      have F2 := FrV.same F2 s15
      have F3 := FrV.same F3 s15
      have F4 := FrV.same F4 s15
      have F6 := FrV.same F6 s15
      have F7 := FrV.same F7 s15
      have F9 := FrV.same F9 s15
      have F10 := FrV.same F10 s15
      have F11 := FrV.same F11 s15
      have F12 := FrV.same F12 s15
      have F14 := FrV.same F14 s15
      have u8 := s15 _ _ u8
      have F15 : FrV K A15 (.ref q15) false := mkFr u15 (show 0 ≤ 100 by decide) each0 rfl
      walk_at "s"
      refine ⟨show 2 ≤ sizeLine by decide +kernel, fun q16 m16 => ?_⟩
      have s16 : Same A15 _ := Same.newT (o := .tup [.int 0, .int 0]) m16
      have u16 : upd A15 q16 (.tup [.int 0, .int 0]) q16 = some (.tup [.int 0, .int 0]) := upd_same
      generalize upd A15 q16 (.tup [.int 0, .int 0]) = A16 at s16 u16
      have a16 := Same.trans a15 s16
      have F1 := FrV.same F1 s16
      have F2 := FrV.same F2 s16
      have F3 := FrV.same F3 s16
      have F4 := FrV.same F4 s16
      have F6 := FrV.same F6 s16
      have F7 := FrV.same F7 s16
      have F9 := FrV.same F9 s16
      have F10 := FrV.same F10 s16
      have F11 := FrV.same F11 s16
      have F12 := FrV.same F12 s16
      have F14 := FrV.same F14 s16
      have F15 := FrV.same F15 s16
      have u8 := s16 _ _ u8
      have F16 : FrV K A16 (.ref q16) false := mkFr u16 (show 2 ≤ 100 by decide) (eachI (eachI each0)) (fr_neg (by decide))
      walk_at "s"
      refine ⟨show 9 ≤ sizeLine by decide +kernel, fun q17 m17 => ?_⟩
      have s17 : Same A16 _ := Same.newT (o := .lst [.ref q9, .ref q10, .ref q11, .int 3, .str "1/2", .ref q12, .ref q14, .ref q15, .ref q16]) m17
      have u17 : upd A16 q17 (.lst [.ref q9, .ref q10, .ref q11, .int 3, .str "1/2", .ref q12, .ref q14, .ref q15, .ref q16]) q17 = some (.lst [.ref q9, .ref q10, .ref q11, .int 3, .str "1/2", .ref q12, .ref q14, .ref q15, .ref q16]) := upd_same
      generalize upd A16 q17 (.lst [.ref q9, .ref q10, .ref q11, .int 3, .str "1/2", .ref q12, .ref q14, .ref q15, .ref q16]) = A17 at s17 u17
      have a17 := Same.trans a16 s17
      have F1 := FrV.same F1 s17
      have F2 := FrV.same F2 s17
      have F3 := FrV.same F3 s17
      have F4 := FrV.same F4 s17
      have F6 := FrV.same F6 s17
      have F7 := FrV.same F7 s17
      have F9 := FrV.same F9 s17
      have F10 := FrV.same F10 s17
      have F11 := FrV.same F11 s17
      have F12 := FrV.same F12 s17
      have F14 := FrV.same F14 s17
      have F15 := FrV.same F15 s17
      have F16 := FrV.same F16 s17
      have u8 := s17 _ _ u8
      walk_at "s"
      refine .inr (.inr ⟨q8, q17, _, _, rfl, rfl, u8, u17, show 16 ≤ sizeLine by decide +kernel, fun q18 m18 => ?_⟩)
      simp only [List.cons_append, List.nil_append]
      have s18 : Same A17 _ := Same.newT (o := .lst [.ref q1, .ref q2, .ref q3, .ref q4, .ref q6, .ref q7, .non, .ref q9, .ref q10, .ref q11, .int 3, .str "1/2", .ref q12, .ref q14, .ref q15, .ref q16]) m18
      have u18 : upd A17 q18 (.lst [.ref q1, .ref q2, .ref q3, .ref q4, .ref q6, .ref q7, .non, .ref q9, .ref q10, .ref q11, .int 3, .str "1/2", .ref q12, .ref q14, .ref q15, .ref q16]) q18 = some (.lst [.ref q1, .ref q2, .ref q3, .ref q4, .ref q6, .ref q7, .non, .ref q9, .ref q10, .ref q11, .int 3, .str "1/2", .ref q12, .ref q14, .ref q15, .ref q16]) := upd_same
      generalize upd A17 q18 (.lst [.ref q1, .ref q2, .ref q3, .ref q4, .ref q6, .ref q7, .non, .ref q9, .ref q10, .ref q11, .int 3, .str "1/2", .ref q12, .ref q14, .ref q15, .ref q16]) = A18 at s18 u18
      have a18 := Same.trans a17 s18
      have F1 := FrV.same F1 s18
      have F2 := FrV.same F2 s18
      have F3 := FrV.same F3 s18
      have F4 := FrV.same F4 s18
      have F6 := FrV.same F6 s18
      have F7 := FrV.same F7 s18
      have F9 := FrV.same F9 s18
      have F10 := FrV.same F10 s18
      have F11 := FrV.same F11 s18
      have F12 := FrV.same F12 s18
      have F14 := FrV.same F14 s18
      have F15 := FrV.same F15 s18
      have F16 := FrV.same F16 s18
      have u8 := s18 _ _ u8
      walk_at "s"
      have AF : ∀ x ∈ ([.ref q1, .ref q2, .ref q3, .ref q4, .ref q6, .ref q7, .non, .ref q9, .ref q10, .ref q11, .int 3, .str "1/2", .ref q12, .ref q14, .ref q15, .ref q16] : List V), FrV K A18 x false := (allF F1 (allF F2 (allF F3 (allF F4 (allF F6 (allF F7 (allF (.other (.base .non) (by decide) (by decide)) (allF F9 (allF F10 (allF F11 (allF (.other (.base (.int 3)) (by decide) (by decide)) (allF (.other (.base (.str _)) (by decide) (by decide)) (allF F12 (allF F14 (allF F15 (allF F16 allF0))))))))))))))))
      generalize ([.ref q1, .ref q2, .ref q3, .ref q4, .ref q6, .ref q7, .non, .ref q9, .ref q10, .ref q11, .int 3, .str "1/2", .ref q12, .ref q14, .ref q15, .ref q16] : List V) = LL at u18 AF
      have S20 := S19.same a18
      refine ⟨⟨_, SqL.of u18⟩, ?_⟩
      refine fgL (xs := LL) (fun i σ H' => ∃ u0 u2 u5 u6 u7 u8 u9 u10 : Option V, σ = [u0, some (.ref a), u2, some (.int t), some (.int b), u5, u6, u7, u8, u9, u10] ∧ Same A18 H') ⟨_, _, _, _, _, _, _, _, rfl, Same.refl _⟩ ?_ ?_ ?_
      · rintro i σ H' _ ⟨_, _, _, _, _, _, _, _, rfl, e⟩
        exact SqL.of (e _ _ u18)
      · rintro i x σ H' hx ⟨w0, w2, w5, w6, w7, w8, w9, w10, rfl, e⟩
        have F := FrV.same (AF x (List.mem_of_getElem? hx)) e
        walk_at "s"
        refine ⟨_, _, rfl, F, fun H2 e2 => ?_⟩
        walk_at "s"
        refine w_nisS ?_
        walk_at "s"
        exact ⟨_, _, _, _, _, _, _, _, rfl, Same.trans e e2⟩
      · rintro σ H' ⟨w0, w2, w5, w6, w7, w8, w9, w10, rfl, e⟩
        have S21 := S20.same e
        walk_at "s"
        refine ⟨S21.t, fun H22 e22 T22 => ?_⟩
        refine w_tref ?_
        walk_at "s"
        refine ⟨t, 0, rfl, .inl ⟨rfl, fun d1 nd1 => ⟨CQ, d1, .int 1, rfl, rfl, T.heard, upd_same, ?_⟩⟩⟩
        have S23 : St a l PT _ := St.same (⟨S21.d.extN e22, T22⟩ : St a l PT H22) (Same.newT (o := .xd [("at", .int 1)]) nd1)
        generalize upd H22 d1 (.xd [("at", .int 1)]) = H23 at S23
        walk_at "s"
        refine w_iteN (fun z => absurd rfl z) (fun _ => ?_)
        walk_at "s"
        refine ⟨S23.t, fun H24 e24 T24 => ?_⟩
        refine w_tref ?_
        walk_at "s"
        refine ⟨rfl, rfl, 0, 0, rfl, .inl ⟨rfl, fun d2 nd2 => ⟨CQ, d2, .int 1, rfl, rfl, T.heard, upd_same, ?_⟩⟩⟩
        have S25 : St a l PT _ := St.same (⟨S23.d.extN e24, T24⟩ : St a l PT H24) (Same.newT (o := .xd [("at", .int 1)]) nd2)
        generalize upd H24 d2 (.xd [("at", .int 1)]) = H25 at S25
        walk_at "s"
        refine w_iteN (fun z => absurd rfl z) (fun _ => ?_)
        walk_at "s"
        exact ⟨_, _, _, _, _, _, _, _, _, _, rfl, S25⟩
    · rintro σ H' ⟨v0, v2, v3, v4, v5, v6, v7, v8, v9, v10, rfl, S'⟩
      walk_at "s"
      exact q _
end
end K01
set_option maxRecDepth 100000
set_option maxHeartbeats 4000000
namespace K01
open PySem L2 NL
abbrev s_init : Stmt := inClass (top 2) 0
abbrev PP : Program := PySem.Challenge.pw_handalong_k01_fractions_in_lowest_terms
theorem all_mk {w : World} {K : PySem.W.Frag} {h : Heap} {mg : Str → Option Value} {fa : Addr}
    {f0 : Addr} {oc0 kV0 dc0 pm0 cd0 ct0 : Value} {od0 an0 : Option Addr} {sl0 : Array (Option Value)}
    {f1 : Addr} {oc1 kV1 dc1 pm1 cd1 ct1 : Value} {od1 an1 : Option Addr} {sl1 : Array (Option Value)}
    {f2 : Addr} {oc2 kV2 dc2 pm2 cd2 ct2 : Value} {od2 an2 : Option Addr} {sl2 : Array (Option Value)}
    {f3 : Addr} {oc3 kV3 dc3 pm3 cd3 ct3 : Value} {od3 an3 : Option Addr} {sl3 : Array (Option Value)}
    {f4 : Addr} {oc4 kV4 dc4 pm4 cd4 ct4 : Value} {od4 an4 : Option Addr} {sl4 : Array (Option Value)}
    {f5 : Addr} {oc5 kV5 dc5 pm5 cd5 ct5 : Value} {od5 an5 : Option Addr} {sl5 : Array (Option Value)}
    {f6 : Addr} {oc6 kV6 dc6 pm6 cd6 ct6 : Value} {od6 an6 : Option Addr} {sl6 : Array (Option Value)}
    {f7 : Addr} {oc7 kV7 dc7 pm7 cd7 ct7 : Value} {od7 an7 : Option Addr} {sl7 : Array (Option Value)}
    {f8 : Addr} {oc8 kV8 dc8 pm8 cd8 ct8 : Value} {od8 an8 : Option Addr} {sl8 : Array (Option Value)}
    {f9 : Addr} {oc9 kV9 dc9 pm9 cd9 ct9 : Value} {od9 an9 : Option Addr} {sl9 : Array (Option Value)}
    {f10 : Addr} {oc10 kV10 dc10 pm10 cd10 ct10 : Value} {od10 an10 : Option Addr} {sl10 : Array (Option Value)}
    {f11 : Addr} {oc11 kV11 dc11 pm11 cd11 ct11 : Value} {od11 an11 : Option Addr} {sl11 : Array (Option Value)}
    {f12 : Addr} {oc12 kV12 dc12 pm12 cd12 ct12 : Value} {od12 an12 : Option Addr} {sl12 : Array (Option Value)}
    {f13 : Addr} {oc13 kV13 dc13 pm13 cd13 ct13 : Value} {od13 an13 : Option Addr} {sl13 : Array (Option Value)}
    {f14 : Addr} {oc14 kV14 dc14 pm14 cd14 ct14 : Value} {od14 an14 : Option Addr} {sl14 : Array (Option Value)}
    {f15 : Addr} {oc15 kV15 dc15 pm15 cd15 ct15 : Value} {od15 an15 : Option Addr} {sl15 : Array (Option Value)}
    {fL cLw PT : Addr} {ocL kVL dcL pmL ctL occ : Value} {odL anL odc : Option Addr} {slL slc : Array (Option Value)} {vsc : Array Value}
    {CInvalidQuestion : Addr}
    {IeInvalidQuestion cceInvalidQuestion cdaeInvalidQuestion NeInvalidQuestion : Addr} {nmeInvalidQuestion qeInvalidQuestion fileeInvalidQuestion : Str} {bseInvalidQuestion bmeInvalidQuestion subeInvalidQuestion : List Value} {sneInvalidQuestion : List Str} {abeInvalidQuestion : Bool} {coleInvalidQuestion : Option Bool} {ddeInvalidQuestion odeInvalidQuestion aneInvalidQuestion cddeInvalidQuestion cldeInvalidQuestion : Option Addr} {m0eInvalidQuestion m1eInvalidQuestion m2eInvalidQuestion m3eInvalidQuestion m5eInvalidQuestion : Option Value} {oceInvalidQuestion dceInvalidQuestion pmeInvalidQuestion cteInvalidQuestion ccleInvalidQuestion cleInvalidQuestion : Value} {osleInvalidQuestion ccseInvalidQuestion csleInvalidQuestion : Array (Option Value)} {vseInvalidQuestion : Array Value} {tfeInvalidQuestion : Tok}
    {CNetError : Addr}
    (X : K.In h) (G : h.Ns mainGlobals mg) (hfa : mg "law" = some (.ref fa))
    (a0 : PySem.W.nsIn K mainGlobals "is_integer" = some (some (.ref f0)))
    (l0 : K.lookup f0 = some ⟨oc0, od0, .func (PySem.W.fnOf "is_integer" "is_integer" (defArgs s_is_integer) (defBody s_is_integer) (defScope s_is_integer) .none kV0 dc0 pm0 an0 cd0 ct0), sl0⟩)
    (cd_0 : PySem.W.codeIn K cd0 "is_integer" = true)
    (k0 : PySem.W.keepIn K (.ref f0) = true)
    (a1 : PySem.W.nsIn K mainGlobals "divisor" = some (some (.ref f1)))
    (l1 : K.lookup f1 = some ⟨oc1, od1, .func (PySem.W.fnOf "divisor" "divisor" (defArgs s_divisor) (defBody s_divisor) (defScope s_divisor) .none kV1 dc1 pm1 an1 cd1 ct1), sl1⟩)
    (cd_1 : PySem.W.codeIn K cd1 "divisor" = true)
    (k1 : PySem.W.keepIn K (.ref f1) = true)
    (a2 : PySem.W.nsIn K mainGlobals "is_fraction" = some (some (.ref f2)))
    (l2 : K.lookup f2 = some ⟨oc2, od2, .func (PySem.W.fnOf "is_fraction" "is_fraction" (defArgs s_is_fraction) (defBody s_is_fraction) (defScope s_is_fraction) .none kV2 dc2 pm2 an2 cd2 ct2), sl2⟩)
    (cd_2 : PySem.W.codeIn K cd2 "is_fraction" = true)
    (k2 : PySem.W.keepIn K (.ref f2) = true)
    (a3 : PySem.W.nsIn K mainGlobals "made" = some (some (.ref f3)))
    (l3 : K.lookup f3 = some ⟨oc3, od3, .func (PySem.W.fnOf "made" "made" (defArgs s_made) (defBody s_made) (defScope s_made) .none kV3 dc3 pm3 an3 cd3 ct3), sl3⟩)
    (cd_3 : PySem.W.codeIn K cd3 "made" = true)
    (k3 : PySem.W.keepIn K (.ref f3) = true)
    (a4 : PySem.W.nsIn K mainGlobals "added" = some (some (.ref f4)))
    (l4 : K.lookup f4 = some ⟨oc4, od4, .func (PySem.W.fnOf "added" "added" (defArgs s_added) (defBody s_added) (defScope s_added) .none kV4 dc4 pm4 an4 cd4 ct4), sl4⟩)
    (cd_4 : PySem.W.codeIn K cd4 "added" = true)
    (k4 : PySem.W.keepIn K (.ref f4) = true)
    (a5 : PySem.W.nsIn K mainGlobals "less" = some (some (.ref f5)))
    (l5 : K.lookup f5 = some ⟨oc5, od5, .func (PySem.W.fnOf "less" "less" (defArgs s_less) (defBody s_less) (defScope s_less) .none kV5 dc5 pm5 an5 cd5 ct5), sl5⟩)
    (cd_5 : PySem.W.codeIn K cd5 "less" = true)
    (k5 : PySem.W.keepIn K (.ref f5) = true)
    (a6 : PySem.W.nsIn K mainGlobals "times" = some (some (.ref f6)))
    (l6 : K.lookup f6 = some ⟨oc6, od6, .func (PySem.W.fnOf "times" "times" (defArgs s_times) (defBody s_times) (defScope s_times) .none kV6 dc6 pm6 an6 cd6 ct6), sl6⟩)
    (cd_6 : PySem.W.codeIn K cd6 "times" = true)
    (k6 : PySem.W.keepIn K (.ref f6) = true)
    (a7 : PySem.W.nsIn K mainGlobals "compared" = some (some (.ref f7)))
    (l7 : K.lookup f7 = some ⟨oc7, od7, .func (PySem.W.fnOf "compared" "compared" (defArgs s_compared) (defBody s_compared) (defScope s_compared) .none kV7 dc7 pm7 an7 cd7 ct7), sl7⟩)
    (cd_7 : PySem.W.codeIn K cd7 "compared" = true)
    (k7 : PySem.W.keepIn K (.ref f7) = true)
    (a8 : PySem.W.nsIn K mainGlobals "_law_draw" = some (some (.ref f8)))
    (l8 : K.lookup f8 = some ⟨oc8, od8, .func (PySem.W.fnOf "_law_draw" "_law_draw" (defArgs s__law_draw) (defBody s__law_draw) (defScope s__law_draw) .none kV8 dc8 pm8 an8 cd8 ct8), sl8⟩)
    (cd_8 : PySem.W.codeIn K cd8 "_law_draw" = true)
    (k8 : PySem.W.keepIn K (.ref f8) = true)
    (a9 : PySem.W.nsIn K mainGlobals "_law_any" = some (some (.ref f9)))
    (l9 : K.lookup f9 = some ⟨oc9, od9, .func (PySem.W.fnOf "_law_any" "_law_any" (defArgs s__law_any) (defBody s__law_any) (defScope s__law_any) .none kV9 dc9 pm9 an9 cd9 ct9), sl9⟩)
    (cd_9 : PySem.W.codeIn K cd9 "_law_any" = true)
    (k9 : PySem.W.keepIn K (.ref f9) = true)
    (a10 : PySem.W.nsIn K mainGlobals "_law_of" = some (some (.ref f10)))
    (l10 : K.lookup f10 = some ⟨oc10, od10, .func (PySem.W.fnOf "_law_of" "_law_of" (defArgs s__law_of) (defBody s__law_of) (defScope s__law_of) .none kV10 dc10 pm10 an10 cd10 ct10), sl10⟩)
    (cd_10 : PySem.W.codeIn K cd10 "_law_of" = true)
    (k10 : PySem.W.keepIn K (.ref f10) = true)
    (a11 : PySem.W.nsIn K mainGlobals "_law_low" = some (some (.ref f11)))
    (l11 : K.lookup f11 = some ⟨oc11, od11, .func (PySem.W.fnOf "_law_low" "_law_low" (defArgs s__law_low) (defBody s__law_low) (defScope s__law_low) .none kV11 dc11 pm11 an11 cd11 ct11), sl11⟩)
    (cd_11 : PySem.W.codeIn K cd11 "_law_low" = true)
    (k11 : PySem.W.keepIn K (.ref f11) = true)
    (a12 : PySem.W.nsIn K mainGlobals "_law_integer" = some (some (.ref f12)))
    (l12 : K.lookup f12 = some ⟨oc12, od12, .func (PySem.W.fnOf "_law_integer" "_law_integer" (defArgs s__law_integer) (defBody s__law_integer) (defScope s__law_integer) .none kV12 dc12 pm12 an12 cd12 ct12), sl12⟩)
    (cd_12 : PySem.W.codeIn K cd12 "_law_integer" = true)
    (k12 : PySem.W.keepIn K (.ref f12) = true)
    (a13 : PySem.W.nsIn K mainGlobals "_law_bottom" = some (some (.ref f13)))
    (l13 : K.lookup f13 = some ⟨oc13, od13, .func (PySem.W.fnOf "_law_bottom" "_law_bottom" (defArgs s__law_bottom) (defBody s__law_bottom) (defScope s__law_bottom) .none kV13 dc13 pm13 an13 cd13 ct13), sl13⟩)
    (cd_13 : PySem.W.codeIn K cd13 "_law_bottom" = true)
    (k13 : PySem.W.keepIn K (.ref f13) = true)
    (a14 : PySem.W.nsIn K mainGlobals "_law_refused" = some (some (.ref f14)))
    (l14 : K.lookup f14 = some ⟨oc14, od14, .func (PySem.W.fnOf "_law_refused" "_law_refused" (defArgs s__law_refused) (defBody s__law_refused) (defScope s__law_refused) .none kV14 dc14 pm14 an14 cd14 ct14), sl14⟩)
    (cd_14 : PySem.W.codeIn K cd14 "_law_refused" = true)
    (k14 : PySem.W.keepIn K (.ref f14) = true)
    (a15 : PySem.W.nsIn K mainGlobals "_law_sums_right" = some (some (.ref f15)))
    (l15 : K.lookup f15 = some ⟨oc15, od15, .func (PySem.W.fnOf "_law_sums_right" "_law_sums_right" (defArgs s__law_sums_right) (defBody s__law_sums_right) (defScope s__law_sums_right) .none kV15 dc15 pm15 an15 cd15 ct15), sl15⟩)
    (cd_15 : PySem.W.codeIn K cd15 "_law_sums_right" = true)
    (k15 : PySem.W.keepIn K (.ref f15) = true)
    (aL : PySem.W.nsIn K mainGlobals "law" = some (some (.ref fL)))
    (lL : K.lookup fL = some ⟨ocL, odL, .func (PySem.W.fnOf "law" "law" (defArgs s_law) (defBody s_law) (defScope s_law) .none kVL dcL pmL anL (.ref cLw) ctL), slL⟩)
    (cL : PySem.W.codeIn K (.ref cLw) "law" = true)
    (kL : PySem.W.keepIn K (.ref fL) = true)
    (xL : K.lookup cLw = some ⟨occ, odc, .fields vsc, slc⟩)
    (vL : vsc[11]? = some (.ref PT))
    (hL : PySem.W.codeHdIn K cLw PT = true)
    (z_isinstance : PySem.W.nsIn K mainGlobals "isinstance" = some none)
    (z_int : PySem.W.nsIn K mainGlobals "int" = some none)
    (z_bool : PySem.W.nsIn K mainGlobals "bool" = some none)
    (z_tuple : PySem.W.nsIn K mainGlobals "tuple" = some none)
    (z_len : PySem.W.nsIn K mainGlobals "len" = some none)
    (z_all : PySem.W.nsIn K mainGlobals "all" = some none)
    (z_abs : PySem.W.nsIn K mainGlobals "abs" = some none)
    (z_range : PySem.W.nsIn K mainGlobals "range" = some none)
    (z_str : PySem.W.nsIn K mainGlobals "str" = some none)
    (z_repr : PySem.W.nsIn K mainGlobals "repr" = some none)
    (geInvalidQuestion : PySem.W.nsIn K mainGlobals "InvalidQuestion" = some (some (.ref CInvalidQuestion)))
    (xLeInvalidQuestion : K.lookup CInvalidQuestion = some (excClassObj nmeInvalidQuestion qeInvalidQuestion CInvalidQuestion NeInvalidQuestion bseInvalidQuestion bmeInvalidQuestion true sneInvalidQuestion subeInvalidQuestion abeInvalidQuestion coleInvalidQuestion ddeInvalidQuestion m0eInvalidQuestion m1eInvalidQuestion m2eInvalidQuestion m3eInvalidQuestion m5eInvalidQuestion "ValueError.__new__"))
    (xVeInvalidQuestion : PySem.HandSPX.refsVE bmeInvalidQuestion = true)
    (saeInvalidQuestion : PySem.W.findIn K (.ref CInvalidQuestion) "__setattr__" = some (some (.builtin "object.__setattr__")))
    (exCeInvalidQuestion : PySem.W.subIn K (.ref CInvalidQuestion) (.type "BaseException") = some true)
    (tyCeInvalidQuestion : PySem.W.typeIn K (.ref CInvalidQuestion) = some (.type "type"))
    (kCeInvalidQuestion : PySem.W.keepIn K (.ref CInvalidQuestion) = true)
    (iCeInvalidQuestion : PySem.W.findIn K (.ref CInvalidQuestion) "__init__" = some (some (.ref IeInvalidQuestion)))
    (tIeInvalidQuestion : PySem.W.typeIn K (.ref IeInvalidQuestion) = some (.type "function"))
    (fneInvalidQuestion : K.lookup IeInvalidQuestion = some ⟨oceInvalidQuestion, odeInvalidQuestion, .func (PySem.W.ksFn "__init__" "InvalidQuestion.__init__" (defArgs s_init) (defBody s_init) (defScope s_init) .none .none dceInvalidQuestion pmeInvalidQuestion aneInvalidQuestion (.ref cdaeInvalidQuestion) cteInvalidQuestion cceInvalidQuestion), osleInvalidQuestion⟩)
    (cdeInvalidQuestion : PySem.W.codeIn K (.ref cdaeInvalidQuestion) "InvalidQuestion.__init__" = true)
    (fleInvalidQuestion : K.lookup cdaeInvalidQuestion = some ⟨ccleInvalidQuestion, cddeInvalidQuestion, .fields vseInvalidQuestion, ccseInvalidQuestion⟩)
    (fveInvalidQuestion : vseInvalidQuestion[2]? = some (.str fileeInvalidQuestion tfeInvalidQuestion))
    (fPeInvalidQuestion : ((PP.main.file : Str) == fileeInvalidQuestion) = true)
    (ceeInvalidQuestion : K.lookup cceInvalidQuestion = some ⟨cleInvalidQuestion, cldeInvalidQuestion, .cell (some (.ref CInvalidQuestion)), csleInvalidQuestion⟩)
    (mreInvalidQuestion : PySem.W.mroIn K CInvalidQuestion (.ref CInvalidQuestion) = some true)
    (sieInvalidQuestion : PySem.W.ks_superIn K CInvalidQuestion CInvalidQuestion "__init__" = some (some (.builtin "ValueError.__init__")))
    (sveInvalidQuestion : PySem.W.subIn K (.ref CInvalidQuestion) (.type "ValueError") = some true)
    (noAteInvalidQuestion : PySem.W.findIn K (.ref CInvalidQuestion) "at" = some none)
    (hgeInvalidQuestion : PySem.W.findIn K (.ref CInvalidQuestion) "__getattribute__" = some (some (.builtin "BaseException.__getattribute__")))
    (hkeInvalidQuestion : PySem.W.findIn K (.ref CInvalidQuestion) "__getattr__" = some none)
    (hdeInvalidQuestion : PySem.W.hasDictIn K CInvalidQuestion = true)
    (haeInvalidQuestion : PySem.W.findIn K (.ref CInvalidQuestion) "__class__" = some (some (.builtin "object.__class__")))
    (hmeInvalidQuestion : PySem.W.mroIn K CInvalidQuestion (.type "object") = some true)
    (icleInvalidQuestion : PySem.W.isClsIn K CInvalidQuestion = true)
    (sCCeInvalidQuestion : PySem.W.subIn K (.ref CInvalidQuestion) (.ref CInvalidQuestion) = some true)
    (geNetError : PySem.W.nsIn K mainGlobals "NetError" = some (some (.ref CNetError)))
    (x1eNetError : PySem.W.subIn K (.ref CNetError) (.type "BaseException") = some true)
    (x2eNetError : PySem.W.isClsIn K CNetError = true)
    (x3eNetError : PySem.W.typeIn K (.ref CNetError) = some (.type "type"))
    (sup : PySem.W.nsIn K mainGlobals "super" = some none)
    (any : PySem.W.nsIn K PySem.cStatics "thirdparty.any" = some none)
    (hn : PySem.W.specialIn K (.builtin "object.__class__") "__get__" = some (some (.builtin "getset_descriptor.__get__")))
    (ht : PySem.W.takesIn K (.builtin "object.__class__") = some true)
    (isn : PySem.W.kitOne K (.ref CInvalidQuestion) (.ref CNetError) = some true)
    (tabs0 : h.get? PT = some { cls := .none, data := .fields #[] }) (tabsK : K.lookup PT = none) :
    LawG PySem.Challenge.rw_handalong_k01_fractions_in_lowest_terms w K CX0 7 63 "_law_script" mg fa h := by
  have Dis_integer : Def K mg "is_integer" s_is_integer ["value"] := def_mk X G a0 l0 cd_0 k0 (fun _ _ _ _ _ _ us hl => match us, hl with | [_], _ => rfl)
  have Ddivisor : Def K mg "divisor" s_divisor ["one", "other"] := def_mk X G a1 l1 cd_1 k1 (fun _ _ _ _ _ _ us hl => match us, hl with | [_, _], _ => rfl)
  have Dis_fraction : Def K mg "is_fraction" s_is_fraction ["value"] := def_mk X G a2 l2 cd_2 k2 (fun _ _ _ _ _ _ us hl => match us, hl with | [_], _ => rfl)
  have Dmade : Def K mg "made" s_made ["top", "bottom"] := def_mk X G a3 l3 cd_3 k3 (fun _ _ _ _ _ _ us hl => match us, hl with | [_, _], _ => rfl)
  have Dadded : Def K mg "added" s_added ["one", "other"] := def_mk X G a4 l4 cd_4 k4 (fun _ _ _ _ _ _ us hl => match us, hl with | [_, _], _ => rfl)
  have Dless : Def K mg "less" s_less ["one", "other"] := def_mk X G a5 l5 cd_5 k5 (fun _ _ _ _ _ _ us hl => match us, hl with | [_, _], _ => rfl)
  have Dtimes : Def K mg "times" s_times ["one", "other"] := def_mk X G a6 l6 cd_6 k6 (fun _ _ _ _ _ _ us hl => match us, hl with | [_, _], _ => rfl)
  have Dcompared : Def K mg "compared" s_compared ["one", "other"] := def_mk X G a7 l7 cd_7 k7 (fun _ _ _ _ _ _ us hl => match us, hl with | [_, _], _ => rfl)
  have D_law_draw : Def K mg "_law_draw" s__law_draw ["_law_script", "_law_salt"] := def_mk X G a8 l8 cd_8 k8 (fun _ _ _ _ _ _ us hl => match us, hl with | [_, _], _ => rfl)
  have D_law_any : Def K mg "_law_any" s__law_any ["_law_deal", "_law_bound"] := def_mk X G a9 l9 cd_9 k9 (fun _ _ _ _ _ _ us hl => match us, hl with | [_, _], _ => rfl)
  have D_law_of : Def K mg "_law_of" s__law_of ["_law_deal", "_law_some"] := def_mk X G a10 l10 cd_10 k10 (fun _ _ _ _ _ _ us hl => match us, hl with | [_, _], _ => rfl)
  have D_law_low : Def K mg "_law_low" s__law_low ["_law_top", "_law_bottom_here"] := def_mk X G a11 l11 cd_11 k11 (fun _ _ _ _ _ _ us hl => match us, hl with | [_, _], _ => rfl)
  have D_law_integer : Def K mg "_law_integer" s__law_integer ["_law_deal"] := def_mk X G a12 l12 cd_12 k12 (fun _ _ _ _ _ _ us hl => match us, hl with | [_], _ => rfl)
  have D_law_bottom : Def K mg "_law_bottom" s__law_bottom ["_law_deal"] := def_mk X G a13 l13 cd_13 k13 (fun _ _ _ _ _ _ us hl => match us, hl with | [_], _ => rfl)
  have D_law_refused : Def K mg "_law_refused" s__law_refused ["_law_work"] := def_mk X G a14 l14 cd_14 k14 (fun _ _ _ _ _ _ us hl => match us, hl with | [_], _ => rfl)
  have D_law_sums_right : Def K mg "_law_sums_right" s__law_sums_right ["_law_one", "_law_other"] := def_mk X G a15 l15 cd_15 k15 (fun _ _ _ _ _ _ us hl => match us, hl with | [_, _], _ => rfl)
  have Dlaw : DefC K mg "law" s_law ["_law_script"] cLw := defC_mk X G aL lL cL kL (fun _ _ _ _ _ _ us hl => match us, hl with | [_], _ => rfl)
  have EInvalidQuestion : ErrK PP K mg "InvalidQuestion" CInvalidQuestion := errK_mk (st := s_init) X G geInvalidQuestion xLeInvalidQuestion xVeInvalidQuestion saeInvalidQuestion exCeInvalidQuestion tyCeInvalidQuestion kCeInvalidQuestion iCeInvalidQuestion tIeInvalidQuestion fneInvalidQuestion cdeInvalidQuestion fleInvalidQuestion fveInvalidQuestion fPeInvalidQuestion ceeInvalidQuestion mreInvalidQuestion sup any sieInvalidQuestion sveInvalidQuestion rfl noAteInvalidQuestion hgeInvalidQuestion hkeInvalidQuestion hdeInvalidQuestion haeInvalidQuestion hn ht hmeInvalidQuestion icleInvalidQuestion sCCeInvalidQuestion ⟨_, _, _, _, _, _, _, _, _, _, _, _, rfl, fun _ => ⟨_, rfl⟩, rfl, _, rfl, rfl⟩ (fun _ _ _ _ _ _ us hl => match us, hl with | [_, _], _ => rfl)
  have T0 : Txt PP K mg CInvalidQuestion CNetError := ⟨EInvalidQuestion, PySem.W.mg_none_of X G z_isinstance, PySem.W.mg_none_of X G z_int, PySem.W.mg_none_of X G z_bool, PySem.W.mg_none_of X G z_tuple, PySem.W.mg_none_of X G z_len, PySem.W.mg_none_of X G z_all, PySem.W.mg_none_of X G z_abs,
    Dis_integer, Ddivisor, Dis_fraction, Dmade, Dadded, Dless, Dtimes, Dcompared⟩
  have T : LTxt PP K mg CInvalidQuestion CNetError :=
    { toTxt := T0, d__law_draw := D_law_draw, d__law_any := D_law_any, d__law_of := D_law_of, n_range := PySem.W.mg_none_of X G z_range, n_str := PySem.W.mg_none_of X G z_str, n_repr := PySem.W.mg_none_of X G z_repr,
      c_InvalidQuestion := PySem.W.mg_of X G geInvalidQuestion, c_NetError := PySem.W.mg_of X G geNetError,
      heard := ⟨EInvalidQuestion.te, EInvalidQuestion.ec, isn, EInvalidQuestion.noAt⟩,
      d__law_low := D_law_low, d__law_integer := D_law_integer, d__law_bottom := D_law_bottom, d__law_refused := D_law_refused, d__law_sums_right := D_law_sums_right }
  obtain ⟨fd, hb, hF⟩ := law_mk (P := PP) (cs := [(cLw, PT)]) (w := w) Dlaw.def hfa (fun _ _ _ _ _ _ _ => rfl) (fun base h1 h2 h3 => ok_law (w := w) (base := base) T Dlaw (h3 _ List.mem_cons_self))
  refine ⟨fd, [(cLw, PT)], _, fun p hp => ?_, hb, fun H a ns hl hbits ht hS => ?_, hF⟩
  · rw [List.mem_singleton.mp hp]
    exact ⟨tabs0, tabsK, tab_mk X hL⟩
  · exact ⟨a, ns, rfl, hS, ht _ List.mem_cons_self, fun _ => rfl⟩
end K01
open PySem PySem.W PyProof.Rows in
set_option maxRecDepth 100000 in
set_option maxHeartbeats 0 in
theorem PySem.Challenge.cw_handalong_k01_fractions_in_lowest_terms_holds : PySem.Challenge.rw_handalong_k01_fractions_in_lowest_terms.Holds := by
  w_on; o_law; k_head; (case hw => w_witness2)
  k_fill
  refine NL.walkGT (l := PySem.Challenge.rw_handalong_k01_fractions_in_lowest_terms) (n := 63) (k := 7) (x := "_law_script") (CX := L2.CX0) rfl (by decide) rfl ⟨rfl, by decide, by decide⟩ (fun w h Y => PySem.W.km_in_of Y) ?F (fun _ _ _ _ z => z)
  case F =>
    intro w mg fa h Y KX G hmg
    have hT8 := km_tabs_of Y
    refine' K01.all_mk KX G hmg ?a0 ?l0 ?cd_0 ?k0 ?a1 ?l1 ?cd_1 ?k1 ?a2 ?l2 ?cd_2 ?k2 ?a3 ?l3 ?cd_3 ?k3 ?a4 ?l4 ?cd_4 ?k4 ?a5 ?l5 ?cd_5 ?k5 ?a6 ?l6 ?cd_6 ?k6 ?a7 ?l7 ?cd_7 ?k7 ?a8 ?l8 ?cd_8 ?k8 ?a9 ?l9 ?cd_9 ?k9 ?a10 ?l10 ?cd_10 ?k10 ?a11 ?l11 ?cd_11 ?k11 ?a12 ?l12 ?cd_12 ?k12 ?a13 ?l13 ?cd_13 ?k13 ?a14 ?l14 ?cd_14 ?k14 ?a15 ?l15 ?cd_15 ?k15 ?aL ?lL ?cL ?kL ?xL ?vL ?hL ?z_isinstance ?z_int ?z_bool ?z_tuple ?z_len ?z_all ?z_abs ?z_range ?z_str ?z_repr ?geInvalidQuestion ?xLeInvalidQuestion ?xVeInvalidQuestion ?saeInvalidQuestion ?exCeInvalidQuestion ?tyCeInvalidQuestion ?kCeInvalidQuestion ?iCeInvalidQuestion ?tIeInvalidQuestion ?fneInvalidQuestion ?cdeInvalidQuestion ?fleInvalidQuestion ?fveInvalidQuestion ?fPeInvalidQuestion ?ceeInvalidQuestion ?mreInvalidQuestion ?sieInvalidQuestion ?sveInvalidQuestion ?noAteInvalidQuestion ?hgeInvalidQuestion ?hkeInvalidQuestion ?hdeInvalidQuestion ?haeInvalidQuestion ?hmeInvalidQuestion ?icleInvalidQuestion ?sCCeInvalidQuestion ?geNetError ?x1eNetError ?x2eNetError ?x3eNetError ?sup ?any ?hn ?ht ?isn ?tabs0 ?tabsK
    (case a0 => k_is)
    (case l0 => k_is)
    (case cd_0 => k_is)
    (case k0 => k_is)
    (case a1 => k_is)
    (case l1 => k_is)
    (case cd_1 => k_is)
    (case k1 => k_is)
    (case a2 => k_is)
    (case l2 => k_is)
    (case cd_2 => k_is)
    (case k2 => k_is)
    (case a3 => k_is)
    (case l3 => k_is)
    (case cd_3 => k_is)
    (case k3 => k_is)
    (case a4 => k_is)
    (case l4 => k_is)
    (case cd_4 => k_is)
    (case k4 => k_is)
    (case a5 => k_is)
    (case l5 => k_is)
    (case cd_5 => k_is)
    (case k5 => k_is)
    (case a6 => k_is)
    (case l6 => k_is)
    (case cd_6 => k_is)
    (case k6 => k_is)
    (case a7 => k_is)
    (case l7 => k_is)
    (case cd_7 => k_is)
    (case k7 => k_is)
    (case a8 => k_is)
    (case l8 => k_is)
    (case cd_8 => k_is)
    (case k8 => k_is)
    (case a9 => k_is)
    (case l9 => k_is)
    (case cd_9 => k_is)
    (case k9 => k_is)
    (case a10 => k_is)
    (case l10 => k_is)
    (case cd_10 => k_is)
    (case k10 => k_is)
    (case a11 => k_is)
    (case l11 => k_is)
    (case cd_11 => k_is)
    (case k11 => k_is)
    (case a12 => k_is)
    (case l12 => k_is)
    (case cd_12 => k_is)
    (case k12 => k_is)
    (case a13 => k_is)
    (case l13 => k_is)
    (case cd_13 => k_is)
    (case k13 => k_is)
    (case a14 => k_is)
    (case l14 => k_is)
    (case cd_14 => k_is)
    (case k14 => k_is)
    (case a15 => k_is)
    (case l15 => k_is)
    (case cd_15 => k_is)
    (case k15 => k_is)
    (case aL => k_is)
    (case lL => k_is)
    (case cL => k_is)
    (case kL => k_is)
    (case xL => k_is)
    (case vL => rfl)
    (case hL => kernel_rfl)
    (case z_isinstance => k_is)
    (case z_int => k_is)
    (case z_bool => k_is)
    (case z_tuple => k_is)
    (case z_len => k_is)
    (case z_all => k_is)
    (case z_abs => k_is)
    (case z_range => k_is)
    (case z_str => k_is)
    (case z_repr => k_is)
    (case geInvalidQuestion => k_is)
    (case xLeInvalidQuestion => k_is)
    (case xVeInvalidQuestion => rfl)
    (case saeInvalidQuestion => k_is)
    (case exCeInvalidQuestion => k_is)
    (case tyCeInvalidQuestion => k_is)
    (case kCeInvalidQuestion => k_is)
    (case iCeInvalidQuestion => k_is)
    (case tIeInvalidQuestion => k_is)
    (case fneInvalidQuestion => k_is)
    (case cdeInvalidQuestion => k_is)
    (case fleInvalidQuestion => k_is)
    (case fveInvalidQuestion => rfl)
    (case fPeInvalidQuestion => (first | rfl | decide +kernel))
    (case ceeInvalidQuestion => k_is)
    (case mreInvalidQuestion => k_is)
    (case sieInvalidQuestion => ks_is)
    (case sveInvalidQuestion => k_is)
    (case noAteInvalidQuestion => k_is)
    (case hgeInvalidQuestion => k_is)
    (case hkeInvalidQuestion => k_is)
    (case hdeInvalidQuestion => k_is)
    (case haeInvalidQuestion => k_is)
    (case hmeInvalidQuestion => k_is)
    (case icleInvalidQuestion => k_is)
    (case sCCeInvalidQuestion => k_is)
    (case geNetError => k_is)
    (case x1eNetError => k_is)
    (case x2eNetError => k_is)
    (case x3eNetError => k_is)
    (case sup => k_is)
    (case any => k_is)
    (case hn => k_is)
    (case ht => k_is)
    (case isn => kit_is)
    (case tabs0 => exact hT8 _ (by k_mem))
    (case tabsK => first | k_is | kernel_rfl | rfl)
