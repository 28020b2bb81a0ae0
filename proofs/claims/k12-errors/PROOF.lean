import PyProof.Rows.All
import Wide.All
import OpenK.AllK
import Wide.FinOn
import HandS.ForMost
import HandS.Exc
import HandS.TryOnly
import HandS.WordsExc
import HandS.Wide
import HandS.EndBits
import HandS.IsInst
import HandS.Style
import HandS.Flow
import HandS.Evl
import HandS.Walk
import KE.DataEq
import HandS.ExcField
import HandS.ExcInit
import KE.KExcSuper
import HandS.ExcCtx
import HandS.HotCalls
import KE.KExcIs
import KE.KEqNest
import KE.KDictLaw
import PyProof.NeKinds
import PySem.Challenge.RW_farapart_k12_errors_kept
set_option Elab.async false
set_option linter.all false
set_option maxRecDepth 100000
set_option maxHeartbeats 8000000
/-! FA1: the layer over HandS: blocks stepped statement by statement (W), defs that are called where no repr is under way (FnG), readings that compute. -/
namespace FA
open PySem PySem.Spec PyProof.Rows L2

/-! ### W: what is to be run, as a reading of itself -/
def WSs (X : Cx) (b : List Stmt) : TS := fun D σ H =>
  ∀ (pins : List (Addr × Obj)) (s : Shared), Inv X pins σ H s → wpAny (model X.prog X.w) X.A (execs b X.env) (SP X pins D) X.xe s
def WE (X : Cx) (e : Expr) : TE := fun σ H Q =>
  ∀ (pins : List (Addr × Obj)) (s : Shared), Inv X pins σ H s → wpAny (model X.prog X.w) X.A (eval e X.env) (EP X pins σ Q) X.xe s
section
variable {X : Cx}
theorem pss_w {b : List Stmt} : PSs X b (WSs X b) := ⟨fun pins s _ _ _ I h => h pins s I⟩
theorem pe_w {e : Expr} : PE X e (WE X e) := ⟨fun pins s _ _ _ I h => h pins s I⟩
theorem wss_of {b : List Stmt} {t : TS} {D : Ends} {σ : L2.St} {H : Hp} (h : PSs X b t) (q : t D σ H) : WSs X b D σ H := fun pins s I => h.run pins s σ H D I q
/-- the next statement, by its own rule; behind it the rest of the block -/
theorem wss {st : Stmt} {b : List Stmt} {t : TS} {D : Ends} {σ : L2.St} {H : Hp} (h : PS X st t) (q : t { D with nx := WSs X b D } σ H) : WSs X (st :: b) D σ H :=
  wss_of (pss_cons h pss_w) q
theorem wss_end {D : Ends} {σ : L2.St} {H : Hp} (q : D.nx σ H) : WSs X [] D σ H := wss_of pss_nil q
theorem we_of {e : Expr} {t : TE} {Q : VK} {σ : L2.St} {H : Hp} (h : PE X e t) (q : t σ H Q) : WE X e σ H Q := fun pins s I => h.run pins s σ H Q I q
end

/-! ### defs that are called where no repr is under way -/
structure FnG (P : Program) (w : World) (K : PySem.W.Frag) (mg : Str → Option Value) (base : Heap) (CX : CXT) (k : Nat) (f : Addr) (fd : FuncData) (ps : List Str) (sp : Sp) : Prop where
  len : ∀ vs H Q E, sp vs H Q E → vs.length = ps.length
  go : ∀ (A : Around) (outer : List Env) (s : Shared) (H : Hp) (args : Args) (us : List Value) (vs : List V) (Q : VK) (E : XK), Room k A → A.guards = some [] → Env0 P w K mg base A outer s H →
    BindsTo s fd args (ps.zip us) → Vals vs us → sp vs H Q E → codeAny (model P w) A (.call (.ref f) args) (CR CX outer P w H s Q E) s
section
variable {P : Program} {w : World} {K : PySem.W.Frag} {mg : Str → Option Value} {base : Heap} {CX : CXT}
theorem FnG.of {k : Nat} {f : Addr} {fd : FuncData} {ps : List Str} {sp : Sp} (F : FnOk P w K mg base CX k f fd ps sp) : FnG P w K mg base CX k f fd ps sp :=
  ⟨F.len, fun A o s H args us vs Q E hr _ => F.run A o s H args us vs Q E hr⟩
theorem FnG.up {j k : Nat} {f : Addr} {fd : FuncData} {ps : List Str} {sp : Sp} (F : FnG P w K mg base CX j f fd ps sp) (h : j ≤ k) : FnG P w K mg base CX k f fd ps sp :=
  ⟨F.len, fun A o s H args us vs Q E hr => F.go A o s H args us vs Q E (hr.mono h)⟩

/-- a def by its body -/
theorem fn_g {k : Nat} {f : Addr} {name qual : Str} {params : Arguments} {body : List Stmt} {scope : Scope} {dV kV doc pm cdv ct oc : Value} {an od : Option Addr} {osl : Array (Option Value)} {N ps : List Str} {sp : Sp}
    (lk : K.lookup f = some ⟨oc, od, .func (PySem.W.fnOf name qual params body scope dV kV doc pm an cdv ct), osl⟩) (hcd : PySem.W.codeIn K cdv qual = true) (S : FnScope N ps scope)
    (len : ∀ vs H Q E, sp vs H Q E → vs.length = ps.length)
    (hb : ∀ (A : Around) (outer : List Env) (s : Shared) (H : Hp) (vs : List V) (Q : VK) (E : XK), Room k (A.deeper (envOfC qual scope s.heap.objs.size f cdv)) → (A.deeper (envOfC qual scope s.heap.objs.size f cdv)).guards = some [] →
      sp vs H Q E → WSs (cxOf CX P w K mg base N qual scope f cdv A outer s H E) body { nx := fun _ H' => Q .non H', rt := Q } (start N vs) H) :
    FnG P w K mg base CX (k + 1) f (PySem.W.fnOf name qual params body scope dV kV doc pm an cdv ct) ps sp := by
  constructor
  · exact len
  intro A outer s H args us vs Q E hr hG e0 hbi r hsp
  have hl := len _ _ _ _ hsp
  have kin : K.In s.heap := e0.mod.kin.keeps fun b o z => (e0.bs b o z).1
  have nol : s.heap.NoLimit := e0.mod.nolimit.keeps fun b o z => (e0.bs b o z).1
  have kinds : ∀ y ∈ ps.zip us, scope.names.lookup y.1 = some .local ∨ (scope.names.lookup y.1 = some .cell ∧ ((cellsFrom (s.heap.objs.size + 1) scope.names []).lookup y.1).isSome = true) := by
    rintro ⟨n, v⟩ hy
    rcases S.par n (List.of_mem_zip hy).1 with z | z
    · exact .inl z
    · exact .inr ⟨z, PySem.W.cellsFrom_some _ _ _ (.inl z)⟩
  refine codeAny_call_function hr.depth (kin _ _ lk) rfl S.co S.gen rfl (PySem.W.codeRec_of kin hcd) (hbi _ _ _ _ (wpAny_newFunctionEnv_cells S.kind kinds fun env he s1 x => ?_))
  subst he
  refine ⟨nol.keeps x.toInCall.keep, codeAny_func ?_⟩
  have I : Inv (cxOf CX P w K mg base N qual scope f cdv A outer s H E) [] (start N vs) H s1 := inv_start S hr.hd e0 hl r x
  have q := hb A outer s H vs Q E (hr.deeper _) hG hsp
  refine wpAny_mono (q [] s1 I) (fun fl s' z => ?_) fun e s' z => z
  match fl, z with
  | .ret u, z =>
    obtain ⟨v, _, H', J, rv, y⟩ := z
    exact ⟨v, H', J.os, J.bare, J.base, J.hok, rv, y⟩
  | .next, z =>
    obtain ⟨_, H', J, y⟩ := z
    exact ⟨V.non, H', J.os, J.bare, J.base, J.hok, rfl, y⟩
  | .brk, z =>
    obtain ⟨_, _, _, y⟩ := z
    exact y.elim
  | .cont, z =>
    obtain ⟨_, _, _, y⟩ := z
    exact y.elim
/-- the same for a def of the text; nothing that is raised leaves it -/
theorem okG {x qual : Str} {st : Stmt} {f : Addr} {fd : FuncData} {N ps : List Str} {k : Nat} {sp : Sp} (F : Fun K x qual st f fd) (S : FnScope N ps (defScope st)) (len : ∀ vs H Q E, sp vs H Q E → vs.length = ps.length)
    (hb : ∀ (cdv : Value) (A : Around) (outer : List Env) (s : Shared) (H : Hp) (vs : List V) (Q : VK) (E : XK), Room k (A.deeper (envOfC qual (defScope st) s.heap.objs.size f cdv)) → (A.deeper (envOfC qual (defScope st) s.heap.objs.size f cdv)).guards = some [] →
      sp vs H Q E → WSs (cxOf CX0 P w K mg base N qual (defScope st) f cdv A outer s H E).nox (defBody st) { nx := fun _ H' => Q .non H', rt := Q } (start N vs) H) : FnG P w K mg base CX0 (k + 1) f fd ps sp := by
  obtain ⟨oc, od, kV, doc, pm, an, cdv, ct, osl, rfl, lk, hcd⟩ := F.ex
  exact fn_g lk hcd S len fun A outer s H vs Q E hr hG hsp => wss_of (pss_w (X := (cxOf CX0 P w K mg base N qual (defScope st) f cdv A outer s H E).nox)).nox (hb cdv A outer s H vs Q E hr hG hsp)
/-- a def of the text that may raise -/
theorem okGX {x qual : Str} {st : Stmt} {f : Addr} {fd : FuncData} {N ps : List Str} {k : Nat} {sp : Sp} (F : Fun K x qual st f fd) (S : FnScope N ps (defScope st)) (len : ∀ vs H Q E, sp vs H Q E → vs.length = ps.length)
    (hb : ∀ (cdv : Value) (A : Around) (outer : List Env) (s : Shared) (H : Hp) (vs : List V) (Q : VK) (E : XK), Room k (A.deeper (envOfC qual (defScope st) s.heap.objs.size f cdv)) → (A.deeper (envOfC qual (defScope st) s.heap.objs.size f cdv)).guards = some [] →
      sp vs H Q E → WSs (cxOf (L2.CX P w) P w K mg base N qual (defScope st) f cdv A outer s H E) (defBody st) { nx := fun _ H' => Q .non H', rt := Q } (start N vs) H) : FnG P w K mg base (L2.CX P w) (k + 1) f fd ps sp := by
  obtain ⟨oc, od, kV, doc, pm, an, cdv, ct, osl, rfl, lk, hcd⟩ := F.ex
  exact fn_g lk hcd S len fun A outer s H vs Q E hr hG hsp => hb cdv A outer s H vs Q E hr hG hsp
/-- a def that calls no repr -/
theorem okW {x qual : Str} {st : Stmt} {f : Addr} {fd : FuncData} {N ps : List Str} {k : Nat} {sp : Sp} (F : Fun K x qual st f fd) (S : FnScope N ps (defScope st)) (len : ∀ vs H Q E, sp vs H Q E → vs.length = ps.length)
    (hb : ∀ (cdv : Value) (A : Around) (outer : List Env) (s : Shared) (H : Hp) (vs : List V) (Q : VK) (E : XK), Room k (A.deeper (envOfC qual (defScope st) s.heap.objs.size f cdv)) →
      sp vs H Q E → WSs (cxOf CX0 P w K mg base N qual (defScope st) f cdv A outer s H E).nox (defBody st) { nx := fun _ H' => Q .non H', rt := Q } (start N vs) H) : FnOk P w K mg base CX0 (k + 1) f fd ps sp :=
  F.ok S len fun cdv A outer s H vs Q E hr h => ⟨_, pss_w, hb cdv A outer s H vs Q E hr h⟩
end

section
variable {X : Cx} {CX : CXT} {k : Nat} {f C : Addr} {fd : FuncData} {ps : List Str} {sp : Sp} {dvs : List V} {ds : List Value} {E : XK} {x m : Str} {p pos apos : Pos} {e o : Expr} {es : List Expr} {ta : TE} {t : TA}
theorem run_g {pins : List (Addr × Obj)} {σ : L2.St} {H : Hp} {s : Shared} {Q : VK} {us : List Value} {vs : List V} (F : FnG X.prog X.w X.K X.mg X.base CX k f fd ps sp) (hr : Room k X.A) (hG : X.A.guards = some []) (hb : Binds X.K fd ps ds) (hd : Vals dvs ds)
    (hx : Passes CX X E) (I : Inv X pins σ H s) (r : Vals vs us) (h : sp (vs ++ dvs) H Q E) : wpAny (model X.prog X.w) X.A (call (.ref f) us) (EP X pins σ Q) X.xe s := by
  have rr : Vals (vs ++ dvs) (us ++ ds) := r.append hd
  have hl : (us ++ ds).length = ps.length := rr.length ▸ F.len _ _ _ _ h
  refine wpAny_call (codeAny_mono (F.go X.A X.stack s H ⟨us, []⟩ (us ++ ds) (vs ++ dvs) Q E hr hG I.env0 (hb s us I.kIn hl) rr h) fun r s' hq => ?_)
  match r, hq with
  | .error e, hq => exact hx pins σ H s e s' I hq
  | .ok (.ret u), hq => exact I.after hq
/-- f(e, ..) -/
theorem pe_callG (F : FnG X.prog X.w X.K X.mg X.base CX k f fd ps sp) (hr : Room k X.A) (hG : X.A.guards = some []) (hg : Gl X x) (hm : X.mg x = some (.ref f)) (hk : PySem.W.keepIn X.K (.ref f) = true) (hb : Binds X.K fd ps ds) (hd : Vals dvs ds) (hx : Passes CX X E)
    (ha : PA X (e :: es) t) (hdb : (x == ("__debug__" : Str)) = false := by decide) (he : starEach (e :: es) X.env = (false, eval e X.env) :: starEach es X.env := by rfl) (hpl : (backTo pos (starEach es X.env)).any (·.1) = false := by rfl) :
    PE X (.Call (.Name x p) (e :: es) [] pos) (tCall sp dvs E t) := by
  constructor
  intro pins s σ H Q I h
  refine wpAny_Call_Name_kw (ld_glob I hg hm (PySem.W.callWith_K (h₀ := X.base) I.ok.mod.kin hk (thn (ha.run pos pins s σ H _ I h) ?_) he hpl) hdb)
  rintro us s1 ⟨vs, H1, I1, r, q⟩
  exact ⟨I1.kIn, run_g F hr hG hb hd hx I1 r q⟩
end
end FA
namespace FA
open PySem PySem.Spec PyProof.Rows L2
/-- a statement, then the rest of the block from a word between them -/
theorem wcut {X : Cx} {st : Stmt} {b : List Stmt} {t : TS} {D : Ends} {σ : L2.St} {H : Hp} (h : PS X st t) (Mid : L2.St → Hp → Prop) (q : t { D with nx := Mid } σ H) (k : ∀ σ' H', Mid σ' H' → WSs X b D σ' H') : WSs X (st :: b) D σ H :=
  wss_of (Evl.pss_cut h pss_w) ⟨Mid, q, k⟩
end FA

/-! FA2: the end of a law whose defs are FnG; the script's bits told. -/
namespace FA
open PySem PySem.Spec PyProof.Rows L2
theorem hid_ns {h : Heap} {H : Hp} {b : Addr} {m : Str → Option Value} (hn : h.Ns b m) (free : ∀ {o : Obj} {es : Array DictEntry} {ep : Nat}, h.get? b = some o → o.data = .dict es ep → H b = none) : (hidT h H).Ns b m := by
  obtain ⟨o, es, ep, e, d, r⟩ := hn
  exact ⟨o, es, ep, hidT_get e (free e d), d, r⟩
theorem law_goes {P : Program} {w : World} {K : PySem.W.Frag} {mg mb : Str → Option Value} {k : Nat} {fa a : Addr} {fd : FuncData} {x : Str} {sp : Sp} {s₁ : Shared} {vs : List Value} {ns : List Int}
    (KX : K.In s₁.heap) (hns : s₁.heap.Ns mainGlobals mg) (hb : s₁.heap.Ns builtinsNs mb) (hbb : ∀ y : Str, y ≠ "__name__" → mb y = bootBuiltins y) (hlim : s₁.heap.NoLimit) (hg : s₁.gens = #[])
    (ha : s₁.heap.get? a = some { cls := .type "list", data := .seq vs.toArray }) (hi : IntsAre vs ns) (hl : ns.length ≤ sizeLine) (hr : Room k callerA)
    (F : ∀ base : Heap, K.In base → base.Ns mainGlobals mg → FnG P w K mg base CX0 k fa fd [x] sp) (hbind : ∀ (s : Shared) (u : Value), BindsTo s fd ⟨[u], []⟩ [(x, u)])
    (hsp : ∀ H : Hp, Only H → SqL K H a (ns.map V.int) → sp [.ref a] H (fun v _ => v = .bl true) E0) :
    codeAny (model P w) callerA (.call (.ref fa) ⟨[.ref a], []⟩) (fun r s' => r = .ok (.ret (.bool true)) ∧ OldK s₁.heap s'.heap ∧ s'.os = s₁.os ∧ AllBare s'.gens) s₁ := by
  have rv := vals_ints hi
  have lenV := hi.length
  have main : ∀ H : Hp, Only H → SqL K H a (ns.map V.int) → HOk P w H s₁.heap → (∀ b, H b ≠ none → b = a ∧ K.lookup a = none) →
      codeAny (model P w) callerA (.call (.ref fa) ⟨[.ref a], []⟩) (fun r s' => r = .ok (.ret (.bool true)) ∧ OldK s₁.heap s'.heap ∧ s'.os = s₁.os ∧ AllBare s'.gens) s₁ := by
    intro H hO hS hok hA
    have dictFree : ∀ {b : Addr} {o : Obj} {es : Array DictEntry} {ep : Nat}, s₁.heap.get? b = some o → o.data = .dict es ep → H b = none := by
      intro b o es ep e d
      cases q : H b with
      | none => rfl
      | some u =>
        obtain ⟨rfl, _⟩ := hA b (by simp [q])
        rw [ha] at e
        obtain rfl := Option.some.inj e
        exact nomatch d
    have kb : K.In (hidT s₁.heap H) := by
      intro b o e
      refine hidT_get (KX b o e) ?_
      cases q : H b with
      | none => rfl
      | some u =>
        obtain ⟨rfl, z⟩ := hA b (by simp [q])
        rw [z] at e
        cases e
    have gN : (hidT s₁.heap H).Ns mainGlobals mg := hid_ns hns dictFree
    have bN : (hidT s₁.heap H).Ns builtinsNs mb := hid_ns hb dictFree
    have lN : (hidT s₁.heap H).NoLimit := let ⟨mc, z1, z2⟩ := hlim; ⟨mc, hid_ns z1 dictFree, z2⟩
    have e0 : Env0 P w K mg (hidT s₁.heap H) callerA [] s₁ H := by
      refine ⟨rfl, ⟨kb, gN, ⟨mb, bN, hbb⟩, lN⟩, fun b o e => of_hidT e, Nat.le_of_eq (hidT_size _ _), trivial, ?_, hok, .of_eq hg⟩
      intro b z
      exact nomatch (show b ∈ ([] : List Addr) from z)
    refine codeAny_mono ((F _ kb gN).go callerA [] s₁ H ⟨[.ref a], []⟩ [.ref a] [.ref a] _ _ hr rfl e0 (hbind s₁ (.ref a)) (.cons rfl .nil) (hsp H hO hS)) ?_
    intro r s' h
    match r, h with
    | .error e, h => exact (show False from h).elim
    | .ok (.ret u), h =>
      obtain ⟨v, H', os, bare, un, hok', r', q⟩ := h
      obtain rfl : v = .bl true := q
      obtain rfl : u = Value.bool true := r'
      refine ⟨rfl, OldK.of_keep ?_, os, bare⟩
      intro b o e
      have nb : b ∉ frs [] := by intro z; exact nomatch (show b ∈ ([] : List Addr) from z)
      rcases hO b with z | ⟨ob, xs, z⟩
      · exact un.keep b o e z nb (by simp)
      · obtain ⟨e1, _⟩ := hok b _ z
        obtain ⟨e2, _⟩ := hok' b _ (un.frzs b ob _ z)
        rw [e] at e1
        obtain rfl := Option.some.inj e1
        exact e2
  cases hk : K.lookup a with
  | some o =>
    have e := KX a o hk
    rw [ha] at e
    obtain rfl := Option.some.inj e
    refine main (fun _ => none) (fun _ => .inl rfl) (.inr ⟨_, vs.toArray, _, hk, rfl, rfl, rfl, ?_, by simpa using rv⟩) (fun b u z => nomatch (show (none : Option HO) = some u from z)) (fun b z => absurd rfl z)
    rw [List.size_toArray, lenV]
    exact hl
  | none =>
    refine main (upd (fun _ => none) a (.frz { cls := .type "list", data := .seq vs.toArray } (.lst (ns.map V.int)))) (fun b => ?_) (.inl (.inr ⟨_, upd_same⟩)) (fun b u z => ?_) (fun b z => ?_)
    · by_cases hb : b = a
      · subst hb
        exact .inr ⟨_, _, upd_same⟩
      · exact .inl (upd_ne hb)
    · by_cases hb : b = a
      · subst hb
        rw [upd_same] at z
        obtain rfl := Option.some.inj z
        exact ⟨ha, by rw [List.length_map]; exact hl, vs, _, rv, ha⟩
      · rw [upd_ne hb] at z
        exact nomatch z
    · by_cases hb : b = a
      · exact ⟨hb, hk⟩
      · exact absurd (upd_ne hb) z
theorem walk_g {l : PySem.W.OpenLaw} {n k : Nat} {q : Program} {loose : List Str} {XP : (Str → Option Value) → Heap → Prop} {YP : World → Heap → Prop} {d : DefRec} {K : Params → PySem.W.Frag} {sp : World → Sp} {x : Str}
    (hn : l.most = some n) (hn2 : n ≤ sizeLine) (hdf : d.params.defaults = []) (hr : Room k callerA)
    (hY : ∀ (w : World) (h : Heap), YP w h → (K w.params).In h)
    (F : ∀ (w : World) (mg : Str → Option Value) (fa : Addr) (h : Heap), (K w.params).In h → h.Ns mainGlobals mg → mg d.name = some (.ref fa) →
      ∃ fd : FuncData, (∀ (s : Shared) (u : Value), BindsTo s fd ⟨[u], []⟩ [(x, u)]) ∧
        ∀ base : Heap, (K w.params).In base → base.Ns mainGlobals mg → FnG l.prog w (K w.params) mg base CX0 k fa fd [x] (sp w))
    (hsp : ∀ (w : World) (H : Hp) (a : Addr) (ns : List Int), ns.length ≤ n → (∀ z ∈ ns, Builtin.Int.intBits z ≤ 1048576) → Only H → SqL (K w.params) H a (ns.map V.int) → sp w [.ref a] H (fun v _ => v = .bl true) E0) :
    PySem.W.WalkO q loose XP YP l.row.toRowW d [] (fun f vs => PySem.call f vs) := by
  refine Att.attach_callB hn hdf ?_
  intro w s₀ s₁ mg mb fa o pm cd doc a vs ns G Y ho hd hcd hmg hobj hints hlen hbits hg
  have KX := hY w _ Y
  obtain ⟨fd, hb, hF⟩ := F w mg fa _ KX G.T.g hmg
  exact law_goes KX G.T.g G.T.b G.T.builtins G.T.nolimit hg hobj hints (Nat.le_trans hlen hn2) hr hF hb fun H hO hS => hsp w H a ns hlen hbits hO hS
end FA

/-! FA3: data in the heap (with dicts), what repr tells of it. -/
namespace FA
open PySem PySem.Spec PyProof.Rows L2
def keyD : Key → PyData
  | .inl i => .int i
  | .inr x => .str x
mutual
/-- the value v stands for the datum d -/
inductive Dt (K : PySem.W.Frag) (H : Hp) : V → PyData → Prop
  | non : Dt K H .non .none
  | bl (b : Bool) : Dt K H (.bl b) (.bool b)
  | int (i : Int) : Dt K H (.int i) (.int i)
  | str (x : Str) : Dt K H (.str x) (.str x)
  | lst {a : Addr} {xs : List V} {ds : List PyData} : Rd H a (.lst xs) → DtAll K H xs ds → Dt K H (.ref a) (.list ds)
  | tup {a : Addr} {xs : List V} {ds : List PyData} : SqT K H a xs → DtAll K H xs ds → Dt K H (.ref a) (.tuple ds)
  | dK {a : Addr} {kvs : List (Key × V)} {ds : List PyData} : Rd H a (.dK kvs) → DtAll K H (kvs.map (·.2)) ds → Dt K H (.ref a) (.dict ((kvs.map fun p => keyD p.1).zip ds))
  | dT {a : Addr} {kvs : List (List Key × V)} {ds : List PyData} : H a = some (.dT kvs) → DtAll K H (kvs.map (·.2)) ds → Dt K H (.ref a) (.dict ((kvs.map fun p => PyData.tuple (p.1.map keyD)).zip ds))
inductive DtAll (K : PySem.W.Frag) (H : Hp) : List V → List PyData → Prop
  | nil : DtAll K H [] []
  | cons {v : V} {vs : List V} {d : PyData} {ds : List PyData} : Dt K H v d → DtAll K H vs ds → DtAll K H (v :: vs) (d :: ds)
end
theorem Same.rd {H H' : Hp} (e : Same H H') {a : Addr} {u : HO} (h : Rd H a u) : Rd H' a u := by
  rcases h with h | ⟨o, h⟩
  · exact .inl (e _ _ h)
  · exact .inr ⟨o, e _ _ h⟩
theorem Same.sqT {K : PySem.W.Frag} {H H' : Hp} (e : Same H H') {a : Addr} {xs : List V} (h : SqT K H a xs) : SqT K H' a xs := by
  rcases h with h | h
  · exact .inl (Same.rd e h)
  · exact .inr h
mutual
theorem Dt.keep {K : PySem.W.Frag} {H H' : Hp} (e : Same H H') {v : V} {d : PyData} : Dt K H v d → Dt K H' v d
  | .non => .non
  | .bl b => .bl b
  | .int i => .int i
  | .str x => .str x
  | .lst r k => .lst (Same.rd e r) (DtAll.keep e k)
  | .tup r k => .tup (Same.sqT e r) (DtAll.keep e k)
  | .dK r k => .dK (Same.rd e r) (DtAll.keep e k)
  | .dT r k => .dT (e _ _ r) (DtAll.keep e k)
theorem DtAll.keep {K : PySem.W.Frag} {H H' : Hp} (e : Same H H') {vs : List V} {ds : List PyData} : DtAll K H vs ds → DtAll K H' vs ds
  | .nil => .nil
  | .cons a b => .cons (Dt.keep e a) (DtAll.keep e b)
end
theorem DtAll.len {K : PySem.W.Frag} {H : Hp} {vs : List V} {ds : List PyData} : DtAll K H vs ds → vs.length = ds.length
  | .nil => rfl
  | .cons _ b => by rw [List.length_cons, List.length_cons, DtAll.len b]
theorem readsKeys {h : Heap} : ∀ {ks : List Key} {us : List Value}, Paired (fun k u => keyIs k u = true) ks us → ReadsAll h us (ks.map keyD) []
  | _, _, .nil => .nil
  | _, _, .cons r t => by
    have ih := readsKeys (h := h) t
    rcases keyIs_shape r with ⟨i, t, rfl, rfl⟩ | ⟨x, t, rfl, rfl⟩
    · exact ReadsAll.cons (as := []) (.int i t) ih
    · exact ReadsAll.cons (as := []) (.str x t) ih
theorem readsPairs {P : Program} {w : World} {h : Heap} : ∀ {es : List DictEntry} {vs : List (Key × Value)}, Pairs (mixKind P w) es vs → ReadsAll h (es.map (·.key)) (vs.map fun p => keyD p.1) [] ∧ es.map (·.val) = vs.map (·.2)
  | _, _, .nil => ⟨.nil, rfl⟩
  | _, _, .cons r e t => by
    obtain ⟨i1, i2⟩ := readsPairs (h := h) t
    refine ⟨?_, by rw [List.map_cons, List.map_cons, e, i2]⟩
    rcases keyIs_shape r with ⟨i, t, e1, e2⟩ | ⟨x, t, e1, e2⟩
    · rw [List.map_cons, List.map_cons, e1, e2]
      exact ReadsAll.cons (as := []) (.int i t) i1
    · rw [List.map_cons, List.map_cons, e1, e2]
      exact ReadsAll.cons (as := []) (.str x t) i1
theorem kv_split : ∀ {kvs : List (Key × V)} {vs : List (Key × Value)}, KV kvs vs → kvs.map (fun p => keyD p.1) = vs.map (fun p => keyD p.1) ∧ Vals (kvs.map (·.2)) (vs.map (·.2))
  | _, _, .nil => ⟨rfl, .nil⟩
  | _, _, .cons r t => by
    obtain ⟨i1, i2⟩ := kv_split t
    exact ⟨by rw [List.map_cons, List.map_cons, r.1, i1], .cons r.2 i2⟩
theorem readsTup {h : Heap} {P : Program} {w : World} : ∀ {H : Hp} {kvs : List (List Key × V)} {xs : List (List Key × Addr × Value)}, HOk P w H h → KT H kvs xs →
    ReadsAll h (xs.map fun q => Value.ref q.2.1) (kvs.map fun p => PyData.tuple (p.1.map keyD)) [] ∧ Vals (kvs.map (·.2)) (xs.map fun q => q.2.2)
  | _, _, _, _, .nil => ⟨.nil, .nil⟩
  | H, _, _, ok, .cons (a := p) (b := q) r t => by
    obtain ⟨i1, i2⟩ := readsTup ok t
    refine ⟨?_, .cons r.2.2 i2⟩
    obtain ⟨_, its, rv, o, ho, hc, n, hd⟩ := (show ObjOk P w H h q.2.1 (.tup (p.1.map kV)) from ok _ _ r.2.1)
    have key : ∀ (ks : List Key) (us : List Value), Vals (ks.map kV) us → ReadsAll h us (ks.map keyD) [] := by
      intro ks
      induction ks with
      | nil =>
        intro us v
        cases v
        exact .nil
      | cons k ks ih =>
        intro us v
        cases v with
        | cons r1 r2 =>
          cases k with
          | inl i =>
            obtain ⟨t, rfl⟩ := r1
            exact ReadsAll.cons (as := []) (.int i t) (ih _ r2)
          | inr x =>
            obtain ⟨t, rfl⟩ := r1
            exact ReadsAll.cons (as := []) (.str x t) (ih _ r2)
    exact ReadsAll.cons (as := []) (Reads.tuple ho hc hd (key _ _ rv)) i1
theorem zip_fst {α β : Type} : ∀ {l : List α} {m : List β}, l.length = m.length → (l.zip m).map (·.1) = l
  | [], [], _ => rfl
  | a :: l, b :: m, h => by
    have ih := zip_fst (l := l) (m := m) (by simpa using h)
    show a :: ((l.zip m).map (·.1)) = a :: l
    rw [ih]
theorem zip_snd {α β : Type} : ∀ {l : List α} {m : List β}, l.length = m.length → (l.zip m).map (·.2) = m
  | [], [], _ => rfl
  | a :: l, b :: m, h => by
    have ih := zip_snd (l := l) (m := m) (by simpa using h)
    show b :: ((l.zip m).map (·.2)) = b :: m
    rw [ih]
section
variable {X : Cx} {pins : List (Addr × Obj)} {σ : L2.St} {H : Hp} {s : Shared}
theorem Rd.some {a : Addr} {u : HO} (h : Rd H a u) : H a ≠ none := by
  rcases h with h | ⟨o, h⟩ <;> rw [h] <;> simp
mutual
theorem Dt.reads (I : Inv X pins σ H s) {v : V} {d : PyData} : Dt X.K H v d → ∀ {u : Value}, RelV v u → ∃ as, Reads s.heap u d as ∧ ∀ a ∈ as, H a ≠ none
  | .non, u, r => by
    cases r
    exact ⟨_, .none, by simp⟩
  | .bl b, u, r => by
    cases r
    exact ⟨_, .bool b, by simp⟩
  | .int i, u, r => by
    obtain ⟨t, rfl⟩ := r
    exact ⟨_, .int i t, by simp⟩
  | .str x, u, r => by
    obtain ⟨t, rfl⟩ := r
    exact ⟨_, .str x t, by simp⟩
  | .lst (a := a) (xs := xs) h k, u, r => by
    cases r
    obtain ⟨its, rv, ⟨o, n, ho, hc, _, hd⟩, _⟩ := I.list (.inl h)
    obtain ⟨as, r1, r2⟩ := DtAll.reads I k rv
    refine ⟨_, .list ho hc hd r1, fun b hb => ?_⟩
    rcases List.mem_cons.mp hb with rfl | hb
    · exact Rd.some h
    · exact r2 b hb
  | .tup (a := a) (xs := xs) h k, u, r => by
    cases r
    obtain ⟨its, rv, ⟨o, ho, hc, n, hd⟩, _⟩ := I.tuple h
    obtain ⟨as, r1, r2⟩ := DtAll.reads I k rv
    exact ⟨_, .tuple ho hc hd r1, r2⟩
  | .dK (a := a) (kvs := kvs) (ds := ds) h k, u, r => by
    cases r
    obtain ⟨_, _, vs, kv, o, es, ep, ho, hx, hd, _, hp, _⟩ := dk_rd I.hok h
    obtain ⟨e1, e2⟩ := kv_split kv
    obtain ⟨as, r1, r2⟩ := DtAll.reads I k e2
    obtain ⟨k1, k2⟩ := readsPairs (h := s.heap) hp
    have hl : (kvs.map fun p => keyD p.1).length = ds.length := by
      rw [List.length_map, ← k.len, List.length_map]
    refine ⟨_, .dict (as := []) (bs := as) ho hx.1 hd ?_ ?_, fun b hb => ?_⟩
    · rw [zip_fst hl, e1]
      exact k1
    · rw [zip_snd hl, k2]
      exact r1
    · rcases List.mem_cons.mp hb with rfl | hb
      · exact Rd.some h
      · exact r2 b (by simpa using hb)
  | .dT (a := a) (kvs := kvs) (ds := ds) h k, u, r => by
    cases r
    obtain ⟨_, _, xs, kv, o, es, ep, ho, hx, hd, he, _⟩ := dt_rd I.hok (.inl h)
    obtain ⟨e1, e2⟩ := readsTup (h := s.heap) I.hok kv
    obtain ⟨as, r1, r2⟩ := DtAll.reads I k e2
    have hl : (kvs.map fun p => PyData.tuple (p.1.map keyD)).length = ds.length := by
      rw [List.length_map, ← k.len, List.length_map]
    refine ⟨_, .dict (as := []) (bs := as) ho hx.1 hd ?_ ?_, fun b hb => ?_⟩
    · rw [zip_fst hl, he, List.map_map]
      exact e1
    · rw [zip_snd hl, he, List.map_map]
      exact r1
    · rcases List.mem_cons.mp hb with rfl | hb
      · rw [h]
        simp
      · exact r2 b (by simpa using hb)
theorem DtAll.reads (I : Inv X pins σ H s) {vs : List V} {ds : List PyData} : DtAll X.K H vs ds → ∀ {us : List Value}, Vals vs us → ∃ as, ReadsAll s.heap us ds as ∧ ∀ a ∈ as, H a ≠ none
  | .nil, us, r => by
    cases r
    exact ⟨_, .nil, by simp⟩
  | .cons a b, us, r => by
    cases r with
    | cons r1 r2 =>
      obtain ⟨as, q1, q2⟩ := Dt.reads I a r1
      obtain ⟨bs, q3, q4⟩ := DtAll.reads I b r2
      refine ⟨_, .cons q1 q3, fun c hc => ?_⟩
      rcases List.mem_append.mp hc with hc | hc
      · exact q2 c hc
      · exact q4 c hc
end
/-- no container -/
def scal1 : PyData → Bool
  | .none | .bool _ | .int _ | .str _ => true
  | _ => false
def flatD : PyData → Bool
  | .dict kvs => kvs.all fun p => scal1 p.1 && scal1 p.2
  | _ => false
theorem reads_scal {h : Heap} {v : Value} {d : PyData} {as : List Addr} (r : Reads h v d as) (e : scal1 d = true) : as = [] := by
  cases r <;> first | rfl | cases e
theorem readsAll_scal {h : Heap} : ∀ {vs : List Value} {ds : List PyData} {as : List Addr}, ReadsAll h vs ds as → (∀ d ∈ ds, scal1 d = true) → as = []
  | _, _, _, .nil, _ => rfl
  | _, _, _, .cons a b, e => by
    rw [reads_scal a (e _ (List.mem_cons_self ..)), readsAll_scal b fun d hd => e d (List.mem_cons_of_mem _ hd)]
    rfl
/-- repr(v) -/
def rRepr (K : PySem.W.Frag) : List V → Hp → VK → Prop := fun xs H Q => ∃ v d, xs = [v] ∧ Dt K H v d ∧ d.showable = true ∧ d.shown.length ≤ sizeLine ∧ d.depth ≤ 60 ∧ (d.hasDict = true → H sysModules = none ∨ flatD d = true) ∧ Q (.str d.shown) H
theorem Dt.noSys {v : V} {d : PyData} {u : Value} {as : List Addr} (I : Inv X pins σ H s) (hd : Dt X.K H v d) (r : RelV v u) (rd : Reads s.heap u d as) (hf : flatD d = true) : sysModules ∉ as := by
  cases rd with
  | @dict a o es n kvs as bs h1 h2 h3 h4 h5 =>
    have hall : ∀ p ∈ kvs, scal1 p.1 = true ∧ scal1 p.2 = true := fun p hp => by
      have := List.all_eq_true.mp (show (kvs.all fun p => scal1 p.1 && scal1 p.2) = true from hf) p hp
      exact Bool.and_eq_true_iff.mp this
    have e1 := readsAll_scal h4 fun d hd => by
      obtain ⟨p, hp, rfl⟩ := List.mem_map.mp hd
      exact (hall p hp).1
    have e2 := readsAll_scal h5 fun d hd => by
      obtain ⟨p, hp, rfl⟩ := List.mem_map.mp hd
      exact (hall p hp).2
    rw [e1, e2]
    intro hm
    have ha : sysModules = a := by simpa using hm
    generalize hq : PyData.dict kvs = dd at hd
    cases hd with
    | dK rd k =>
      injection (show Value.ref a = Value.ref _ from r) with ea
      subst ea
      have := (dk_rd I.hok rd).2.1
      rw [← ha] at this
      exact absurd this (by decide)
    | dT rd k =>
      injection (show Value.ref a = Value.ref _ from r) with ea
      subst ea
      have := (dt_rd I.hok (.inl rd)).2.1
      rw [← ha] at this
      exact absurd this (by decide)
    | _ => cases hq
  | _ => cases hf
theorem call_repr (hG : X.A.guards = some []) (hu : X.A.units + 64 < cLine) : CallR X (.builtin "repr") (rRepr X.K) := by
  intro pins s σ H xs us Q I r h
  obtain ⟨v, d, rfl, hd, hs, hz, hp, hm, q⟩ := h
  cases r with
  | cons r1 r2 =>
    cases r2
    obtain ⟨as, rd, ha⟩ := Dt.reads I hd r1
    have hsm : d.hasDict = true → sysModules ∉ as := fun e => by
      rcases hm e with z | z
      · exact fun y => ha _ y z
      · exact Dt.noSys I hd r1 rd z
    cases rd with
    | none => exact P.repr_of_none ⟨.str _, H, I.tok _, ⟨_, rfl⟩, q⟩
    | bool b => exact P.repr_of_bool ⟨.str _, H, I.tok _, ⟨_, rfl⟩, q⟩
    | int i t => exact P.repr_of_int (by simpa [PyData.showable] using hs) ⟨.str _, H, I.tok _, ⟨_, rfl⟩, q⟩
    | str x t => exact P.repr_of_str ⟨.str _, H, I.tok _, ⟨_, rfl⟩, q⟩ hz
    | list h1 h2 h3 h4 => exact repr_of_reads' (.list h1 h2 h3 h4) hs hsm hG (by omega) (fun _ _ e => e) (fun h' u tk hk => ⟨.str _, H, I.kept (t' := tk) hk, ⟨_, rfl⟩, q⟩) hz
    | tuple h1 h2 h3 h4 => exact repr_of_reads' (.tuple h1 h2 h3 h4) hs hsm hG (by omega) (fun _ _ e => e) (fun h' u tk hk => ⟨.str _, H, I.kept (t' := tk) hk, ⟨_, rfl⟩, q⟩) hz
    | dict h1 h2 h3 h4 h5 => exact repr_of_reads' (.dict h1 h2 h3 h4 h5) hs hsm hG (by omega) (fun _ _ e => e) (fun h' u tk hk => ⟨.str _, H, I.kept (t' := tk) hk, ⟨_, rfl⟩, q⟩) hz
end
end FA

/-! FA4: further rules: xs[i] op= e, text * n; the bag of a law. -/
namespace FA
open PySem PySem.Spec PyProof.Rows L2
section
variable {X : Cx}
/-- xs[i], by values -/
theorem get_list : PGet X (fun o i H Q => ∃ p xs j v, o = .ref p ∧ i = .int j ∧ 0 ≤ j ∧ SqL X.K H p xs ∧ xs[j.toNat]? = some v ∧ Q v H) := by
  intro pins s σ H o i ov iv Q I ro ri h
  obtain ⟨p, xs, j, v, rfl, rfl, hj, hq, hv, q⟩ := h
  cases ro
  obtain ⟨t, rfl⟩ := ri
  obtain ⟨its, r, pl, hz⟩ := I.list hq
  obtain ⟨w, ew, rw'⟩ := r.get hv
  have hl := r.length
  have hlt : j.toNat < its.length := (List.getElem?_eq_some_iff.mp ew).1
  have hn := line63
  exact getItem_listL pl.isList hj (by omega) ew ⟨v, H, I, rw', q⟩
end
/-- the names of built-ins that the text leaves alone -/
structure Blt (mg : Str → Option Value) : Prop where
  len : mg "len" = none
  int : mg "int" = none
  abs : mg "abs" = none
  range : mg "range" = none
  repr : mg "repr" = none
  isinstance : mg "isinstance" = none
  str : mg "str" = none
  bool : mg "bool" = none
  all : mg "all" = none
/-! ### the bag -/
structure BagAt (H : Hp) (b c : Addr) : Prop where
  ex : ∃ (n0 n1 n2 : Int) (cells : List Int), H b = some (.lst [.int n0, .int n1, .int n2, .ref c]) ∧ H c = some (.lst (cells.map V.int)) ∧ 0 ≤ n0 ∧ 0 ≤ n1 ∧ n1 < 2147483647 ∧ 0 ≤ n2 ∧ cells.length ≤ 63 ∧ ∀ z ∈ cells, 0 ≤ z
/-- all but b is as it was -/
def But (b : Addr) (H H' : Hp) : Prop := ∀ a, a ≠ b → H' a = H a
theorem But.refl {b : Addr} {H : Hp} : But b H H := fun _ _ => rfl
theorem But.trans {b : Addr} {H H1 H2 : Hp} (h : But b H H1) (k : But b H1 H2) : But b H H2 := fun a n => (k a n).trans (h a n)
theorem But.upd {b : Addr} {H : Hp} {o : HO} : But b H (upd H b o) := fun _ n => upd_ne n
def spTake : Sp := fun vs H Q _ => ∃ (b c : Addr) (m : Int), vs = [.ref b, .int m] ∧ BagAt H b c ∧ 0 < m ∧ m.natAbs.log2 < 9000 ∧
  ∀ (r : Int) (H' : Hp), 0 ≤ r → r < m → BagAt H' b c → But b H H' → Q (.int r) H'
end FA

/-! FA5: types of data; small words for readings. -/
namespace FA
open PySem PySem.Spec PyProof.Rows L2
/-- the type's name -/
def tn : PyData → String
  | .none => "NoneType"
  | .bool _ => "bool"
  | .int _ => "int"
  | .str _ => "str"
  | .list _ => "list"
  | .tuple _ => "tuple"
  | .dict _ => "dict"
theorem Dt.ty {K : PySem.W.Frag} {H : Hp} {v : V} {d : PyData} (h : Dt K H v d) : TyX K H v (.type (tn d)) := by
  cases h with
  | non => exact .base .non
  | bl b => exact .base (.bl b)
  | int i => exact .base (.int i)
  | str x => exact .base (.str x)
  | lst r k =>
    rcases r with r | ⟨o, r⟩
    · exact .base (.lst r)
    · exact .base (.frz r)
  | tup r k =>
    rcases r with (r | ⟨o, r⟩) | ⟨o, its, n, e, c, _⟩
    · exact .base (.tup r)
    · exact .fTuple r
    · exact .kTuple e c
  | dK r k =>
    rcases r with r | ⟨o, r⟩
    · exact .base (.dK r)
    · exact .fDict r
  | dT r k => exact .base (.dT r)
/-- isinstance(v, T), T a built-in type -/
theorem isi_go {K : PySem.W.Frag} {H : Hp} {v : V} {d : PyData} {T : String} {b : Bool} {Q : VK} (h : Dt K H v d) (hk : kitB (tn d) T = some b) (q : Q (.bl b) H) : rIsi K [v, .ty T] H Q :=
  ⟨v, .ty T, .type (tn d), .type T, b, rfl, .ty T, h.ty, kit_ty hk, q⟩
def isInt : PyData → Bool
  | .int _ => true
  | _ => false
def isBl : PyData → Bool
  | .bool _ => true
  | _ => false
def isTxt : PyData → Bool
  | .str _ => true
  | _ => false
def isLst : PyData → Bool
  | .list _ => true
  | _ => false
def isTup : PyData → Bool
  | .tuple _ => true
  | _ => false
def isDct : PyData → Bool
  | .dict _ => true
  | _ => false
theorem kit_int (d : PyData) : kitB (tn d) "int" = some (isInt d || isBl d) := by
  cases d <;> (first | decide +kernel | rfl)
theorem kit_bool (d : PyData) : kitB (tn d) "bool" = some (isBl d) := by
  cases d <;> (first | decide +kernel | rfl)
theorem kit_str (d : PyData) : kitB (tn d) "str" = some (isTxt d) := by
  cases d <;> (first | decide +kernel | rfl)
theorem kit_list (d : PyData) : kitB (tn d) "list" = some (isLst d) := by
  cases d <;> (first | decide +kernel | rfl)
theorem kit_tuple (d : PyData) : kitB (tn d) "tuple" = some (isTup d) := by
  cases d <;> (first | decide +kernel | rfl)
theorem kit_dict (d : PyData) : kitB (tn d) "dict" = some (isDct d) := by
  cases d <;> (first | decide +kernel | rfl)
theorem Dt.txt {K : PySem.W.Frag} {H : Hp} {v : V} {d : PyData} (h : Dt K H v d) (e : isTxt d = true) : ∃ x, v = .str x ∧ d = .str x := by
  cases h <;> first | exact ⟨_, rfl, rfl⟩ | (cases e)
/-! ### names -/
def letters : Str := "abcdefghijklmnopqrstuvwxyz"
def isNm (x : Str) : Bool := decide (1 ≤ x.length) && decide (x.length ≤ 8) && x.cps.toList.all fun c => decide (c ∈ letters.cps.toList)
def isName : PyData → Bool
  | .str x => isNm x
  | _ => false
/-- texts are not over long -/
def fitD : PyData → Prop
  | .str x => x.length ≤ 100000
  | _ => True
def spPred (K : PySem.W.Frag) (f : PyData → Bool) : Sp := fun vs H Q _ => ∃ v d, vs = [v] ∧ Dt K H v d ∧ fitD d ∧ ∀ H', Same H H' → Q (.bl (f d)) H'
theorem same_new {H : Hp} {p : Addr} {o : HO} (h : H p = none) : Same H (upd H p o) := fun b x e => by
  rw [upd_ne (ne_of_none e h)]
  exact e
theorem sz5 {n : Nat} (h : n ≤ 100000) : n ≤ sizeLine := Nat.le_trans h (by decide)
theorem sz5' {n : Nat} (h : n < 100000) : n < sizeLine := Nat.lt_of_lt_of_le h (by decide)
theorem map_take_succ {α β : Type} {f : α → β} {l : List α} {i : Nat} {x : α} (h : l[i]? = some x) : (l.take (i + 1)).map f = (l.take i).map f ++ [f x] := by
  rw [List.take_add_one, h, List.map_append]
  rfl
theorem list_of_cps {z : Str} {i c : Nat} (h : z.cps[i]? = some c) : z.cps.toList[i]? = some c := by
  rw [Array.getElem?_toList]
  exact h
end FA
namespace FA
open PySem PySem.Spec PyProof.Rows L2
theorem ifT {c : Bool} {A B : Prop} (hc : c = true) (h : A) : if c = true then A else B := by
  rw [if_pos hc]
  exact h
theorem ifF {c : Bool} {A B : Prop} (hc : c = false) (h : B) : if c = true then A else B := by
  rw [hc, if_neg Bool.false_ne_true]
  exact h
theorem ifB {c : Bool} {A B : Prop} (h1 : c = true → A) (h2 : c = false → B) : if c = true then A else B := by
  cases c with
  | true => exact ifT rfl (h1 rfl)
  | false => exact ifF rfl (h2 rfl)
end FA
namespace FA
open PySem PySem.Spec PyProof.Rows L2
/-- the def of the name x keeps sp -/
def Cl (P : Program) (w : World) (K : PySem.W.Frag) (mg : Str → Option Value) (base : Heap) (k : Nat) (x : Str) (ps : List Str) (sp : Sp) : Prop :=
  ∃ f fd, FnG P w K mg base CX0 k f fd ps sp ∧ mg x = some (.ref f) ∧ PySem.W.keepIn K (.ref f) = true ∧ Binds K fd ps []
theorem pe_cl {X : Cx} {k : Nat} {x : Str} {ps : List Str} {sp : Sp} {p pos : Pos} {e : Expr} {es : List Expr} {t : TA} (C : Cl X.prog X.w X.K X.mg X.base k x ps sp) (hr : Room k X.A) (hG : X.A.guards = some []) (ha : PA X (e :: es) t) (hg : Gl X x := by rfl)
    (hdb : (x == ("__debug__" : Str)) = false := by decide) (he : starEach (e :: es) X.env = (false, eval e X.env) :: starEach es X.env := by rfl) (hpl : (backTo pos (starEach es X.env)).any (·.1) = false := by rfl) :
    PE X (.Call (.Name x p) (e :: es) [] pos) (tCall sp [] E0 t) := by
  obtain ⟨f, fd, F, hm, hk, hb⟩ := C
  exact pe_callG F hr hG hg hm hk hb .nil pass0 ha hdb he hpl
/-- two values of one datum are alike -/
def spAlike (K : PySem.W.Frag) : Sp := fun vs H Q _ => ∃ v u d, vs = [v, u] ∧ Dt K H v d ∧ Dt K H u d ∧ d.showable = true ∧ d.shown.length ≤ sizeLine ∧ d.depth ≤ 30 ∧ SeqAt.shaped d = true ∧ d.hasDict = false ∧ Q (.bl true) H
mutual
/-- without dicts, Dt is Dp -/
theorem Dt.dp {K : PySem.W.Frag} {H : Hp} {v : V} {d : PyData} : Dt K H v d → d.hasDict = false → Dp K H v d
  | .non, _ => .non
  | .bl b, _ => .bl b
  | .int i, _ => .int i
  | .str x, _ => .str x
  | .lst r k, h => .lst (.inl r) (DtAll.dp k (by simpa [PyData.hasDict] using h))
  | .tup r k, h => .tup r (DtAll.dp k (by simpa [PyData.hasDict] using h))
  | .dK r k, h => by simp [PyData.hasDict] at h
  | .dT r k, h => by simp [PyData.hasDict] at h
theorem DtAll.dp {K : PySem.W.Frag} {H : Hp} {vs : List V} {ds : List PyData} : DtAll K H vs ds → PyData.hasDictAll ds = false → DpAll K H vs ds
  | .nil, _ => .nil
  | .cons a b, h => by
    simp only [PyData.hasDictAll, Bool.or_eq_false_iff] at h
    exact .cons (Dt.dp a h.1) (DtAll.dp b h.2)
end
end FA

/-! FA6: == and != of data without dicts. -/
namespace FA
open PySem PySem.Spec PyProof.Rows L2
section
variable {X : Cx}
def rEqP (K : PySem.W.Frag) : R2 := fun x y H Q => ∃ d e, Dt K H x d ∧ Dt K H y e ∧ d.plain = true ∧ e.plain = true ∧ d.depth ≤ 60 ∧ Q (.bl (PyData.eqv d e)) H
def rNeP (K : PySem.W.Frag) : R2 := fun x y H Q => ∃ d e, Dt K H x d ∧ Dt K H y e ∧ d.plain = true ∧ e.plain = true ∧ d.depth ≤ 60 ∧ Q (.bl (!PyData.eqv d e)) H
theorem op_eqP (hu : X.A.units + 64 < cLine) : OpR X (compareOp .Eq) (rEqP X.K) := by
  intro pins s σ H x y v u Q I rx ry h
  obtain ⟨d, e, hd, he, pd, pe, dd, q⟩ := h
  obtain ⟨as, r1, _⟩ := Dt.reads I hd rx
  obtain ⟨bs, r2, _⟩ := Dt.reads I he ry
  exact SeqAt.eq_plain r1 r2 pd pe (by have := Nat.min_le_left d.depth e.depth; omega) ⟨.bl _, H, I, rfl, q⟩
theorem op_neP (hu : X.A.units + 64 < cLine) : OpR X (compareOp .NotEq) (rNeP X.K) := by
  intro pins s σ H x y v u Q I rx ry h
  obtain ⟨d, e, hd, he, pd, pe, dd, q⟩ := h
  obtain ⟨as, r1, _⟩ := Dt.reads I hd rx
  obtain ⟨bs, r2, _⟩ := Dt.reads I he ry
  exact SeqAt.ne_plain r1 r2 pd pe (by have := Nat.min_le_left d.depth e.depth; omega) ⟨.bl _, H, I, rfl, q⟩
end
theorem dt_strs {K : PySem.W.Frag} {H : Hp} : ∀ l : List Str, DtAll K H (l.map V.str) (l.map PyData.str)
  | [] => .nil
  | x :: l => .cons (.str x) (dt_strs l)
theorem plain_strs : ∀ l : List Str, PyData.plainAll (l.map PyData.str) = true
  | [] => rfl
  | _ :: l => by
    show (true && PyData.plainAll (l.map PyData.str)) = true
    rw [plain_strs l]
    rfl
theorem inV_strs (x : Str) : ∀ l : List Str, inV (.str x) (l.map V.str) = decide (x ∈ l)
  | [] => rfl
  | y :: l => by
    have ih := inV_strs x l
    show ((y == x) || inV (.str x) (l.map V.str)) = decide (x ∈ y :: l)
    rw [ih, Bool.eq_iff_iff, Bool.or_eq_true, beq_iff_eq, decide_eq_true_iff, decide_eq_true_iff, List.mem_cons]
    exact ⟨fun h => h.elim (fun e => .inl e.symm) .inr, fun h => h.elim (fun e => .inl e.symm) .inr⟩
theorem depth_strs : ∀ l : List Str, PyData.depthAll (l.map PyData.str) = 0
  | [] => rfl
  | x :: l => by
    have ih := depth_strs l
    simp [PyData.depthAll, PyData.depth, ih]
end FA

/-! FA7: names drawn by a law: the plain part. -/
namespace FA
open PySem PySem.Spec PyProof.Rows L2
/-- the text of codes -/
def txL (l : List Nat) : Str := ⟨l.toArray⟩
theorem txL_cps (l : List Nat) : (txL l).cps.toList = l := rfl
theorem txL_len (l : List Nat) : (txL l).length = l.length := by show l.toArray.size = l.length; simp
theorem txL_inj {l m : List Nat} (h : txL l = txL m) : l = m := by
  have := congrArg (fun z : Str => z.cps.toList) h
  exact this
theorem txL_of (z : Str) : z = txL z.cps.toList := by cases z; rfl
theorem txL_app (l m : List Nat) : txL l ++ txL m = txL (l ++ m) := by
  show (⟨l.toArray ++ m.toArray⟩ : Str) = ⟨(l ++ m).toArray⟩
  simp
theorem letters_eq : letters.cps.toList = (List.range 26).map (97 + ·) := by decide +kernel
theorem mem_letters {c : Nat} : c ∈ letters.cps.toList ↔ 97 ≤ c ∧ c ≤ 122 := by
  rw [letters_eq, List.mem_map]
  constructor
  · rintro ⟨i, hi, rfl⟩
    have := List.mem_range.mp hi
    omega
  · intro h
    exact ⟨c - 97, List.mem_range.mpr (by omega), by omega⟩
theorem letter_at {i : Int} (h0 : 0 ≤ i) (h1 : i < 26) : atI letters.cps.toList i = some (97 + i.toNat) := by
  have e : letters.cps.toList[i.toNat]? = some (97 + i.toNat) := by
    rw [letters_eq, List.getElem?_map, List.getElem?_range (by omega)]
    rfl
  have := atI_nat e
  rwa [Int.toNat_of_nonneg h0] at this
theorem isNm_tx {l : List Nat} : isNm (txL l) = true ↔ 1 ≤ l.length ∧ l.length ≤ 8 ∧ ∀ c ∈ l, 97 ≤ c ∧ c ≤ 122 := by
  unfold isNm
  rw [Bool.and_eq_true, Bool.and_eq_true, decide_eq_true_iff, decide_eq_true_iff, List.all_eq_true, txL_len, txL_cps]
  constructor
  · rintro ⟨⟨a, b⟩, h⟩
    exact ⟨a, b, fun c hc => mem_letters.mp (of_decide_eq_true (h c hc))⟩
  · rintro ⟨a, b, h⟩
    exact ⟨⟨a, b⟩, fun c hc => decide_eq_true (mem_letters.mpr (h c hc))⟩
/-- m different names -/
structure Names (m : Nat) (ys : List Str) : Prop where
  len : ys.length = m
  nm : ∀ y ∈ ys, isNm y = true
  nd : ys.Nodup
def words : List Str := Txt.split ("set most least call skip run part steps first names params results places plain high" ++ " low proc wide endless never a b ab ba z") " "
theorem words_len : words.length = 25 := by decide +kernel
theorem words_nm : ∀ y ∈ words, isNm y = true := by decide +kernel
theorem words_nd : words.Nodup := by decide +kernel
theorem names_words {t m : Nat} (ht : t ≤ 25) (hm : m ≤ 8) : Names m ((words.drop t ++ words.take t).take m) := by
  have hp : (words.drop t ++ words.take t).Perm words := List.perm_append_comm.trans (by rw [List.take_append_drop])
  refine ⟨?_, fun y hy => words_nm y (hp.subset (List.mem_of_mem_take hy)), ((hp.nodup_iff).mpr words_nd).sublist (List.take_sublist _ _)⟩
  rw [List.length_take, hp.length_eq, words_len]
  omega
/-- the k-th letter -/
def lt (t k : Nat) : Nat := 97 + (t + 3 * k) % 26
theorem lt_ok (t k : Nat) : 97 ≤ lt t k ∧ lt t k ≤ 122 := by unfold lt; omega
theorem lt_inj {t j k : Nat} (hj : j < 8) (hk : k < 8) (h : lt t j = lt t k) : j = k := by unfold lt at h; omega
theorem nodup_range_map {α : Type} {m : Nat} {f : Nat → α} (h : ∀ i j, i < m → j < m → f i = f j → i = j) : ((List.range m).map f).Nodup := by
  rw [List.Nodup, List.pairwise_map]
  refine List.Pairwise.imp_of_mem ?_ (List.nodup_range (n := m))
  intro x y hx hy ne e
  exact ne (h x y (List.mem_range.mp hx) (List.mem_range.mp hy) e)
theorem names_one {t m : Nat} (hm : m ≤ 8) : Names m ((List.range m).map fun k => txL [lt t k]) := by
  refine ⟨by simp, fun y hy => ?_, nodup_range_map fun i j hi hj e => ?_⟩
  · obtain ⟨k, _, rfl⟩ := List.mem_map.mp hy
    refine isNm_tx.mpr ⟨by simp, by simp, fun c hc => ?_⟩
    obtain rfl := List.mem_singleton.mp hc
    exact lt_ok t k
  · have := txL_inj e
    injection this with e
    exact lt_inj (by omega) (by omega) e
theorem names_put {b : List Nat} {a t m : Nat} (hb : 1 ≤ b.length ∧ b.length ≤ 7) (hc : ∀ c ∈ b, 97 ≤ c ∧ c ≤ 122) (hm : m ≤ 8) : Names m ((List.range m).map fun k => txL (b.take a ++ [lt t k] ++ b.drop a)) := by
  refine ⟨by simp, fun y hy => ?_, nodup_range_map fun i j hi hj e => ?_⟩
  · obtain ⟨k, _, rfl⟩ := List.mem_map.mp hy
    have hl : (b.take a ++ [lt t k] ++ b.drop a).length = b.length + 1 := by
      have := congrArg List.length (List.take_append_drop a b)
      rw [List.length_append] at this
      rw [List.length_append, List.length_append, List.length_singleton]
      omega
    refine isNm_tx.mpr ⟨by omega, by omega, fun c h => ?_⟩
    rcases List.mem_append.mp h with h | h
    · rcases List.mem_append.mp h with h | h
      · exact hc c (List.mem_of_mem_take h)
      · obtain rfl := List.mem_singleton.mp h
        exact lt_ok t k
    · exact hc c (List.mem_of_mem_drop h)
  · have h := txL_inj e
    rw [List.append_assoc, List.append_assoc] at h
    have h2 := List.append_cancel_left h
    injection h2 with e
    exact lt_inj (by omega) (by omega) e
theorem cutS_to {l : List Nat} {a : Nat} (h : a ≤ l.length) : cutS (txL l) none (some (a : Int)) = txL (l.take a) := by
  unfold cutS
  rw [HT.sIx_nat, HT.sIx_none, txL_len, txL_cps]
  show (⟨(List.take (min a l.length - 0) (l.drop 0)).toArray⟩ : Str) = txL (l.take a)
  rw [Nat.min_eq_left h]
  rfl
theorem cutS_from {l : List Nat} {a : Nat} (h : a ≤ l.length) : cutS (txL l) (some (a : Int)) none = txL (l.drop a) := by
  unfold cutS
  rw [HT.sIx_nat, HT.sIx_none, txL_len, txL_cps, Nat.min_eq_left h]
  show (⟨(List.take (l.length - a) (l.drop a)).toArray⟩ : Str) = txL (l.drop a)
  rw [List.take_of_length_le (by rw [List.length_drop]; omega)]
  rfl
theorem cutV_to {xs : List V} {a : Nat} : cutV xs none (some (a : Int)) = xs.take a := by
  unfold cutV
  rw [HT.sIx_nat, HT.sIx_none]
  show List.take (min a xs.length - 0) (xs.drop 0) = xs.take a
  rw [Nat.sub_zero, List.drop_zero]
  rcases Nat.le_total a xs.length with h | h
  · rw [Nat.min_eq_left h]
  · rw [Nat.min_eq_right h, List.take_of_length_le (Nat.le_refl _), List.take_of_length_le h]
theorem cutV_from {xs : List V} {a : Nat} (h : a ≤ xs.length) : cutV xs (some (a : Int)) none = xs.drop a := by
  unfold cutV
  rw [HT.sIx_nat, HT.sIx_none, Nat.min_eq_left h]
  rw [List.take_of_length_le (by rw [List.length_drop]; omega)]
/-- text by text, joined by nothing -/
theorem join_nil : ∀ (ls : List (List Nat)), Txt.join "" (ls.map txL) = txL ls.flatten := by
  intro ls
  rw [TL.join_eq]
  have key : ∀ ps : List (List Nat), TL.joinL [] ps = ps.flatten := by
    intro ps
    induction ps with
    | nil => rfl
    | cons p ps ih =>
      cases ps with
      | nil =>
        show p = [p].flatten
        simp
      | cons q ps =>
        show p ++ ([] ++ TL.joinL [] (q :: ps)) = _
        rw [ih]
        simp
  have h := TL.tl_join "" (ls.map txL)
  have e : (ls.map txL).map TL.tl = ls := by
    rw [List.map_map]
    exact (List.map_congr_left fun l _ => (rfl : (TL.tl ∘ txL) l = l)).trans (List.map_id ls)
  rw [e] at h
  have h2 : TL.tl (Str.join "" (ls.map txL)) = ls.flatten := h.trans (key ls)
  rw [txL_of (Str.join "" (ls.map txL))]
  exact congrArg txL h2
end FA
namespace FA
open PySem PySem.Spec PyProof.Rows L2
/-- all that is tracked but b is as it was -/
def Sb (b : Addr) (H H' : Hp) : Prop := ∀ a o, H a = some o → a ≠ b → H' a = some o
theorem Sb.refl {b : Addr} {H : Hp} : Sb b H H := fun _ _ h _ => h
theorem Sb.trans {b : Addr} {H H1 H2 : Hp} (h : Sb b H H1) (k : Sb b H1 H2) : Sb b H H2 := fun a o e n => k a o (h a o e n) n
theorem But.sb {b : Addr} {H H' : Hp} (h : But b H H') : Sb b H H' := fun a o e n => (h a n).trans e
theorem Same.sb {b : Addr} {H H' : Hp} (h : Same H H') : Sb b H H' := fun a o e _ => h a o e
theorem Sb.new {b p : Addr} {H H' : Hp} {o : HO} (h : Sb b H H') (hp : H p = none) : Sb b H (upd H' p o) := fun a u e n => by
  rw [upd_ne (ne_of_none e hp)]
  exact h a u e n
theorem BagAt.keep {H H' : Hp} {b c : Addr} (h : BagAt H b c) (k : Same H H') : BagAt H' b c := by
  obtain ⟨n0, n1, n2, cells, hb, hc, r⟩ := h.ex
  exact ⟨n0, n1, n2, cells, k _ _ hb, k _ _ hc, r⟩
theorem BagAt.put {H : Hp} {b c p : Addr} {o : HO} (h : BagAt H b c) (hp : p ≠ b ∧ p ≠ c) : BagAt (upd H p o) b c := by
  obtain ⟨n0, n1, n2, cells, hb, hc, r⟩ := h.ex
  exact ⟨n0, n1, n2, cells, by rw [upd_ne hp.1.symm]; exact hb, by rw [upd_ne hp.2.symm]; exact hc, r⟩
theorem BagAt.neb {H : Hp} {b c p : Addr} (h : BagAt H b c) (hp : H p = none) : p ≠ b ∧ p ≠ c := by
  obtain ⟨n0, n1, n2, cells, hb, hc, r⟩ := h.ex
  exact ⟨(ne_of_none hb hp).symm, (ne_of_none hc hp).symm⟩
theorem But.none {b p : Addr} {H H' : Hp} (h : But b H H') (n : p ≠ b) (hp : H p = none) : H' p = none := (h p n).trans hp
def spNames : Sp := fun vs H Q _ => ∃ (b c : Addr) (m : Nat), vs = [.ref b, .int m] ∧ m ≤ 8 ∧ BagAt H b c ∧
  ∀ (p : Addr) (ys : List Str) (H' : Hp), Names m ys → H p = none → BagAt H' b c → Sb b H H' → H' p = some (.lst (ys.map V.str)) → Q (.ref p) H'
end FA
namespace FA
theorem flat_one : ∀ ls : List Nat, (ls.map fun z => [z]).flatten = ls
  | [] => rfl
  | z :: ls => by
    show [z] ++ (ls.map fun z => [z]).flatten = z :: ls
    rw [flat_one ls]
    rfl
theorem sum_ones : ∀ ls : List Nat, ((ls.map fun z => txL [z]).map (·.length)).sum = ls.length
  | [] => rfl
  | z :: ls => by
    have ih := sum_ones ls
    show (txL [z]).length + ((ls.map fun z => txL [z]).map (·.length)).sum = ls.length + 1
    rw [ih, txL_len]
    show 1 + ls.length = ls.length + 1
    omega
end FA

/-! FA8: one sign many times; ints of digits; the heap but the bag; odd values. -/
namespace FA
open PySem PySem.Spec PyProof.Rows L2
theorem rep_fold (c : Nat) : ∀ (n : Nat) (acc : Array Nat), ((List.replicate n #[c]).foldl (· ++ ·) acc) = acc ++ (List.replicate n c).toArray
  | 0, acc => by simp
  | n + 1, acc => by
    rw [List.replicate_succ, List.foldl_cons, rep_fold c n]
    apply Array.toList_inj.mp
    rw [Array.toList_append, Array.toList_append, Array.toList_append, List.append_assoc]
    rfl
section
variable {X : Cx}
/-- 'c' * n -/
theorem op_mul_sign : OpR X (binaryOp .Mult) (fun x y H Q => ∃ (c n : Nat), x = .str (txL [c]) ∧ y = .int n ∧ n ≤ 1000 ∧ Q (.str (txL (List.replicate n c))) H) := by
  intro pins s σ H x y v u Q I rx ry h
  obtain ⟨c, n, rfl, rfl, hn, q⟩ := h
  obtain ⟨t, rfl⟩ := rx
  obtain ⟨t', rfl⟩ := ry
  have hl : (txL [c]).length = 1 := rfl
  refine P.mul_str ?_ (fun h1 h2 => ?_) (fun h1 h2 => ?_) ?_
  · rw [decide_eq_false (by omega), decide_eq_false (by omega)]
    rfl
  · rw [hl]
    intro z
    have : (1 : Int) ≤ (2 ^ 63 - 1) / (n : Int) := by
      refine Int.le_ediv_of_mul_le (by omega) ?_
      omega
    omega
  · rw [hl]
    show decide (1 * n > sizeLine) = false
    rw [sizeLine_eq]
    exact decide_eq_false (by omega)
  · by_cases h0 : (n : Int) < 1
    · rw [if_pos h0]
      obtain rfl : n = 0 := by omega
      exact ⟨by decide, ⟨.str _, H, I.tok _, ⟨_, rfl⟩, q⟩⟩
    · rw [if_neg h0]
      by_cases h1 : ((n : Int) == 1 || (txL [c]).length == 0) = true
      · rw [if_pos h1]
        have e : n = 1 := by
          rw [hl] at h1
          simp at h1
          omega
        subst e
        exact ⟨.str _, H, I, ⟨_, rfl⟩, q⟩
      · rw [if_neg h1]
        have e : (⟨(List.replicate (n : Int).toNat (txL [c]).cps).foldl (· ++ ·) #[]⟩ : Str) = txL (List.replicate n c) := by
          show (⟨(List.replicate (n : Int).toNat #[c]).foldl (· ++ ·) #[]⟩ : Str) = _
          rw [Int.toNat_natCast, rep_fold]
          simp [txL]
        rw [e]
        refine ⟨?_, ⟨.str _, H, I.tok _, ⟨_, rfl⟩, q⟩⟩
        rw [txL_len, List.length_replicate, sizeLine_eq]
        omega
end
/-- 1 and n noughts -/
theorem int_ten : ∀ n : Nat, n < 60 → PySem.intText? (txL (49 :: List.replicate n 48)) = some ((10 : Int) ^ n) := by decide +kernel
/-! ### the heap but the bag -/
def Hb (b : Addr) (H : Hp) : Hp := fun a => if a = b then none else H a
theorem hb_ne {b a : Addr} {H : Hp} (h : a ≠ b) : Hb b H a = H a := if_neg h
theorem hb_sub {b : Addr} {H : Hp} : Same (Hb b H) H := fun a o h => by
  by_cases e : a = b
  · rw [e] at h
    have : Hb b H b = none := if_pos rfl
    rw [this] at h
    cases h
  · rw [hb_ne e] at h
    exact h
theorem Sb.same {b : Addr} {H H' : Hp} (h : Sb b H H') : Same (Hb b H) (Hb b H') := fun a o e => by
  by_cases z : a = b
  · rw [z] at e
    have : Hb b H b = none := if_pos rfl
    rw [this] at e
    cases e
  · rw [hb_ne z] at e ⊢
    exact h a o e z
theorem hb_at {b a : Addr} {H : Hp} {o : HO} (h : H a = some o) (n : a ≠ b) : Hb b H a = some o := by rw [hb_ne n]; exact h
/-! ### odd values -/
def oddMenu (x : Str) (w : Nat) : List PyData :=
  [.int 0, .int 1, .int (-1), .int ((10 : Int) ^ w), .int (-((10 : Int) ^ w)), .bool true, .bool false, .none, .str "", .str "a", .str x, .str (x ++ "z"), .str "abcdefgh"] ++
  [.str "abcdefghi", .str "A", .str "a1", .str "a b"] ++
  [.str "plain", .str "high", .str "low", .str "Plain", .list [], .tuple [], .dict [], .list [.int 1], .tuple [.int 0], .tuple [.str x], .dict [(.str x, .int 1)], .list [.str x], .tuple [.str "", .str "", .int 0]]
def spOdd (K : PySem.W.Frag) : Sp := fun vs H Q _ => ∃ (b c : Addr) (x : Str), vs = [.ref b, .str x] ∧ x.length ≤ 1000 ∧ BagAt H b c ∧
  ∀ (v : V) (d : PyData) (w : Nat) (H' : Hp), w < 40 → d ∈ oddMenu x w → Dt K (Hb b H') v d → BagAt H' b c → Sb b H H' → Q v H'
theorem DtAll.at {K : PySem.W.Frag} {H : Hp} : ∀ {vs : List V} {ds : List PyData} {i : Nat}, DtAll K H vs ds → i < ds.length → ∃ v d, vs[i]? = some v ∧ ds[i]? = some d ∧ Dt K H v d
  | _, _, _, .nil, h => absurd h (Nat.not_lt_zero _)
  | _, _, 0, .cons a _, _ => ⟨_, _, rfl, rfl, a⟩
  | _, _, i + 1, .cons _ t, h => by
    obtain ⟨v, d, h1, h2, h3⟩ := DtAll.at (i := i) t (by simpa using h)
    exact ⟨v, d, by simpa using h1, by simpa using h2, h3⟩
theorem DtAll.app {K : PySem.W.Frag} {H : Hp} : ∀ {vs us : List V} {ds es : List PyData}, DtAll K H vs ds → DtAll K H us es → DtAll K H (vs ++ us) (ds ++ es)
  | _, _, _, _, .nil, h => h
  | _, _, _, _, .cons a t, h => .cons a (DtAll.app t h)
end FA

/-! FA9: repr of data that holds dicts at any depth. -/
namespace FA
open PySem PySem.Spec PyProof.Rows L2
section
variable {X : Cx} {pins : List (Addr × Obj)} {σ : L2.St} {H : Hp} {s : Shared}
/-- what a dict of the heap is, seen from below -/
def DShape (X : Cx) (H : Hp) (s : Shared) (a : Addr) (vs : List V) (ks : List PyData) : Prop :=
  ∃ (o : Obj) (es : Array DictEntry) (n : Nat), s.heap.get? a = some o ∧ o.cls = .type "dict" ∧ o.data = .dict es n ∧ a ≠ sysModules ∧
    ReadsAll s.heap (es.toList.map (·.key)) ks [] ∧ Vals vs (es.toList.map (·.val)) ∧ ks.length = vs.length
theorem shapeK (I : Inv X pins σ H s) {a : Addr} {kvs : List (Key × V)} (h : Rd H a (.dK kvs)) : DShape X H s a (kvs.map (·.2)) (kvs.map fun p => keyD p.1) := by
  obtain ⟨_, hn, vs, kv, o, es, ep, ho, hx, hd, _, hp, _⟩ := dk_rd I.hok h
  obtain ⟨e1, e2⟩ := kv_split kv
  obtain ⟨k1, k2⟩ := readsPairs (h := s.heap) hp
  refine ⟨o, es, ep, ho, hx.1, hd, fun e => ?_, e1 ▸ k1, k2 ▸ e2, by simp⟩
  rw [e] at hn
  exact absurd hn (by decide)
theorem shapeT (I : Inv X pins σ H s) {a : Addr} {kvs : List (List Key × V)} (h : H a = some (.dT kvs)) : DShape X H s a (kvs.map (·.2)) (kvs.map fun p => PyData.tuple (p.1.map keyD)) := by
  obtain ⟨_, hn, xs, kv, o, es, ep, ho, hx, hd, he, _⟩ := dt_rd I.hok (.inl h)
  obtain ⟨e1, e2⟩ := readsTup (h := s.heap) I.hok kv
  refine ⟨o, es, ep, ho, hx.1, hd, fun e => ?_, ?_, ?_, by simp⟩
  · rw [e] at hn
    exact absurd hn (by decide)
  · rw [he, List.map_map]
    exact e1
  · rw [he, List.map_map]
    exact e2
/-- repr of one datum, at any depth -/
def RepOf (X : Cx) (s : Shared) (u : Value) (d : PyData) : Prop :=
  ∃ as bs, Reads s.heap u d as ∧ ReadAtMost s.heap d.depth bs ∧ ReprK X.prog X.w bs s.heap d.depth u d.shown
def RepAll (X : Cx) (s : Shared) (us : List Value) (ds : List PyData) : Prop :=
  ∃ as bs, ReadsAll s.heap us ds as ∧ ReadAtMost s.heap (PyData.depthAll ds) bs ∧ ReprAllK X.prog X.w bs s.heap (PyData.depthAll ds) us (PyData.shownAll ds)
theorem repLst {a : Addr} {o : Obj} {us : Array Value} {n : Nat} {ds : List PyData} (h1 : s.heap.get? a = some o) (h2 : o.cls = .type "list") (h3 : o.data = .seq us n) (k : RepAll X s us.toList ds) : RepOf X s (.ref a) (.list ds) := by
  obtain ⟨as, bs, r, hb, hk⟩ := k
  have rr : Reads s.heap (.ref a) (.list ds) _ := .list h1 h2 h3 r
  have na : a ∉ bs := not_mem_of_deeper rr (by rw [PyData.depth]; omega) hb
  refine ⟨_, a :: bs, rr, ReadAtMost.cons rr (by rw [PyData.depth]; omega) hb, ?_⟩
  rw [PyData.depth, PyData.shown]
  obtain ⟨l⟩ := us
  cases l with
  | nil =>
    have r' : ReadsAll s.heap [] ds as := r
    cases r'
    rw [PyData.shownAll, listText_nil]
    exact ReprK.listEmpty h1 h2 h3
  | cons x l => exact ReprK.list h1 h2 h3 na (by simpa using hk.length_eq) fun i y e => hk.item i y (by simpa using e)
theorem repTup {a : Addr} {o : Obj} {us : Array Value} {n : Nat} {ds : List PyData} (h1 : s.heap.get? a = some o) (h2 : o.cls = .type "tuple") (h3 : o.data = .seq us n) (k : RepAll X s us.toList ds) : RepOf X s (.ref a) (.tuple ds) := by
  obtain ⟨as, bs, r, hb, hk⟩ := k
  have rr : Reads s.heap (.ref a) (.tuple ds) _ := .tuple h1 h2 h3 r
  have na : a ∉ bs := not_mem_of_deeper rr (by rw [PyData.depth]; omega) hb
  refine ⟨_, a :: bs, rr, ReadAtMost.cons rr (by rw [PyData.depth]; omega) hb, ?_⟩
  rw [PyData.depth, PyData.shown]
  exact ReprK.tuple h1 h2 h3 na hk
theorem kv_depth {ks ds : List PyData} (e : ks.length = ds.length) : PyData.depthAll ks ≤ PyData.depthKv (ks.zip ds) ∧ PyData.depthAll ds ≤ PyData.depthKv (ks.zip ds) := by
  have h1 := PyData.depthAll_keys_le (ks.zip ds)
  have h2 := PyData.depthAll_vals_le (ks.zip ds)
  rw [zip_fst e] at h1
  rw [zip_snd e] at h2
  exact ⟨h1, h2⟩
theorem repKeys {us : List Value} {ks : List PyData} (r : ReadsAll s.heap us ks []) (hs : PyData.showableAll ks = true) (hz : ∀ t ∈ PyData.shownAll ks, t.length ≤ sizeLine) : RepAll X s us ks := by
  obtain ⟨bs, hb, hk⟩ := ReprAllK.of_readsAll (prog := X.prog) (w := X.w) r hs (fun _ => by simp) hz
  exact ⟨[], bs, r, hb, hk⟩
/-- the parts of a dict's repr -/
theorem repKv {a : Addr} {o : Obj} {es : Array DictEntry} {n : Nat} {ks ds : List PyData} (h1 : s.heap.get? a = some o) (h2 : o.cls = .type "dict") (h3 : o.data = .dict es n) (e : ks.length = ds.length)
    (k1 : RepAll X s (es.toList.map (·.key)) ks) (k2 : RepAll X s (es.toList.map (·.val)) ds) :
    ∃ as bs, Reads s.heap (.ref a) (.dict (ks.zip ds)) as ∧ ReadAtMost s.heap (PyData.depthKv (ks.zip ds)) bs ∧ a ∉ bs ∧
      ReprEntriesK X.prog X.w bs s.heap (PyData.depthKv (ks.zip ds)) es.toList (PyData.shownKv (ks.zip ds)) := by
  obtain ⟨as1, b1, r1, hb1, q1⟩ := k1
  obtain ⟨as2, b2, r2, hb2, q2⟩ := k2
  obtain ⟨l1, l2⟩ := kv_depth e
  have rr : Reads s.heap (.ref a) (.dict (ks.zip ds)) (a :: as1 ++ as2) := .dict h1 h2 h3 (by rw [zip_fst e]; exact r1) (by rw [zip_snd e]; exact r2)
  have hb := (hb1.mono l1).append (hb2.mono l2)
  refine ⟨_, b1 ++ b2, rr, hb, not_mem_of_deeper rr (by rw [PyData.depth]; omega) hb, ?_⟩
  rw [PyData.shownKv_eq, zip_fst e, zip_snd e]
  exact ReprEntriesK.of_two _ _ _ (q1.more_le (fun b hb => List.mem_append_left _ hb) l1) (q2.more_le (fun b hb => List.mem_append_right _ hb) l2)
theorem repDict {a : Addr} {vs : List V} {ks ds : List PyData} (S : DShape X H s a vs ks) (e : ks.length = ds.length) (hs : PyData.showableAll ks = true) (hz : (PyData.dict (ks.zip ds)).shown.length ≤ sizeLine)
    (k : ∀ us, Vals vs us → RepAll X s us ds) : RepOf X s (.ref a) (.dict (ks.zip ds)) := by
  obtain ⟨o, es, n, h1, h2, h3, hne, kr, hv, _⟩ := S
  have hz' : (dictText (PyData.shownKv (ks.zip ds))).length ≤ sizeLine := by simpa only [PyData.shown] using hz
  have kk : RepAll X s (es.toList.map (·.key)) ks := repKeys kr hs fun t ht => by
    obtain ⟨p, hp, hl⟩ := PyData.shownKv_key_le (ks.zip ds) t (by rw [zip_fst e]; exact ht)
    exact Nat.le_trans hl (Nat.le_trans (dictText_mem_le hp) hz')
  obtain ⟨as, bs, rr, hb, na, q⟩ := repKv h1 h2 h3 e kk (k _ hv)
  refine ⟨_, a :: bs, rr, ReadAtMost.cons rr (by rw [PyData.depth]; omega) hb, ?_⟩
  rw [PyData.depth, PyData.shown]
  exact ReprK.dict h1 h2 h3 (beq_eq_false_iff_ne.mpr hne) na q
theorem showKv {ks ds : List PyData} (e : ks.length = ds.length) (hs : (PyData.dict (ks.zip ds)).showable = true) : PyData.showableAll ks = true ∧ PyData.showableAll ds = true := by
  have := PyData.showableKv_split (ks.zip ds) (by simpa [PyData.showable] using hs)
  rw [zip_fst e, zip_snd e] at this
  exact this
theorem sizeKv {ks ds : List PyData} (e : ks.length = ds.length) (hz : (PyData.dict (ks.zip ds)).shown.length ≤ sizeLine) : ∀ t ∈ PyData.shownAll ds, t.length ≤ sizeLine := by
  intro t ht
  have hz' : (dictText (PyData.shownKv (ks.zip ds))).length ≤ sizeLine := by simpa only [PyData.shown] using hz
  obtain ⟨p, hp, hl⟩ := PyData.shownKv_val_le (ks.zip ds) t (by rw [zip_snd e]; exact ht)
  exact Nat.le_trans hl (Nat.le_trans (dictText_mem_le hp) hz')
mutual
theorem Dt.rep (I : Inv X pins σ H s) {v : V} {d : PyData} : Dt X.K H v d → d.showable = true → d.shown.length ≤ sizeLine → ∀ {u : Value}, RelV v u → RepOf X s u d
  | .non, hs, hz, u, r => by
    cases r
    exact ⟨_, [], .none, (fun _ h => nomatch h), by simp only [PyData.shown]; exact ReprK.of_is ReprIs.none _ _ _⟩
  | .bl b, hs, hz, u, r => by
    cases r
    exact ⟨_, [], .bool b, (fun _ h => nomatch h), by simp only [PyData.shown]; exact ReprK.of_is (ReprIs.bool b) _ _ _⟩
  | .int i, hs, hz, u, r => by
    obtain ⟨t, rfl⟩ := r
    exact ⟨_, [], .int i t, (fun _ h => nomatch h), by simp only [PyData.shown]; exact ReprK.of_is (ReprIs.int t (by simpa [PyData.showable] using hs)) _ _ _⟩
  | .str x, hs, hz, u, r => by
    obtain ⟨t, rfl⟩ := r
    exact ⟨_, [], .str x t, (fun _ h => nomatch h), by simp only [PyData.shown]; exact ReprK.of_is (ReprIs.str x t (by simpa only [PyData.shown] using hz)) _ _ _⟩
  | .lst (a := a) (xs := xs) (ds := ds) h k, hs, hz, u, r => by
    cases r
    obtain ⟨its, rv, ⟨o, n, ho, hc, _, hd⟩, _⟩ := I.list (.inl h)
    have hz' : (listText (PyData.shownAll ds)).length ≤ sizeLine := by simpa only [PyData.shown] using hz
    exact repLst ho hc hd (DtAll.rep I k (by simpa [PyData.showable] using hs) (fun t ht => Nat.le_trans (listText_mem_le ht) hz') rv)
  | .tup (a := a) (xs := xs) (ds := ds) h k, hs, hz, u, r => by
    cases r
    obtain ⟨its, rv, ⟨o, ho, hc, n, hd⟩, _⟩ := I.tuple h
    have hz' : (tupleText (PyData.shownAll ds)).length ≤ sizeLine := by simpa only [PyData.shown] using hz
    exact repTup ho hc hd (DtAll.rep I k (by simpa [PyData.showable] using hs) (fun t ht => Nat.le_trans (tupleText_mem_le ht) hz') rv)
  | .dK (a := a) (kvs := kvs) (ds := ds) h k, hs, hz, u, r => by
    cases r
    have e : (kvs.map fun p => keyD p.1).length = ds.length := by rw [List.length_map, ← k.len, List.length_map]
    have w := showKv e hs
    exact repDict (shapeK I h) e w.1 hz fun us rv => DtAll.rep I k w.2 (sizeKv e hz) rv
  | .dT (a := a) (kvs := kvs) (ds := ds) h k, hs, hz, u, r => by
    cases r
    have e : (kvs.map fun p => PyData.tuple (p.1.map keyD)).length = ds.length := by rw [List.length_map, ← k.len, List.length_map]
    have w := showKv e hs
    exact repDict (shapeT I h) e w.1 hz fun us rv => DtAll.rep I k w.2 (sizeKv e hz) rv
theorem DtAll.rep (I : Inv X pins σ H s) {vs : List V} {ds : List PyData} : DtAll X.K H vs ds → PyData.showableAll ds = true → (∀ t ∈ PyData.shownAll ds, t.length ≤ sizeLine) → ∀ {us : List Value}, Vals vs us → RepAll X s us ds
  | .nil, hs, hz, us, r => by
    cases r
    exact ⟨_, [], .nil, (fun _ h => nomatch h), by simp only [PyData.shownAll]; exact .nil⟩
  | .cons (d := d) (ds := ds) a b, hs, hz, us, r => by
    cases r with
    | cons r1 r2 =>
      rw [PyData.showableAll, Bool.and_eq_true] at hs
      rw [PyData.shownAll] at hz
      obtain ⟨as1, b1, q1, p1, k1⟩ := Dt.rep I a hs.1 (hz _ (List.mem_cons_self ..)) r1
      obtain ⟨as2, b2, q2, p2, k2⟩ := DtAll.rep I b hs.2 (fun t ht => hz t (List.mem_cons_of_mem _ ht)) r2
      refine ⟨_, b1 ++ b2, .cons q1 q2, ?_, ?_⟩
      · rw [PyData.depthAll]
        exact (p1.mono (Nat.le_max_left _ _)).append (p2.mono (Nat.le_max_right _ _))
      · rw [PyData.depthAll, PyData.shownAll]
        exact .cons ((k1.more fun b hb => List.mem_append_left _ hb).level_le (Nat.le_max_left _ _)) (k2.more_le (fun b hb => List.mem_append_right _ hb) (Nat.le_max_right _ _))
end
theorem DShape.ty {a : Addr} {vs : List V} {ks : List PyData} (S : DShape X H s a vs ks) : True := trivial
theorem showList {a : Addr} {o : Obj} {us : Array Value} {n : Nat} {ds : List PyData} (h1 : s.heap.get? a = some o) (h2 : o.cls = .type "list") (h3 : o.data = .seq us n) (k : RepAll X s us.toList ds)
    (hz : (PyData.list ds).shown.length ≤ sizeLine) : ShowsBy X.prog X.w s.heap a (.list ds) "list" "list.__repr__" := by
  obtain ⟨as, bs, r, hb, hk⟩ := k
  have na : a ∉ bs := not_mem_of_deeper (.list h1 h2 h3 r) (by rw [PyData.depth]; omega) hb
  have hz' : (listText (PyData.shownAll ds)).length ≤ sizeLine := by simpa only [PyData.shown] using hz
  refine ⟨F.slot_list_repr.toG, F.slot_list_str, F.slot_list_format, fun s' hk0 => ⟨o, hk0 _ _ h1, h2⟩, fun A E s' Q hg hu hk0 hQ => ?_⟩
  rw [PyData.depth] at hu
  rw [PyData.shown] at hQ
  obtain ⟨l⟩ := us
  cases l with
  | nil =>
    have r' : ReadsAll s.heap [] ds as := r
    cases r'
    rw [PyData.shownAll, listText_nil] at hQ
    exact call_list_repr_empty ⟨o, hk0 _ _ h1, h2⟩ (hk0 _ _ h1) h3 (hQ s'.heap _ _ fun _ _ e => e)
  | cons x l => exact call_list_reprK h1 h2 h3 na (by simpa using hk.length_eq) (fun i y e => hk.item i y (by simpa using e)) hg (fun b _ => Clear.nil b) hu hk0 hQ hz'
theorem showTup {a : Addr} {o : Obj} {us : Array Value} {n : Nat} {ds : List PyData} (h1 : s.heap.get? a = some o) (h2 : o.cls = .type "tuple") (h3 : o.data = .seq us n) (k : RepAll X s us.toList ds)
    (hz : (PyData.tuple ds).shown.length ≤ sizeLine) : ShowsBy X.prog X.w s.heap a (.tuple ds) "tuple" "tuple.__repr__" := by
  obtain ⟨as, bs, r, hb, hk⟩ := k
  have na : a ∉ bs := not_mem_of_deeper (.tuple h1 h2 h3 r) (by rw [PyData.depth]; omega) hb
  have hz' : (tupleText (PyData.shownAll ds)).length ≤ sizeLine := by simpa only [PyData.shown] using hz
  refine ⟨F.slot_tuple_repr, F.slot_tuple_str, F.slot_tuple_format, fun s' hk0 => ⟨o, hk0 _ _ h1, h2⟩, fun A E s' Q hg hu hk0 hQ => ?_⟩
  rw [PyData.depth] at hu
  rw [PyData.shown] at hQ
  exact call_tuple_reprK h1 h2 h3 na hk hg (fun b _ => Clear.nil b) hu hk0 hQ hz'
theorem showDict {a : Addr} {vs : List V} {ks ds : List PyData} (S : DShape X H s a vs ks) (e : ks.length = ds.length) (hs : PyData.showableAll ks = true) (hz : (PyData.dict (ks.zip ds)).shown.length ≤ sizeLine)
    (k : ∀ us, Vals vs us → RepAll X s us ds) : ShowsBy X.prog X.w s.heap a (.dict (ks.zip ds)) "dict" "dict.__repr__" := by
  obtain ⟨o, es, n, h1, h2, h3, hne, kr, hv, _⟩ := S
  have hz' : (dictText (PyData.shownKv (ks.zip ds))).length ≤ sizeLine := by simpa only [PyData.shown] using hz
  have kk : RepAll X s (es.toList.map (·.key)) ks := repKeys kr hs fun t ht => by
    obtain ⟨p, hp, hl⟩ := PyData.shownKv_key_le (ks.zip ds) t (by rw [zip_fst e]; exact ht)
    exact Nat.le_trans hl (Nat.le_trans (dictText_mem_le hp) hz')
  obtain ⟨as, bs, rr, hb, na, q⟩ := repKv h1 h2 h3 e kk (k _ hv)
  refine ⟨F.slot_dict_repr, F.slot_dict_str, F.slot_dict_format, fun s' hk0 => ⟨o, hk0 _ _ h1, h2⟩, fun A E s' Q hg hu hk0 hQ => ?_⟩
  rw [PyData.depth] at hu
  rw [PyData.shown] at hQ
  exact call_dict_reprK h1 h2 h3 (beq_eq_false_iff_ne.mpr hne) na q hg (fun b _ => Clear.nil b) hu hk0 hQ hz'
/-- repr(v), dicts at any depth -/
def rReprD (K : PySem.W.Frag) : List V → Hp → VK → Prop := fun xs H Q => ∃ v d, xs = [v] ∧ Dt K H v d ∧ d.showable = true ∧ d.shown.length ≤ sizeLine ∧ d.depth ≤ 60 ∧ Q (.str d.shown) H
theorem call_reprD (hG : X.A.guards = some []) (hu : X.A.units + 64 < cLine) : CallR X (.builtin "repr") (rReprD X.K) := by
  intro pins s σ H xs us Q I r h
  obtain ⟨v, d, rfl, hd, hs, hz, hp, q⟩ := h
  cases r with
  | cons r1 r2 =>
    cases r2
    have fin : ∀ {a : Addr} {T idr : String}, d.depth ≤ 60 → ShowsBy X.prog X.w s.heap a d T idr → wpAny (model X.prog X.w) X.A (call (.builtin "repr") [.ref a]) (EP X pins σ Q) X.xe s := by
      intro a T idr hp S
      refine call_repr_slot (by omega) (S.typeIs s fun _ _ e => e) S.slotRepr (S.call X.A.in1 X.xe s _ hG (by show X.A.units + 1 + d.depth < cLine; omega) (fun _ _ e => e) fun h' u tk hk => ⟨_, _, rfl, ?_⟩)
      exact ⟨.str _, H, I.kept (t' := tk) hk, ⟨_, rfl⟩, q⟩
    cases hd with
    | non =>
      cases r1
      exact P.repr_of_none ⟨.str _, H, I.tok _, ⟨_, rfl⟩, q⟩
    | bl b =>
      cases r1
      exact P.repr_of_bool ⟨.str _, H, I.tok _, ⟨_, rfl⟩, q⟩
    | int i =>
      obtain ⟨t, rfl⟩ := r1
      exact P.repr_of_int (by simpa [PyData.showable] using hs) ⟨.str _, H, I.tok _, ⟨_, rfl⟩, q⟩
    | str x =>
      obtain ⟨t, rfl⟩ := r1
      exact P.repr_of_str ⟨.str _, H, I.tok _, ⟨_, rfl⟩, q⟩ hz
    | @lst a xs ds h k =>
      cases r1
      obtain ⟨its, rv, ⟨o, n, ho, hc, _, hd⟩, _⟩ := I.list (.inl h)
      have hz' : (listText (PyData.shownAll ds)).length ≤ sizeLine := by simpa only [PyData.shown] using hz
      exact fin hp (showList ho hc hd (DtAll.rep I k (by simpa [PyData.showable] using hs) (fun t ht => Nat.le_trans (listText_mem_le ht) hz') rv) hz)
    | @tup a xs ds h k =>
      cases r1
      obtain ⟨its, rv, ⟨o, ho, hc, n, hd⟩, _⟩ := I.tuple h
      have hz' : (tupleText (PyData.shownAll ds)).length ≤ sizeLine := by simpa only [PyData.shown] using hz
      exact fin hp (showTup ho hc hd (DtAll.rep I k (by simpa [PyData.showable] using hs) (fun t ht => Nat.le_trans (tupleText_mem_le ht) hz') rv) hz)
    | @dK a kvs ds h k =>
      cases r1
      have e : (kvs.map fun p => keyD p.1).length = ds.length := by rw [List.length_map, ← k.len, List.length_map]
      have w := showKv e hs
      exact fin hp (showDict (shapeK I h) e w.1 hz fun us rv => DtAll.rep I k w.2 (sizeKv e hz) rv)
    | @dT a kvs ds h k =>
      cases r1
      have e : (kvs.map fun p => PyData.tuple (p.1.map keyD)).length = ds.length := by rw [List.length_map, ← k.len, List.length_map]
      have w := showKv e hs
      exact fin hp (showDict (shapeT I h) e w.1 hz fun us rv => DtAll.rep I k w.2 (sizeKv e hz) rv)
end
end FA

/-! FA10: own errors whose __init__ hands its fields on to super() and keeps them. -/
namespace FA
open PySem PySem.W PySem.Calls PyProof.Rows PySem.HandSPX
abbrev PP := Pos × Pos × Pos × Pos
def eA (p0 : Pos) (fs : List (Str × Pos)) : Arguments := { posonlyargs := [], args := { arg := "self", annotation := none, pos := p0 } :: fs.map fun p => { arg := p.1, annotation := none, pos := p.2 }, vararg := none, kwonlyargs := [], kw_defaults := [], kwarg := none, defaults := [] }
def eS (fs : List Str) : Scope := { kind := .function, names := (PySem.Str.ofString "self", .local) :: (fs.map fun f => (f, .local)) ++ [(PySem.Str.ofString "__class__", .free), (PySem.Str.ofString "super", .globalImplicit)], isGenerator := false, isCoroutine := false, more := [] }
def eSup (a0 a1 a2 a3 a4 : Pos) (es : List Expr) : Stmt := .Expr (.Call (.Attribute (.Call (.Name "super" a0) [] [] a1) "__init__" a2) es [] a3) a4
def eSto (f : Str) (c : PP) : Stmt := .Assign [.Attribute (.Name "self" c.1) f c.2.1] (.Name f c.2.2.1) c.2.2.2
def eB (a0 a1 a2 a3 a4 : Pos) (fs : List (Str × Pos × PP)) : List Stmt := eSup a0 a1 a2 a3 a4 (fs.map fun p => .Name p.1 p.2.1) :: fs.map fun p => eSto p.1 p.2.2
/-- a field's name -/
def fOk (f : Str) : Bool := f != "self" && f != "__class__" && f != "super" && f != "__debug__"
/-- what the written part says of an own error class -/
structure ErrTxt (P : Program) (K : Frag) (mg : Str → Option Value) (x : Str) (fs : List Str) (C fI : Addr) : Prop where
  gC : mg x = some (.ref C)
  gS : mg "super" = none
  cls : ∃ nm q N bs bm sn sub ab col dd k0 k1 k2 k3 k5, K.lookup C = some (excClassObj nm q C N bs bm true sn sub ab col dd k0 k1 k2 k3 k5 "ValueError.__new__") ∧ refsVE bm = true
  sup : ks_superIn K C C "__init__" = some (some (.builtin "ValueError.__init__"))
  subV : subIn K (.ref C) (.type "ValueError") = some true
  mroC : mroIn K C (.ref C) = some true
  opq : nsIn K cStatics "thirdparty.any" = some none
  sa : findIn K (.ref C) "__setattr__" = some (some (.builtin "object.__setattr__"))
  noN : ∀ f ∈ fs, findIn K (.ref C) f = some none
  iC : findIn K (.ref C) "__init__" = some (some (.ref fI))
  tC : typeIn K (.ref fI) = some (.type "function")
  kC : keepIn K (.ref C) = true
  tyC : typeIn K (.ref C) = some (.type "type")
  xf : L2.XfC K C
  fnm : ∀ f ∈ fs, fOk f = true
  nd : fs.Nodup
  top : (P.main.scope.names.lookup ("super" : Str)).isSome = false
  fn : ∃ (oc : Value) (od : Option Addr) (doc pm : Value) (an : Option Addr) (cda : Addr) (ct : Value) (osl : Array (Option Value)) (cc : Addr) (qn : Str) (p0 a0 a1 a2 a3 a4 : Pos) (ap : List Pos) (bp : List (Pos × PP)),
    (a2.endLine == a3.line) = true ∧ ap.length = fs.length ∧ bp.length = fs.length ∧ K.lookup fI = some ⟨oc, od, .func (ksFn "__init__" qn (eA p0 (fs.zip ap)) (eB a0 a1 a2 a3 a4 (fs.zip bp)) (eS fs) .none .none doc pm an (.ref cda) ct cc), osl⟩ ∧ codeIn K (.ref cda) qn = true ∧
    (∀ (s : Shared) (x : Value) (us : List Value), us.length = fs.length → BindsTo s (ksFn "__init__" qn (eA p0 (fs.zip ap)) (eB a0 a1 a2 a3 a4 (fs.zip bp)) (eS fs) .none .none doc pm an (.ref cda) ct cc) ⟨x :: us, []⟩ (("self", x) :: fs.zip us)) ∧
    (∃ (ccl : Value) (cdd : Option Addr) (vs : Array Value) (ccs : Array (Option Value)) (file : Str) (tf : Tok), K.lookup cda = some ⟨ccl, cdd, .fields vs, ccs⟩ ∧ vs[2]? = some (.str file tf) ∧ ((P.main.file : Str) == file) = true) ∧
    ∃ (cl : Value) (cld : Option Addr) (csl : Array (Option Value)), K.lookup cc = some ⟨cl, cld, .cell (some (.ref C)), csl⟩
theorem ns_keep {h h' : Heap} {L : Addr} {m : Str → Option Value} (n : h.Ns L m) (k : ∀ o, h.get? L = some o → h'.get? L = some o) : h'.Ns L m := by
  obtain ⟨oL, es, ep, hL, r⟩ := n
  exact ⟨oL, es, ep, k _ hL, r⟩
section
variable {P : Program} {w : World} {A : Around} {E : Value → Shared → Prop} {K : Frag} {mg mb : Str → Option Value} {x0 : Str} {fs : List Str} {C fI : Addr}
variable {hp : Heap} {g : Array GenState} {dr : Drawn} {t : Nat} {os : OsState}
/-- the built-in __init__, bound, called -/
theorem call_mw (T : ErrTxt P K mg x0 fs C fI) {u e t0 : Addr} {rest : List Value} {Q : Value → Shared → Prop} (X : K.In hp) (he : hp.get? e = some (excO C t0)) (hu : hp.get? u = some (kxs_mw "ValueError.__init__" e)) (hz : rest.length ≤ sizeLine)
    (hq : ∀ h' t1, (∀ b o, b ≠ e → hp.get? b = some o → h'.get? b = some o) → h'.get? e = some (excO C t1) → Q .none ⟨h', g, dr, t, os⟩) :
    wpAny (model P w) A (call (.ref u) rest) Q E ⟨hp, g, dr, t, os⟩ := by
  obtain ⟨nm, q, N, bs, bm, sn, sub, ab, col, dd, k0, k1, k2, k3, k5, hC, hbm⟩ := T.cls
  refine wpAny_call (codeAny_of_tree ?_)
  show wpAny _ A.in1 (callAny (.ref u) ⟨rest, []⟩) _ _ _
  simp only [callAny]
  refine wpAny_bind (wpAny_load hu ?_)
  simp only [kxs_mw, show (Value.type "method-wrapper" == Value.type "method" || Value.type "method-wrapper" == Value.type "builtin_function_or_method" || Value.type "method-wrapper" == Value.type "method-wrapper") = true by decide, if_true]
  refine KFB.if_so (by decide) ?_
  refine wpAny_bind (check_bound_init F.excBase_ValueError.toExcCallFacts (X _ _ hC) he rfl ?_)
  refine wpAny_bind (wpAny_pure (wpAny_pure ?_))
  refine ⟨plainId_quiet F.excBase_ValueError.init.plain _, codeAny_builtin F.excBase_ValueError.initEntry ?_⟩
  exact exc_init_tree (cls := .ref C) (t0 := t0) (dv := none) (c2 := .none) (c3 := .none) (b4 := .bool false) he hz fun h' k e' _ => hq h' _ k e'
/-- names handed on -/
theorem spl_names {M : Model} {s : Shared} {env : Env} {m : Str → Option Value} {pos : Pos} (hk : env.scope.kind = .function) (hn : s.heap.Ns env.locals m) :
    ∀ {l : List (Str × Pos)} {us : List Value} {Q : List Value → Shared → Prop}, Paired (fun (p : Str × Pos) (u : Value) => m p.1 = some u ∧ env.kindOf p.1 = some .local ∧ (p.1 == ("__debug__" : Str)) = false) l us → Q us s →
    wpAny M A (spliced (backTo pos (starEach (l.map fun p => Expr.Name p.1 p.2) env))) Q E s
  | _, _, _, .nil, h => spliced_none h
  | _, _, _, .cons r tl, h => spliced_more (wpAny_Name (wpAny_loadName_local hk r.2.1 hn r.1 (spl_names hk hn tl h)) r.2.2)
theorem cls_mro {cd : ClassData} {h : Heap} (X : K.In h) (hc : clsIn K C = some cd) : Looks (model P w) h (mroOf (.ref C)) cd.mro :=
  fun A Q E s k q => wpAny_bind ((looks_clsIn X hc) A _ E s k (wpAny_pure q))
def SupEv (qn : Str) (fs : List Str) (L fI cda cc : Addr) (a0 a1 a2 a3 : Pos) (l : List (Str × Pos)) : Prop :=
  ∃ pl : Sem Bool, eval (.Call (.Attribute (.Call (.Name "super" a0) [] [] a1) "__init__" a2) (l.map fun p => Expr.Name p.1 p.2) [] a3) (ksEnv qn (eS fs) L fI (.ref cda) cc) = (do
      let ov ← attributeBase (.Call (.Name "super" a0) [] [] a1) "__init__" (ksEnv qn (eS fs) L fI (.ref cda) cc) (eval (.Call (.Name "super" a0) [] [] a1) (ksEnv qn (eS fs) L fI (.ref cda) cc))
      standAt a2.atName
      let (f, first) ← holding [ov] (getMethod ov "__init__" pl)
      callWith a3 f first (backTo a3 (starEach (l.map fun p => Expr.Name p.1 p.2) (ksEnv qn (eS fs) L fI (.ref cda) cc))) [])
/-- super().__init__(..) -/
theorem sup_exec (T : ErrTxt P K mg x0 fs C fI) {body : List Stmt} {qn : Str} {L x t0 cda cc : Addr} {m : Str → Option Value} {oc ccl cl : Value} {od cdd cld : Option Addr} {osl ccs csl : Array (Option Value)} {vs : Array Value} {file : Str} {tf : Tok} {fd : FuncData} {ar : Arg}
    {a0 a1 a2 a3 a4 : Pos} {l : List (Str × Pos)} {us : List Value} {Q : Flow → Shared → Prop}
    (X : K.In hp) (hG : hp.Ns mainGlobals mg) (hB : hp.Ns builtinsNs mb) (hb : mb "super" = some (.type "super")) (hL : hp.Ns L m) (hx : hp.get? x = some (excO C t0)) (hself : m "self" = some (.ref x)) (har : ar.arg = "self")
    (hf : K.lookup fI = some ⟨oc, od, .func fd, osl⟩) (hpr : (fd.params.posonlyargs ++ fd.params.args).head? = some ar)
    (hcode : K.lookup cda = some ⟨ccl, cdd, .fields vs, ccs⟩) (hvs : vs[2]? = some (.str file tf)) (hfile : ((P.main.file : Str) == file) = true) (hcell : K.lookup cc = some ⟨cl, cld, .cell (some (.ref C)), csl⟩)
    (hks : (eS fs).names.lookup ("super" : Str) = some .globalImplicit) (hkc : (eS fs).names.lookup ("__class__" : Str) = some .free)
    (hes : Paired (fun (p : Str × Pos) (u : Value) => m p.1 = some u ∧ (ksEnv qn (eS fs) L fI (.ref cda) cc).kindOf p.1 = some .local ∧ (p.1 == ("__debug__" : Str)) = false) l us) (hz : us.length ≤ sizeLine) (he : SupEv qn fs L fI cda cc a0 a1 a2 a3 l)
    (hq : ∀ h' t' t1, (∀ b o, b ≠ x → hp.get? b = some o → h'.get? b = some o) → h'.get? x = some (excO C t1) → Q .next ⟨h', g, dr, t', os⟩) :
    _root_.PySem.wpAt (model P w) A (.func body (ksEnv qn (eS fs) L fI (.ref cda) cc)) (exec (eSup a0 a1 a2 a3 a4 (l.map fun p => .Name p.1 p.2)) (ksEnv qn (eS fs) L fI (.ref cda) cc)) Q E ⟨hp, g, dr, t, os⟩ := by
  obtain ⟨nm, q, N, bs, bm, sn, sub, ab, col, dd, k0, k1, k2, k3, k5, hC, hbm⟩ := T.cls
  have hcl : clsIn K C = some { name := nm, bases := bs, mro := .ref C :: bm, ns := N, qualname := q, hasDict := true, slotNames := sn, subclasses := sub, abstract := ab, collection := col, hasDel := false } := by unfold clsIn; rw [hC] <;> rfl
  unfold eSup
  obtain ⟨pl, he⟩ := he
  refine ks_wpAt_Expr_any (ks_wpAt_MethodCall ?_ he)
  refine ks_wpAt_super_base (env := ksEnv qn (eS fs) L fI (.ref cda) cc) hks hkc (by decide) rfl (X _ _ hf) rfl hpr rfl (X _ _ hcode) rfl hvs hfile T.top ?_
  refine ks_loadName_global rfl hks (loadGlobal_builtin (env := ksEnv qn (eS fs) L fI (.ref cda) cc) hG T.gS hB hb ⟨rfl, ?_⟩)
  refine wpAny_loadName_free rfl hkc rfl ⟨_, X _ _ hcell, rfl⟩ ?_
  refine wpAny_loadName_local rfl (by rw [har]; rfl) hL (by rw [har]; exact hself) ?_
  have I : InstAt hp x (excO C t0) C none := ⟨hx, rfl, rfl, trivial⟩
  refine ks_wpAny_isType_cls (X _ _ hC) rfl ⟨rfl, ?_⟩
  refine ks_wpAny_call_super (X _ _ hC) rfl hx rfl (fun c e => by cases e) (looks_mroIn X T.mroC) fun h1 so1 kk1 => ?_
  have X1 : K.In h1 := X.keeps kk1
  have hx1 := kk1 _ _ hx
  have hm := T.sup
  unfold ks_superIn at hm
  rw [hcl] at hm
  refine kxs_getMethod kxs_ValueError so1 (looks_opaque X1 T.opq) (cls_mro X1 hcl) rfl X1 hm (InstAt.type (od := none) ⟨hx1, rfl, rfl, trivial⟩ |>.andThen (looks_subIn X1 T.subV)) (ks_ne X I hcl) (by decide) ?_
  have kk2 : ∀ b o, hp.get? b = some o → (h1.push (kxs_mw "ValueError.__init__" x)).get? b = some o := fun b o e => Heap.get?_push_of_some _ (kk1 b o e)
  have hu2 : (h1.push (kxs_mw "ValueError.__init__" x)).get? h1.objs.size = some (kxs_mw "ValueError.__init__" x) := Heap.get?_push_at rfl rfl
  have fin : ∀ t', wpAny (model P w) A (call (.ref h1.objs.size) us) (fun _ => Q .next) E ⟨h1.push (kxs_mw "ValueError.__init__" x), g, dr, t', os⟩ := fun t' =>
    call_mw T (X.keeps kk2) (kk2 _ _ hx) hu2 hz fun h' t1 k e => hq h' t' t1 (fun b o hb ho => k b o hb (kk2 b o ho)) e
  cases hes with
  | nil => exact kxs_callWith (i := "ValueError.__init__") (x := x) rfl (evalArgs_empty ⟨hu2, fin _⟩)
  | @cons p u ps us' r tl =>
    have hpl : ∀ (l' : List (Str × Pos)), (backTo a3 (starEach (l'.map fun p => Expr.Name p.1 p.2) (ksEnv qn (eS fs) L fI (.ref cda) cc))).any (·.1) = false := by
      intro l'
      induction l' with
      | nil => rfl
      | cons b l' ih => exact ih
    refine kxs_callWith (i := "ValueError.__init__") (x := x) (hpl (p :: ps)) (evalArgs_plain ?_)
    exact spl_names (l := p :: ps) (us := u :: us') (m := m) (env := ksEnv qn (eS fs) L fI (.ref cda) cc) (pos := a3) rfl (hL.keeps kk2) (.cons r tl) ⟨hu2, fin _⟩
/-- what __init__ leaves of a fresh error at x: its dict d, none without fields -/
structure InitEnd (h h' : Heap) (x C : Addr) (fs : List Str) (vs : List Value) (d : Option Addr) : Prop where
  keep : ∀ b o, b ≠ x → h.get? b = some o → h'.get? b = some o
  obj : ∃ t1 : Addr, h'.get? x = some { cls := .ref C, dict := d, data := .fields #[.ref t1, .none, .none, .none, .bool false, .none] }
  fld : (d = none ∧ fs = []) ∨ fs ≠ [] ∧ ∃ dx, d = some dx ∧ h.objs.size ≤ dx ∧ dx ≠ x ∧ ∃ mm : Str → Option Value, h'.Ns1 dx mm ∧ ∀ y, mm y = (fs.zip vs).lookup y
theorem fok_ne {f : Str} (h : fOk f = true) : (f == ("self" : Str)) = false ∧ (f == ("__class__" : Str)) = false ∧ (f == ("super" : Str)) = false ∧ (f == ("__debug__" : Str)) = false := by
  unfold fOk at h
  simp only [Bool.and_eq_true, bne_iff_ne, ne_eq] at h
  obtain ⟨⟨⟨h1, h2⟩, h3⟩, h4⟩ := h
  exact ⟨beq_eq_false_iff_ne.mpr h1, beq_eq_false_iff_ne.mpr h2, beq_eq_false_iff_ne.mpr h3, beq_eq_false_iff_ne.mpr h4⟩
theorem beq_sym {f g : Str} (h : (f == g) = false) : (g == f) = false := by
  rw [beq_eq_false_iff_ne] at h ⊢
  exact fun e => h e.symm
theorem ldS {M : Model} {s : Shared} {env : Env} {m : Str → Option Value} {y : Str} {pos : Pos} {v : Value} {Q : Value → Shared → Prop} (hn : s.heap.Ns env.locals m) (hv : m y = some v) (hl : env.kindOf y = some .local) (hd : (y == ("__debug__" : Str)) = false) (hk : env.scope.kind = .function) (h : Q v s) :
    wpAny M A (eval (.Name y pos) env) Q E s := wpAny_Name (wpAny_loadName_local hk hl hn hv h) hd
theorem supEv_of {qn : Str} {fs : List Str} {L fI cda cc : Addr} {a0 a1 a2 a3 : Pos} {l : List (Str × Pos)} (hl : (a2.endLine == a3.line) = true)
    (hf : methodCallForm ((l.map fun p => Expr.Name p.1 p.2).length + ([] : List Keyword).length) (backTo a3 (starEach (l.map fun p => Expr.Name p.1 p.2) (ksEnv qn (eS fs) L fI (.ref cda) cc))) (backToKw a3 (keywordEach [] (ksEnv qn (eS fs) L fI (.ref cda) cc))) = true) : SupEv qn fs L fI cda cc a0 a1 a2 a3 l := by
  refine ⟨(do return (← importBound (.Call (.Name "super" a0) [] [] a1) (ksEnv qn (eS fs) L fI (.ref cda) cc)).getD true), ?_⟩
  rw [arm_eval_Call]
  unfold methodCall
  rw [hf]
  unfold methodCallPos calleeOf
  rw [hl]
  simp only [Bool.not_true, Bool.or_true, if_true, pure_bind, Bool.false_or]
  rfl
theorem eS_cell (fs : List Str) : ∀ y ∈ (eS fs).names, y.2 ≠ .cell := by
  intro y hy
  unfold eS at hy
  simp only [List.mem_append, List.mem_cons, List.mem_map, List.not_mem_nil, or_false] at hy
  rcases hy with (rfl | ⟨f, _, rfl⟩) | rfl | rfl <;> intro e <;> cases e
theorem eS_self (fs : List Str) : (eS fs).names.lookup ("self" : Str) = some .local := rfl
theorem look_skip {α : Type} {y : Str} : ∀ {l : List Str} {c : α} {r : List (Str × α)}, (∀ f ∈ l, (f == y) = false) → ((l.map fun f => (f, c)) ++ r).lookup y = r.lookup y
  | [], _, _, _ => rfl
  | f :: l, c, r, h => by
    show (match y == f with | true => some c | false => ((l.map fun f => (f, c)) ++ r).lookup y) = r.lookup y
    rw [beq_sym (h f List.mem_cons_self)]
    exact look_skip fun f' h' => h f' (List.mem_cons_of_mem _ h')
theorem eS_class {fs : List Str} (h : ∀ f ∈ fs, fOk f = true) : (eS fs).names.lookup ("__class__" : Str) = some .free := by
  show (((fs.map fun f => (f, NameKind.local)) ++ [(PySem.Str.ofString "__class__", NameKind.free), (PySem.Str.ofString "super", NameKind.globalImplicit)]).lookup ("__class__" : Str)) = some .free
  rw [look_skip fun f hf => (fok_ne (h f hf)).2.1]
  rfl
theorem eS_super {fs : List Str} (h : ∀ f ∈ fs, fOk f = true) : (eS fs).names.lookup ("super" : Str) = some .globalImplicit := by
  show (((fs.map fun f => (f, NameKind.local)) ++ [(PySem.Str.ofString "__class__", NameKind.free), (PySem.Str.ofString "super", NameKind.globalImplicit)]).lookup ("super" : Str)) = some .globalImplicit
  rw [look_skip fun f hf => (fok_ne (h f hf)).2.2.1]
  rfl
theorem eS_fld {fs : List Str} (h : ∀ f ∈ fs, fOk f = true) {f : Str} (hf : f ∈ fs) : (eS fs).names.lookup f = some .local := by
  show (match f == ("self" : Str) with | true => some NameKind.local | false => ((fs.map fun f => (f, NameKind.local)) ++ [(PySem.Str.ofString "__class__", NameKind.free), (PySem.Str.ofString "super", NameKind.globalImplicit)]).lookup f) = some .local
  rw [(fok_ne (h f hf)).1]
  show ((fs.map fun f => (f, NameKind.local)) ++ _).lookup f = some .local
  clear h
  induction fs with
  | nil => cases hf
  | cons a l ih =>
    show (match f == a with | true => some NameKind.local | false => ((l.map fun f => (f, NameKind.local)) ++ [(PySem.Str.ofString "__class__", NameKind.free), (PySem.Str.ofString "super", NameKind.globalImplicit)]).lookup f) = some .local
    cases e : f == a with
    | true => rfl
    | false =>
      rcases List.mem_cons.mp hf with rfl | hf
      · simp at e
      · exact ih hf
theorem look1 (y f : Str) (v : Value) : (if y = f then some v else none) = (match y == f with | true => some v | false => none) := by
  by_cases e : y = f
  · rw [if_pos e, e, beq_self_eq_true]
  · rw [if_neg e, beq_eq_false_iff_ne.mpr e]
theorem look_within (f : Str) (v : Value) : Within (fun y => if y = f then some v else none) [f] := by
  intro y hy
  by_cases e : y = f
  · exact e ▸ List.mem_cons_self
  · simp [e] at hy
section
variable {R : Result → Shared → Prop} {x t0 : Addr}
theorem own_init0 (T : ErrTxt P K mg x0 [] C fI) (X : K.In hp) (hlim : hp.NoLimit) (hG : hp.Ns mainGlobals mg) (hB : hp.Ns builtinsNs mb) (hb : mb "super" = some (.type "super")) (hx : hp.get? x = some (excO C t0)) (hnx : K.lookup x = none) (hroom : A.depth < recursionLimit)
    (hq : ∀ h' tk d, InitEnd hp h' x C [] [] d → R (.ok (.ret .none)) ⟨h', g, dr, tk, os⟩) :
    codeAny (model P w) A (.call (.ref fI) ⟨[.ref x], []⟩) R ⟨hp, g, dr, t, os⟩ := by
  obtain ⟨oc, od, doc, pm, an, cda, ct, osl, cc, qn, p0, a0, a1, a2, a3, a4, ap, bp, hl, la, lb, ho, hcd, hbt, ⟨ccl, cdd, vs, ccs, file, tf, c1, c2, c3⟩, cl, cld, csl, hcell⟩ := T.fn
  cases List.eq_nil_of_length_eq_zero la
  cases List.eq_nil_of_length_eq_zero lb
  refine ks_codeAny_call_defAt (binds := [("self", .ref x)]) hroom (X _ _ ho) rfl hlim (codeRec_of X hcd) rfl (hbt _ _ _ rfl) (eS_cell _) (fun y hy => ?_) (fun h₁ hn k => ?_)
  · cases List.mem_singleton.mp hy
    exact eS_self _
  refine ks_wpAt_execs_cons (sup_exec (l := []) (us := []) (fs := []) T (X.keeps k) (hG.keeps k) (hB.keeps k) hb hn (k _ _ hx) rfl rfl ho rfl c1 c2 c3 hcell (eS_super T.fnm) (eS_class T.fnm) .nil (Nat.zero_le _) (supEv_of hl rfl) fun h' t' t1 k2 hx2 => ?_)
  exact wpAt_of_wpAny (wpAny_execs_nil (hq h' t' none ⟨fun b o hb e => k2 b o hb (k b o e), ⟨t1, hx2⟩, .inl ⟨rfl, rfl⟩⟩))
theorem sz_two {α : Type} {l : List α} (h : l.length ≤ 2) : l.length ≤ sizeLine := Nat.le_trans h (by rw [sizeLine_eq]; decide)
theorem own_init1 {f : Str} {v : Value} (T : ErrTxt P K mg x0 [f] C fI) (X : K.In hp) (hlim : hp.NoLimit) (hG : hp.Ns mainGlobals mg) (hB : hp.Ns builtinsNs mb) (hb : mb "super" = some (.type "super")) (hx : hp.get? x = some (excO C t0)) (hnx : K.lookup x = none) (hroom : A.depth < recursionLimit)
    (hq : ∀ h' tk d, InitEnd hp h' x C [f] [v] d → R (.ok (.ret .none)) ⟨h', g, dr, tk, os⟩) :
    codeAny (model P w) A (.call (.ref fI) ⟨[.ref x, v], []⟩) R ⟨hp, g, dr, t, os⟩ := by
  obtain ⟨oc, od, doc, pm, an, cda, ct, osl, cc, qn, p0, a0, a1, a2, a3, a4, ap, bp, hl, la, lb, ho, hcd, hbt, ⟨ccl, cdd, vs, ccs, file, tf, c1, c2, c3⟩, cl, cld, csl, hcell⟩ := T.fn
  obtain ⟨nm, q, N, bs, bm, sn, sub, ab, col, dd, k0, k1, k2, k3, k5, hC, hbm⟩ := T.cls
  have hcl : clsIn K C = some { name := nm, bases := bs, mro := .ref C :: bm, ns := N, qualname := q, hasDict := true, slotNames := sn, subclasses := sub, abstract := ab, collection := col, hasDel := false } := by unfold clsIn; rw [hC] <;> rfl
  obtain ⟨p1, rfl⟩ := List.length_eq_one_iff.mp la
  obtain ⟨⟨b1, bc⟩, rfl⟩ := List.length_eq_one_iff.mp lb
  obtain ⟨f1, f2, f3, f4⟩ := fok_ne (T.fnm f List.mem_cons_self)
  have mS : ([("self", .ref x), (f, v)] : List (Str × Value)).reverse.lookup ("self" : Str) = some (.ref x) := by
    show (match ("self" : Str) == f with | true => some v | false => List.lookup ("self" : Str) [("self", Value.ref x)]) = _
    rw [beq_sym f1]
    rfl
  have mF : ([("self", .ref x), (f, v)] : List (Str × Value)).reverse.lookup f = some v := by
    show (match f == f with | true => some v | false => List.lookup f [("self", Value.ref x)]) = _
    rw [beq_self_eq_true]
  refine ks_codeAny_call_defAt (binds := [("self", .ref x), (f, v)]) hroom (X _ _ ho) rfl hlim (codeRec_of X hcd) rfl (hbt _ _ _ rfl) (eS_cell _) (fun y hy => ?_) (fun h₁ hn k => ?_)
  · rcases List.mem_cons.mp hy with rfl | hy
    · exact eS_self _
    · cases List.mem_singleton.mp hy
      exact eS_fld T.fnm List.mem_cons_self
  refine ks_wpAt_execs_cons (sup_exec (l := [(f, b1)]) (us := [v]) (fs := [f]) T (X.keeps k) (hG.keeps k) (hB.keeps k) hb hn (k _ _ hx) mS rfl ho rfl c1 c2 c3 hcell (eS_super T.fnm) (eS_class T.fnm) (.cons ⟨mF, eS_fld T.fnm List.mem_cons_self, f4⟩ .nil) (sz_two (by show 1 ≤ 2; decide)) (supEv_of hl rfl) fun h2 t2 t1 kk2 hx2 => ?_)
  have xL : x ≠ hp.objs.size := Nat.ne_of_lt (Heap.lt_size hx)
  have hn2 := ns_keep hn (fun o e => kk2 _ o xL.symm e)
  have X2 : K.In h2 := fun a o e => kk2 a o (fun z => by rw [z, hnx] at e; cases e) (k a o (X a o e))
  refine wpAt_of_wpAny (wpAny_execs_cons (plainObj_wpAny_Assign_Attribute ?_))
  refine ldS hn2 mF (eS_fld T.fnm List.mem_cons_self) f4 rfl (ldS hn2 mS (eS_self _) (by decide) rfl ?_)
  refine set_plain X2 (ox := excO C t1) (od := none) ⟨hx2, rfl, rfl, trivial⟩ T.sa ?_
  refine exc_osa X2 hx2 hcl (show refsVE (.ref C :: bm) = true from hbm) rfl (T.noN f List.mem_cons_self) (fun h3 t3 dx k3 dn dne hx3 hn3 => ?_)
  show wpAny _ _ (execs _ _) _ _ _
  exact wpAny_execs_nil (hq h3 t3 (some dx) ⟨fun b o hb e => k3 b o hb (kk2 b o hb (k b o e)), ⟨t1, hx3⟩, .inr ⟨by simp, dx, rfl, Nat.le_of_lt (Nat.lt_of_lt_of_le hn2.lt dn), dne, _, hn3, fun y => look1 y f v⟩⟩)
theorem len_two {α : Type} : ∀ {l : List α}, l.length = 2 → ∃ a b, l = [a, b]
  | [a, b], _ => ⟨a, b, rfl⟩
theorem own_init2 {f f' : Str} {v v' : Value} (T : ErrTxt P K mg x0 [f, f'] C fI) (X : K.In hp) (hlim : hp.NoLimit) (hG : hp.Ns mainGlobals mg) (hB : hp.Ns builtinsNs mb) (hb : mb "super" = some (.type "super")) (hx : hp.get? x = some (excO C t0)) (hnx : K.lookup x = none) (hroom : A.depth < recursionLimit)
    (hq : ∀ h' tk d, InitEnd hp h' x C [f, f'] [v, v'] d → R (.ok (.ret .none)) ⟨h', g, dr, tk, os⟩) :
    codeAny (model P w) A (.call (.ref fI) ⟨[.ref x, v, v'], []⟩) R ⟨hp, g, dr, t, os⟩ := by
  obtain ⟨oc, od, doc, pm, an, cda, ct, osl, cc, qn, p0, a0, a1, a2, a3, a4, ap, bp, hl, la, lb, ho, hcd, hbt, ⟨ccl, cdd, vs, ccs, file, tf, c1, c2, c3⟩, cl, cld, csl, hcell⟩ := T.fn
  obtain ⟨nm, q, N, bs, bm, sn, sub, ab, col, dd, k0, k1, k2, k3, k5, hC, hbm⟩ := T.cls
  have hcl : clsIn K C = some { name := nm, bases := bs, mro := .ref C :: bm, ns := N, qualname := q, hasDict := true, slotNames := sn, subclasses := sub, abstract := ab, collection := col, hasDel := false } := by unfold clsIn; rw [hC] <;> rfl
  obtain ⟨p1, p2, rfl⟩ := len_two la
  obtain ⟨⟨b1, bc⟩, ⟨b2, bc'⟩, rfl⟩ := len_two lb
  have m1 : f ∈ [f, f'] := List.mem_cons_self
  have m2 : f' ∈ [f, f'] := List.mem_cons_of_mem _ List.mem_cons_self
  obtain ⟨f1, f2, f3, f4⟩ := fok_ne (T.fnm f m1)
  obtain ⟨g1, g2, g3, g4⟩ := fok_ne (T.fnm f' m2)
  have hff : (f == f') = false := beq_eq_false_iff_ne.mpr fun e => by
    have := T.nd
    rw [e] at this
    simp at this
  have mS : ([("self", .ref x), (f, v), (f', v')] : List (Str × Value)).reverse.lookup ("self" : Str) = some (.ref x) := by
    show (match ("self" : Str) == f' with | true => some v' | false => (match ("self" : Str) == f with | true => some v | false => List.lookup ("self" : Str) [("self", Value.ref x)])) = _
    rw [beq_sym f1, beq_sym g1]
    rfl
  have mF : ([("self", .ref x), (f, v), (f', v')] : List (Str × Value)).reverse.lookup f = some v := by
    show (match f == f' with | true => some v' | false => (match f == f with | true => some v | false => List.lookup f [("self", Value.ref x)])) = _
    rw [beq_self_eq_true, hff]
  have mG : ([("self", .ref x), (f, v), (f', v')] : List (Str × Value)).reverse.lookup f' = some v' := by
    show (match f' == f' with | true => some v' | false => (match f' == f with | true => some v | false => List.lookup f' [("self", Value.ref x)])) = _
    rw [beq_self_eq_true]
  refine ks_codeAny_call_defAt (binds := [("self", .ref x), (f, v), (f', v')]) hroom (X _ _ ho) rfl hlim (codeRec_of X hcd) rfl (hbt _ _ _ rfl) (eS_cell _) (fun y hy => ?_) (fun h₁ hn k => ?_)
  · rcases List.mem_cons.mp hy with rfl | hy
    · exact eS_self _
    rcases List.mem_cons.mp hy with rfl | hy
    · exact eS_fld T.fnm m1
    · cases List.mem_singleton.mp hy
      exact eS_fld T.fnm m2
  refine ks_wpAt_execs_cons (sup_exec (l := [(f, b1), (f', b2)]) (us := [v, v']) (fs := [f, f']) T (X.keeps k) (hG.keeps k) (hB.keeps k) hb hn (k _ _ hx) mS rfl ho rfl c1 c2 c3 hcell (eS_super T.fnm) (eS_class T.fnm) (.cons ⟨mF, eS_fld T.fnm m1, f4⟩ (.cons ⟨mG, eS_fld T.fnm m2, g4⟩ .nil)) (sz_two (by show 2 ≤ 2; decide)) (supEv_of hl rfl) fun h2 t2 t1 kk2 hx2 => ?_)
  have xL : x ≠ hp.objs.size := Nat.ne_of_lt (Heap.lt_size hx)
  have hn2 := ns_keep hn (fun o e => kk2 _ o xL.symm e)
  have X2 : K.In h2 := fun a o e => kk2 a o (fun z => by rw [z, hnx] at e; cases e) (k a o (X a o e))
  refine wpAt_of_wpAny (wpAny_execs_cons (plainObj_wpAny_Assign_Attribute ?_))
  refine ldS hn2 mF (eS_fld T.fnm m1) f4 rfl (ldS hn2 mS (eS_self _) (by decide) rfl ?_)
  refine set_plain X2 (ox := excO C t1) (od := none) ⟨hx2, rfl, rfl, trivial⟩ T.sa ?_
  refine exc_osa X2 hx2 hcl (show refsVE (.ref C :: bm) = true from hbm) rfl (T.noN f m1) (fun h3 t3 dx k3 dn dne hx3 hn3 => ?_)
  have hL3 := ns_keep hn2 (fun o e => k3 _ o xL.symm e)
  have X3 : K.In h3 := fun a o e => k3 a o (fun z => by rw [z, hnx] at e; cases e) (X2 a o e)
  have dL : hp.objs.size < dx := Nat.lt_of_lt_of_le hn2.lt dn
  show wpAny _ _ (execs _ _) _ _ _
  refine wpAny_execs_cons (plainObj_wpAny_Assign_Attribute ?_)
  refine ldS hL3 mG (eS_fld T.fnm m2) g4 rfl (ldS hL3 mS (eS_self _) (by decide) rfl ?_)
  obtain ⟨oD, esD, epD, hoD, hdD, _⟩ := hn3.count (look_within f v)
  refine set_plain X3 (ox := { cls := .ref C, dict := some dx, data := .fields #[.ref t1, .none, .none, .none, .bool false, .none] }) (od := some oD) ⟨hx3, rfl, rfl, hoD⟩ T.sa ?_
  refine OEX.osa_old X3 hx3 hn3 (look_within f v) (by show 1 ≤ 1000; decide) hcl (show refsVE (.ref C :: bm) = true from hbm) rfl (T.noN f' m2) (fun h4 t4 k4 hn4 => ?_)
  show wpAny _ _ (execs _ _) _ _ _
  refine wpAny_execs_nil (hq h4 t4 (some dx) ⟨fun b o hb e => k4 b o (fun z => ?_) (k3 b o hb (kk2 b o hb (k b o e))), ⟨t1, k4 _ _ dne.symm hx3⟩, .inr ⟨by simp, dx, rfl, Nat.le_of_lt dL, dne, _, hn4, fun y => ?_⟩⟩)
  · exact absurd (Heap.lt_size e) (by rw [z]; exact Nat.not_lt_of_lt dL)
  · show (if y = f' then some v' else if y = f then some v else none) = (match y == f with | true => some v | false => (match y == f' with | true => some v' | false => none))
    by_cases e : y = f'
    · rw [if_pos e, e, beq_sym hff, beq_self_eq_true]
    · rw [if_neg e, beq_eq_false_iff_ne.mpr e]
      exact look1 y f v
end
end
end FA

/-! FA11: own errors raised (with L2N: the context is None). -/
namespace FA
open PySem PySem.W PySem.Calls PyProof.Rows PySem.HandSPX
/-- a made error -/
structure OwnMade (h h' : Heap) (e C : Addr) (fs : List Str) (vs : List Value) (d : Option Addr) : Prop where
  keep : ∀ b o, h.get? b = some o → h'.get? b = some o
  new : h.objs.size ≤ e
  obj : ∃ t1 : Addr, h'.get? e = some { cls := .ref C, dict := d, data := .fields #[.ref t1, .none, .none, .none, .bool false, .none] }
  fld : (d = none ∧ fs = []) ∨ fs ≠ [] ∧ ∃ dx, d = some dx ∧ h.objs.size ≤ dx ∧ dx ≠ e ∧ ∃ mm : Str → Option Value, h'.Ns1 dx mm ∧ ∀ y, mm y = (fs.zip vs).lookup y
section
variable {P : Program} {w : World} {A : Around} {R : Result → Shared → Prop} {K : Frag} {mg mb : Str → Option Value} {x0 : Str} {fs : List Str} {C fI : Addr} {vs : List Value}
variable {hp : Heap} {g : Array GenState} {dr : Drawn} {t : Nat} {os : OsState}
theorem own_init (T : ErrTxt P K mg x0 fs C fI) (hv : vs.length = fs.length) (hf : fs.length ≤ 2) {x t0 : Addr} (X : K.In hp) (hlim : hp.NoLimit) (hG : hp.Ns mainGlobals mg) (hB : hp.Ns builtinsNs mb) (hb : mb "super" = some (.type "super")) (hx : hp.get? x = some (excO C t0)) (hnx : K.lookup x = none) (hroom : A.depth < recursionLimit)
    (hq : ∀ h' tk d, InitEnd hp h' x C fs vs d → R (.ok (.ret .none)) ⟨h', g, dr, tk, os⟩) :
    codeAny (model P w) A (.call (.ref fI) ⟨.ref x :: vs, []⟩) R ⟨hp, g, dr, t, os⟩ := by
  match fs, vs, hv, hf, T, hq with
  | [], [], _, _, T, hq => exact own_init0 T X hlim hG hB hb hx hnx hroom hq
  | [f], [v], _, _, T, hq => exact own_init1 T X hlim hG hB hb hx hnx hroom hq
  | [f, f'], [v, v'], _, _, T, hq => exact own_init2 T X hlim hG hB hb hx hnx hroom hq
  | _ :: _ :: _ :: _, _, _, hf, _, _ => exact absurd hf (by simp)
theorem own_made (T : ErrTxt P K mg x0 fs C fI) (hv : vs.length = fs.length) (hf : fs.length ≤ 2) (X : K.In hp) (hlim : hp.NoLimit) (hG : hp.Ns mainGlobals mg) (hB : hp.Ns builtinsNs mb) (hb : mb "super" = some (.type "super")) (hroom : A.depth + 1 < recursionLimit)
    (hq : ∀ h' tk e d, OwnMade hp h' e C fs vs d → R (.ok (.ret (.ref e))) ⟨h', g, dr, tk, os⟩) :
    codeAny (model P w) A (.call (.ref C) ⟨vs, []⟩) R ⟨hp, g, dr, t, os⟩ := by
  obtain ⟨nm, q, N, bs, bm, sn, sub, ab, col, dd, k0, k1, k2, k3, k5, hC, hbm⟩ := T.cls
  have k : ∀ b o, hp.get? b = some o → ((hp.push (kdv_tup vs)).push (excO C hp.objs.size)).get? b = some o := fun b o e => Heap.get?_push_of_some _ (Heap.get?_push_of_some _ e)
  have hget : ((hp.push (kdv_tup vs)).push (excO C hp.objs.size)).get? (hp.objs.size + 1) = some (excO C hp.objs.size) := by heap_get
  have hnx : K.lookup (hp.objs.size + 1) = none := by
    cases e : K.lookup (hp.objs.size + 1) with
    | none => rfl
    | some o =>
      have z : hp.get? (hp.objs.size + 1) = some o := X _ _ e
      exact absurd (Nat.lt_of_succ_lt (Heap.lt_size z)) (Nat.lt_irrefl _)
  refine call_own F.excBase_ValueError (fun X => refsVE_contains X bm hbm) (X _ _ hC) (looks_findIn X T.iC) (fun self => bind_fn X self T.tC) (sz_two (by rw [hv]; exact hf)) ?_
  refine own_init T hv hf (X.keeps k) (hlim.keeps k) (hG.keeps k) (hB.keeps k) hb hget hnx (by show A.depth + 1 < recursionLimit; exact hroom) fun h' tk' d I => ?_
  have old : ∀ b o, hp.get? b = some o → h'.get? b = some o := fun b o e => I.keep b o (Nat.ne_of_lt (Nat.lt_succ_of_lt (Heap.lt_size e))) (k b o e)
  refine ⟨rfl, hq h' tk' (hp.objs.size + 1) d ⟨old, Nat.le_succ _, I.obj, ?_⟩⟩
  rcases I.fld with z | ⟨e0, dx, e1, e2, e3, e4⟩
  · exact .inl z
  · refine .inr ⟨e0, dx, e1, ?_, e3, e4⟩
    have q := e2
    rw [Heap.size_push, Heap.size_push] at q
    exact Nat.le_trans (Nat.le_trans (Nat.le_succ _) (Nat.le_succ _)) q
end
open L2
theorem relO_zip : ∀ {fs : List Str} {vs : List V} {us : List Value}, Vals vs us → ∀ y : Str, RelO ((fs.zip vs).lookup y) ((fs.zip us).lookup y)
  | [], _, _, _, _ => trivial
  | _ :: _, _, _, .nil, _ => trivial
  | f :: fs, _, _, .cons (a := v) (b := u) (l₁ := vs) (l₂ := us) r t, y => by
    show RelO (match y == f with | true => some v | false => (fs.zip vs).lookup y) (match y == f with | true => some u | false => (fs.zip us).lookup y)
    cases y == f with
    | true => exact r
    | false => exact relO_zip t y
/-- C(e, ..): the class, the dict that holds the fields -/
def tMkE (C : Addr) (fs : List Str) (ta : TA) : L2.St → Hp → XK → Prop := fun σ H Q => ta σ H fun vs H1 => vs.length = fs.length ∧ (if fs = [] then Q (.ref C) none H1 else ∀ d, H1 d = none → Q (.ref C) (some d) (upd H1 d (.xd (fs.zip vs))))
section
variable {X : Cx} {x : Str} {fs : List Str} {C fI : Addr} {k : Nat}
theorem made_end {pins : List (Addr × Obj)} {σ : L2.St} {H1 : Hp} {Q : XK} {hp : Heap} {g : Array GenState} {dr : Drawn} {t : Nat} {os : OsState} {vs : List V} {us : List Value} (T : ErrTxt X.prog X.K X.mg x fs C fI) (hr : Room k X.A) (hf : fs.length ≤ 2)
    (I1 : Inv X pins σ H1 ⟨hp, g, dr, t, os⟩) (r : Vals vs us) (hl : vs.length = fs.length) (q : if fs = [] then Q (.ref C) none H1 else ∀ d, H1 d = none → Q (.ref C) (some d) (upd H1 d (.xd (fs.zip vs)))) :
    wpAny (model X.prog X.w) X.A (call (.ref C) us) (L2N.MkP X pins σ Q) X.xe ⟨hp, g, dr, t, os⟩ := by
  obtain ⟨mb, hB, hb⟩ := I1.mod.blt
  have hG := I1.mod.glob.keeps I1.bk
  refine wpAny_call (own_made T (by rw [← hl]; exact (Paired.length r).symm) hf I1.kIn I1.nolimit hG (hB.keeps I1.bk) ((hb "super" (by decide)).trans rfl) (by have := hr.dp; omega) fun h' tk' e d M => ?_)
  show L2N.MkP X pins σ Q (.ref e) ⟨h', g, dr, tk', os⟩
  obtain ⟨t1, hoe⟩ := M.obj
  obtain ⟨G', g1, g2⟩ := restrict h' fun b => decide (b ≠ e)
  have gk : ∀ b, b ≠ e → G'.get? b = h'.get? b := fun b hb => g1 b (decide_eq_true hb)
  have ge : G'.get? e = none := g2 e (by simp)
  have old : ∀ b o, hp.get? b = some o → G'.get? b = some o := fun b o q => (gk b (Nat.ne_of_lt (Nat.lt_of_lt_of_le (Heap.lt_size q) M.new))).trans (M.keep b o q)
  have back : ∀ b o, G'.get? b = some o → h'.get? b = some o := fun b o q => by
    by_cases hb : b = e
    · rw [hb, ge] at q; cases q
    · exact (gk b hb).symm.trans q
  have zn : L2N.Zn (.ref C) d { cls := .ref C, dict := d, data := .fields #[.ref t1, .none, .none, .none, .bool false, .none] } := ⟨rfl, rfl, fun vs e => by cases e; rfl⟩
  rcases M.fld with ⟨rfl, rfl⟩ | ⟨hfs, dx, rfl, dn, dne, mm, hns, hmm⟩
  · rw [if_pos rfl] at q
    exact ⟨e, _, _, ⟨G', g, dr, tk', os⟩, H1, .ref C, none, rfl, I1.kept (t' := tk') old, back, ge, hoe, zn, rfl, rfl, I1.hok.fresh M.new, rfl, I1.bare, raises_own T.xf.exC T.tyC, q⟩
  · rw [if_neg hfs] at q
    have ob : ObjOk X.prog X.w (upd H1 dx (.xd (fs.zip vs))) G' dx (.xd (fs.zip vs)) := ⟨_, hns.at (fun o q => (gk dx dne).trans q), fun f => by rw [hmm]; exact relO_zip r f⟩
    have J : Inv X pins σ (upd H1 dx (.xd (fs.zip vs))) ⟨G', g, dr, tk', os⟩ := I1.laid (t' := tk') old dn ob
    refine ⟨e, _, _, ⟨G', g, dr, tk', os⟩, _, .ref C, some dx, rfl, J, back, ge, hoe, zn, rfl, rfl, ?_, rfl, I1.bare, raises_own T.xf.exC T.tyC, q dx (I1.hok.fresh dn)⟩
    rw [upd_ne (Ne.symm dne)]
    exact I1.hok.fresh M.new
/-- C(e, ..) -/
theorem pmk_err {e : Expr} {es : List Expr} {ta : TA} {p pos : Pos} (T : ErrTxt X.prog X.K X.mg x fs C fI) (hr : Room k X.A) (hf : fs.length ≤ 2) (ha : PA X (e :: es) ta) (hg : Gl X x := by rfl) (hdb : (x == ("__debug__" : Str)) = false := by decide)
    (he : starEach (e :: es) X.env = (false, eval e X.env) :: starEach es X.env := by rfl) (hpl : (backTo pos (starEach es X.env)).any (·.1) = false := by rfl) :
    L2N.PMk X (.Call (.Name x p) (e :: es) [] pos) (tMkE C fs ta) := by
  intro pins s σ H Q I h
  refine wpAny_Call_Name_kw (ld_glob I hg T.gC ?_ hdb)
  refine PySem.W.callWith_K (h₀ := X.base) I.ok.mod.kin T.kC (thn (ha.run pos pins s σ H _ I h) fun us s1 hh => ?_) he hpl
  obtain ⟨vs, H1, I1, r1, hl, q1⟩ := hh
  exact ⟨I1.kIn, made_end T hr hf I1 r1 hl q1⟩
/-- C() -/
theorem pmk_err0 {p pos : Pos} (T : ErrTxt X.prog X.K X.mg x [] C fI) (hr : Room k X.A) (hg : Gl X x := by rfl) (hdb : (x == ("__debug__" : Str)) = false := by decide) : L2N.PMk X (.Call (.Name x p) [] [] pos) (fun _ H Q => Q (.ref C) none H) := by
  intro pins s σ H Q I h
  refine wpAny_Call_Name_kw (ld_glob I hg T.gC ?_ hdb)
  exact PySem.W.callWith_K0 I.kIn T.kC (made_end T hr (by decide) I .nil rfl (by rw [if_pos rfl]; exact h))
end
end FA

/-! FA12: the caught error handed to defs within the suite: isinstance, its fields, the defs' promises. -/
namespace FA
open PySem PySem.Spec PyProof.Rows L2 L2H
/-- what a class says for isinstance of its errors -/
structure ErrIs (K : PySem.W.Frag) (D : Addr) : Prop where
  xf : XfC K D
  ha : PySem.W.findIn K (.ref D) "__class__" = some (some (.builtin "object.__class__"))
  hn : PySem.W.specialIn K (.builtin "object.__class__") "__get__" = some (some (.builtin "getset_descriptor.__get__"))
  ht : PySem.W.takesIn K (.builtin "object.__class__") = some true
  hm : PySem.W.mroIn K D (.type "object") = some true
/-- the error's dict is tracked -/
def XdOk (H : Hp) (d : Option Addr) : Prop := d = none ∨ ∃ dd fs, d = some dd ∧ H dd = some (.xd fs)
section
variable {X : Cx} {a : Addr} {oe : Obj} {cls : Value} {d : Option Addr}
/-- isinstance(e, c) -/
def rIsX (K : PySem.W.Frag) (a : Addr) (cls : Value) (d : Option Addr) : List V → Hp → VK → Prop := fun xs H Q => ∃ (c : V) (cv : Value) (b : Bool) (D : Addr), xs = [.ref a, c] ∧ (∀ u, RelV c u → u = cv) ∧ cls = .ref D ∧ ErrIs K D ∧ XdOk H d ∧ PySem.W.kitOne K (.ref D) cv = some b ∧ Q (.bl b) H
theorem call_isX (hp : (a, oe) ∈ X.pn) (hz : L2N.Zn cls d oe) (hf : ∃ vs, oe.data = .fields vs) : CallR X (.builtin "isinstance") (rIsX X.K a cls d) := by
  intro pins s σ H xs us Q I r h
  obtain ⟨c, cv, b, D, rfl, hcv, rfl, C, hx, e, q⟩ := h
  cases r with
  | cons rx rr =>
    cases rr with
    | cons rt rr =>
      cases rr
      cases rx
      have ec := hcv _ rt
      subst ec
      obtain ⟨hget, _⟩ := I.pin (a, oe) (List.mem_append.mpr (.inl hp))
      obtain ⟨vs, hv⟩ := hf
      have hcl : (PySem.W.clsIn X.K D).isSome = true := by
        obtain ⟨cd, hc, _⟩ := PySem.W.any_some C.xf.hdC
        rw [hc]
        rfl
      have J : ∃ od, PySem.W.InstAt s.heap a oe D od := by
        obtain ⟨h1, h2, _⟩ := hz
        rcases hx with rfl | ⟨dd, fs, rfl, hd⟩
        · exact ⟨none, hget, h1, by unfold PySem.W.notCls; rw [hv] <;> rfl, by rw [h2]; trivial⟩
        · obtain ⟨mA, hns, hr⟩ := (show ObjOk X.prog X.w H s.heap dd (.xd fs) from I.hok dd _ hd)
          obtain ⟨od, ho, hl⟩ := lookIn_ns hns
          exact ⟨some od, hget, h1, by unfold PySem.W.notCls; rw [hv] <;> rfl, by rw [h2]; exact ho⟩
      obtain ⟨od, J⟩ := J
      exact PySem.W.kia_one (PySem.W.kitx_exc hcl C.xf.ga C.xf.gg C.xf.exC C.ha C.hn C.ht C.hm) I.kIn J e (fun z => nomatch z) fun tk => ⟨.bl b, H, I.kept (t' := tk) fun _ _ z => z, rfl, q⟩
/-- e.f -/
def tXfl (K : PySem.W.Frag) (a : Addr) (cls : Value) (d : Option Addr) (f : Str) (te : TE) : TE := fun σ H Q => te σ H fun x H1 => x = .ref a ∧ ∃ (D dd : Addr) (fs : List (Str × V)) (v : V), cls = .ref D ∧ XfC K D ∧ PySem.W.findIn K (.ref D) f = some none ∧ d = some dd ∧ H1 dd = some (.xd fs) ∧ fs.lookup f = some v ∧ Q v H1
theorem pe_xfl {e : Expr} {te : TE} {pos : Pos} {n : Str} (hp : (a, oe) ∈ X.pn) (hz : L2N.Zn cls d oe) (hf : ∃ vs, oe.data = .fields vs) (he : PE X e te) (hb : attributeBase e n X.env (eval e X.env) = eval e X.env := by rfl) :
    PE X (.Attribute e n pos) (tXfl X.K a cls d n te) := by
  refine ⟨fun pins s σ H Q I h => ?_⟩
  refine attr_of hb (thn (he.run pins s σ H _ I h) fun u s1 hh => ?_)
  obtain ⟨x, H1, I1, rx, ex, D, dd, fs, v, ec, T, hno, ed, ea, l, q⟩ := hh
  subst ex
  obtain rfl : u = Value.ref a := rx
  subst ec
  subst ed
  obtain ⟨ha, _⟩ := I1.pin (a, oe) (List.mem_append_left _ hp)
  obtain ⟨vs, hd⟩ := hf
  obtain ⟨mA, hns, hr⟩ := (show ObjOk X.prog X.w H1 s1.heap dd (.xd fs) from I1.hok dd _ ea)
  obtain ⟨od, ho, hl⟩ := lookIn_ns hns
  obtain ⟨u, hu, ru⟩ := RelO.some_of (v := v) (o := mA n) (by rw [← l]; exact hr n)
  have J : PySem.W.InstAt s1.heap a oe D (some od) := ⟨ha, hz.1, by unfold PySem.W.notCls; rw [hd] <;> rfl, by rw [hz.2.1]; exact ho⟩
  exact HandSPX.exc_get I1.kIn J T.ga T.gg T.exC (PySem.W.findObj_own T.hdC hno rfl (by rw [hl, hu])) (handed_of ru) ⟨v, H1, I1.tok _, ru, q⟩
end
/-- what a def promises that is handed the caught error -/
structure FnE (P : Program) (w : World) (K : PySem.W.Frag) (mg : Str → Option Value) (base : Heap) (CX : CXT) (k : Nat) (f : Addr) (fd : FuncData) (ps : List Str) (sp : Addr → Value → Option Addr → Sp) : Prop where
  len : ∀ a c d vs H Q E, sp a c d vs H Q E → vs.length = ps.length
  run : ∀ (A : Around) (outer : List Env) (s : Shared) (H : Hp) (args : Args) (us : List Value) (vs : List V) (Q : VK) (E : XK) (p : Addr × Obj) (cls : Value) (d : Option Addr), RoomH k A → Hot1 A p → PinOk outer H s p → L2N.Zn cls d p.2 → Env0 P w K mg base A outer s H → BindsTo s fd args (ps.zip us) → Vals vs us → sp p.1 cls d vs H Q E →
    codeAny (model P w) A (.call (.ref f) args) (CR CX outer P w H s Q E) s
section
variable {P : Program} {w : World} {K : PySem.W.Frag} {mg : Str → Option Value} {base : Heap} {CX : CXT}
theorem okE {x qual : Str} {st : Stmt} {f : Addr} {fd : FuncData} {N ps : List Str} {k : Nat} {sp : Addr → Value → Option Addr → Sp} (F : Fun K x qual st f fd) (S : FnScope N ps (defScope st)) (len : ∀ a c d vs H Q E, sp a c d vs H Q E → vs.length = ps.length)
    (hb : ∀ (cdv : Value) (A : Around) (outer : List Env) (s : Shared) (H : Hp) (vs : List V) (Q : VK) (E : XK) (p : Addr × Obj) (cls : Value) (d : Option Addr), Hot1 A p → L2N.Zn cls d p.2 → RoomH k (A.deeper (envOfC qual (defScope st) s.heap.objs.size f cdv)) → sp p.1 cls d vs H Q E →
      WSs (cxH CX P w K mg base N qual (defScope st) f cdv A outer s H E p) (defBody st) { nx := fun _ H' => Q .non H', rt := Q } (L2.start N vs) H) :
    FnE P w K mg base CX (k + 1) f fd ps sp := by
  obtain ⟨oc, od, kV, doc, pm, an, cdv, ct, osl, rfl, lk, hcd⟩ := F.ex
  refine ⟨len, fun A outer s H args us vs Q E p cls d hr hot hpin hz e0 hbi r hsp => ?_⟩
  have hl := len _ _ _ _ _ _ _ hsp
  have KX : K.In s.heap := e0.mod.kin.keeps fun b o e => (e0.bs b o e).1
  have lim : s.heap.NoLimit := e0.mod.nolimit.keeps fun b o e => (e0.bs b o e).1
  have kinds : ∀ y ∈ ps.zip us, (defScope st).names.lookup y.1 = some .local ∨ ((defScope st).names.lookup y.1 = some .cell ∧ ((cellsFrom (s.heap.objs.size + 1) (defScope st).names []).lookup y.1).isSome = true) := by
    rintro ⟨n, v⟩ hy
    rcases S.par n (List.of_mem_zip hy).1 with z | z
    · exact .inl z
    · exact .inr ⟨z, PySem.W.cellsFrom_some _ _ _ (.inl z)⟩
  refine codeAny_call_function hr.depth (KX _ _ lk) rfl S.co S.gen rfl (PySem.W.codeRec_of KX hcd) (hbi _ _ _ _ (wpAny_newFunctionEnv_cells S.kind kinds fun env he s1 x => ?_))
  subst he
  refine ⟨lim.keeps x.toInCall.keep, codeAny_func ?_⟩
  have I : Inv (cxH CX P w K mg base N qual (defScope st) f cdv A outer s H E p) [] (L2.start N vs) H s1 := inv_startH S hpin e0 hl r x
  refine wpAny_mono (hb cdv A outer s H vs Q E p cls d hot hz (hr.deeper _) hsp [] s1 I) (fun fl s' z => ?_) fun e s' z => z
  match fl, z with
  | .ret u, z =>
    obtain ⟨v, _, H', J, rv, y⟩ := z
    exact ⟨v, H', J.os, J.bare, J.base, J.hok, rv, y⟩
  | .next, z =>
    obtain ⟨_, H', J, y⟩ := z
    exact ⟨V.non, H', J.os, J.bare, J.base, J.hok, rfl, y⟩
  | .brk, z =>
    obtain ⟨_, _, _, y⟩ := z
    exact y.elim
  | .cont, z =>
    obtain ⟨_, _, _, y⟩ := z
    exact y.elim
end
section
variable {X : Cx} {CX : CXT} {k : Nat} {f : Addr} {fd : FuncData} {ps : List Str} {sp : Addr → Value → Option Addr → Sp} {E : L2.St → XK} {x : Str} {q pos : Pos} {e : Expr} {es : List Expr} {t : TA} {a : Addr} {oe : Obj} {cls : Value} {d : Option Addr}
/-- f(.., e, ..) within the suite -/
theorem pe_callE (F : FnE X.prog X.w X.K X.mg X.base CX k f fd ps sp) (hr : RoomH k X.A) (hh : Hot1 X.A (a, oe)) (hp : (a, oe) ∈ X.pn) (hz : L2N.Zn cls d oe) (hg : Gl X x) (hm : X.mg x = some (.ref f)) (hk : PySem.W.keepIn X.K (.ref f) = true) (hb : Binds X.K fd ps []) (hx : ∀ σ, PassesAt CX X σ (E σ))
    (ha : PA X (e :: es) t) (hdb : (x == ("__debug__" : Str)) = false := by decide) (he : starEach (e :: es) X.env = (false, eval e X.env) :: starEach es X.env := by rfl) (hpl : (backTo pos (starEach es X.env)).any (·.1) = false := by rfl) :
    PE X (.Call (.Name x q) (e :: es) [] pos) (tCallS (sp a cls d) E t) := by
  refine ⟨fun pins s σ H Q I h => ?_⟩
  refine wpAny_Call_Name_kw (ld_glob I hg hm ?_ hdb)
  refine PySem.W.callWith_K (h₀ := X.base) I.ok.mod.kin hk (thn (ha.run pos pins s σ H _ I h) fun us s1 ⟨vs, H1, I1, r, q⟩ => ⟨I1.kIn, ?_⟩) he hpl
  have hl : us.length = ps.length := by rw [← r.length]; exact F.len _ _ _ _ _ _ _ q
  have b := hb s1 us I1.kIn (by rw [List.append_nil]; exact hl)
  rw [List.append_nil] at b
  have P1 := I1.pin (a, oe) (List.mem_append_left _ hp)
  have hpin : PinOk X.stack H1 s1 (a, oe) := ⟨P1.1, P1.2.1, fun hm => (List.mem_cons.mp (I1.stkSub a hm)).elim P1.2.2.1 P1.2.2.2.1, P1.2.2.2.2⟩
  refine wpAny_call (codeAny_mono (F.run X.A X.stack s1 H1 ⟨us, []⟩ us vs Q (E σ) (a, oe) cls d hr hh hpin hz I1.env0 b r q) fun r s' hq => ?_)
  match r, hq with
  | .error e, hq => exact hx σ pins H1 s1 e s' I1 hq
  | .ok (.ret u), hq => exact I1.after hq
end
section
variable {P : Program} {w : World} {K : PySem.W.Frag} {mg : Str → Option Value} {base : Heap}
/-- a def of the text that may raise (the context of what it raises is None) -/
theorem okGN {x qual : Str} {st : Stmt} {f : Addr} {fd : FuncData} {N ps : List Str} {k : Nat} {sp : Sp} (F : Fun K x qual st f fd) (S : FnScope N ps (defScope st)) (len : ∀ vs H Q E, sp vs H Q E → vs.length = ps.length)
    (hb : ∀ (cdv : Value) (A : Around) (outer : List Env) (s : Shared) (H : Hp) (vs : List V) (Q : VK) (E : XK), Room k (A.deeper (envOfC qual (defScope st) s.heap.objs.size f cdv)) → (A.deeper (envOfC qual (defScope st) s.heap.objs.size f cdv)).guards = some [] →
      sp vs H Q E → WSs (cxOf (L2N.CX P w) P w K mg base N qual (defScope st) f cdv A outer s H E) (defBody st) { nx := fun _ H' => Q .non H', rt := Q } (start N vs) H) : FnG P w K mg base (L2N.CX P w) (k + 1) f fd ps sp := by
  obtain ⟨oc, od, kV, doc, pm, an, cdv, ct, osl, rfl, lk, hcd⟩ := F.ex
  exact fn_g lk hcd S len fun A outer s H vs Q E hr hG hsp => hb cdv A outer s H vs Q E hr hG hsp
end
end FA

/-! FA13: == of values that stand for the same datum, dicts within. -/
namespace FA
open PySem PySem.Spec PyProof.Rows L2
mutual
/-- no dict with tuples as keys -/
def noT : PyData → Bool
  | .list xs | .tuple xs => noTAll xs
  | .dict kvs => noTKv kvs
  | _ => true
def noTAll : List PyData → Bool
  | [] => true
  | x :: xs => noT x && noTAll xs
def noTKv : List (PyData × PyData) → Bool
  | [] => true
  | (k, v) :: r => scal1 k && noT v && noTKv r
end
theorem noTKv_vals : ∀ {ks ds : List PyData}, ks.length = ds.length → noTKv (ks.zip ds) = true → noTAll ds = true
  | [], [], _, _ => rfl
  | k :: ks, d :: ds, e, h => by
    rw [List.zip_cons_cons, noTKv, Bool.and_eq_true, Bool.and_eq_true] at h
    rw [noTAll, Bool.and_eq_true]
    exact ⟨h.1.2, noTKv_vals (by simpa using e) h.2⟩
theorem keyD_inj {a b : Key} (h : keyD a = keyD b) : a = b := by
  cases a <;> cases b <;> simp [keyD] at h <;> rw [h]
theorem map_keyD_inj : ∀ {as bs : List Key}, as.map keyD = bs.map keyD → as = bs
  | [], [], _ => rfl
  | [], _ :: _, h => by cases h
  | _ :: _, [], h => by cases h
  | a :: as, b :: bs, h => by
    rw [List.map_cons, List.map_cons, List.cons.injEq] at h
    rw [keyD_inj h.1, map_keyD_inj h.2]
section
variable {X : Cx} {pins : List (Addr × Obj)} {σ : L2.St} {H : Hp} {s : Shared}
/-- a dict with plain keys -/
def DView (X : Cx) (H : Hp) (s : Shared) (a : Addr) (kvs : List (Key × V)) : Prop := (a == sysModules) = false ∧ ∃ va, KV kvs va ∧ s.heap.DictOf (mixKind X.prog X.w) a va
theorem viewK (I : Inv X pins σ H s) {a : Addr} {kvs : List (Key × V)} (h : Rd H a (.dK kvs)) : DView X H s a kvs := (dk_rd I.hok h).2
theorem viewT (I : Inv X pins σ H s) {a : Addr} (h : H a = some (.dT [])) : DView X H s a [] := by
  obtain ⟨_, hn, xs, kv, o, es, ep, ho, hx, hd, he, _⟩ := dt_rd I.hok (.inl h)
  cases kv
  have e0 : es = #[] := by
    have : es.toList = [] := by rw [he]; rfl
    exact Array.toList_eq_nil_iff.mp this
  subst e0
  exact ⟨hn, [], .nil, o, #[], ep, ho, hx, hd, fun e he => absurd he (by simp), .nil, .nil⟩
/-- the view of what stands for a dict -/
theorem Dt.view (I : Inv X pins σ H s) {v : V} {dd : PyData} (h : Dt X.K H v dd) {kvs : List (PyData × PyData)} (e : dd = .dict kvs) (hn : noTKv kvs = true) :
    ∃ (a : Addr) (ks : List (Key × V)) (ds : List PyData), v = .ref a ∧ kvs = (ks.map fun p => keyD p.1).zip ds ∧ DtAll X.K H (ks.map (·.2)) ds ∧ DView X H s a ks := by
  cases h with
  | @dK a ks ds h k =>
    injection e with e
    exact ⟨a, ks, ds, rfl, e.symm, k, viewK I h⟩
  | @dT a ks ds h k =>
    injection e with e
    cases ks with
    | nil =>
      cases k
      exact ⟨a, [], [], rfl, e.symm, .nil, viewT I h⟩
    | cons p ks =>
      subst e
      cases k with
      | cons k1 k2 =>
        rw [List.map_cons, List.zip_cons_cons, noTKv] at hn
        cases hn
  | _ => cases e
theorem same_zip {ks ls : List Key} {ds es : List PyData} (h1 : ks.length = ds.length) (h2 : ls.length = es.length) (e : (ks.map keyD).zip ds = (ls.map keyD).zip es) : ks = ls ∧ ds = es := by
  have a := congrArg (List.map (·.1)) e
  have b := congrArg (List.map (·.2)) e
  rw [zip_fst (by simpa using h1), zip_fst (by simpa using h2)] at a
  rw [zip_snd (by simpa using h1), zip_snd (by simpa using h2)] at b
  exact ⟨map_keyD_inj a, b⟩
theorem all_true (n : Nat) : ((List.range n).all fun _ => true) = true := by simp
theorem leafT {d : PyData} {u u' : Value} {as bs : List Addr} {n : Nat} (r1 : Reads s.heap u d as) (r2 : Reads s.heap u' d bs) (hp : d.plain = true) (hn : d.depth ≤ n) : PySem.W.EqTree X.prog X.w s n u u' true :=
  .leaf fun A hu => by
    have := SeqAt.eqAt_plain d d A s u u' as bs r1 r2 hp hp (by rw [Nat.min_self]; omega)
    rwa [SeqAt.eqv_refl_plain d hp] at this
/-- two dicts entry by entry -/
theorem dictT {a b : Addr} {ks ls : List (Key × V)} {n : Nat} (hk : ks.map (·.1) = ls.map (·.1)) (va vb : List (Key × Value)) (ra : KV ks va) (rb : KV ls vb) (db : s.heap.DictOf (mixKind X.prog X.w) b vb)
    (t : ∀ j (h1 : j < (va.map (·.2)).length) (h2 : j < (vb.map (·.2)).length), PySem.W.EqTree X.prog X.w s n (va.map (·.2))[j] (vb.map (·.2))[j] true) :
    (∀ k v y, (k, v) ∈ va → valueAt vb k = some y → PySem.W.EqTree X.prog X.w s n v y ((fun _ => true) k)) ∧ (va.length == vb.length && va.all fun p => (valueAt vb p.1).isSome && (fun _ => true) p.1) = true := by
  have kk : va.map (·.1) = vb.map (·.1) := by rw [← ra.keys, ← rb.keys]; exact hk
  have hl : va.length = vb.length := by simpa using congrArg List.length kk
  obtain ⟨_, _, _, _, _, _, _, _, hnd⟩ := db
  refine ⟨fun k v y hm hy => ?_, ?_⟩
  · obtain ⟨i, hi, e⟩ := List.mem_iff_getElem.mp hm
    have hi' : i < vb.length := hl ▸ hi
    have e2 : vb[i].1 = k := by
      have : (va.map (·.1))[i]'(by simpa using hi) = (vb.map (·.1))[i]'(by simpa using hi') := by simp only [kk]
      rw [List.getElem_map, List.getElem_map, e] at this
      exact this.symm
    have hv := valueAt_of_get hnd (i := i) (k := k) (v := vb[i].2) (by rw [List.getElem?_eq_getElem hi', ← e2])
    rw [hv] at hy
    cases hy
    have q := t i (by simpa using hi) (by simpa using hi')
    rw [List.getElem_map, List.getElem_map, e] at q
    exact q
  · rw [Bool.and_eq_true]
    refine ⟨by simpa using hl, List.all_eq_true.mpr fun p hp => ?_⟩
    rw [Bool.and_true]
    refine valueAt_isSome.mpr ?_
    rw [← kk]
    exact List.mem_map_of_mem hp
mutual
theorem Dt.tree (I : Inv X pins σ H s) {v : V} {d : PyData} : Dt X.K H v d → ∀ {v' : V}, Dt X.K H v' d → noT d = true → ∀ {n : Nat}, d.depth ≤ n → ∀ {u u' : Value}, RelV v u → RelV v' u' → PySem.W.EqTree X.prog X.w s n u u' true
  | .non, v', h', ht, n, hn, u, u', r, r' => by
    obtain ⟨_, r1, _⟩ := Dt.reads I (.non (K := X.K) (H := H)) r
    obtain ⟨_, r2, _⟩ := Dt.reads I h' r'
    exact leafT r1 r2 rfl hn
  | .bl b, v', h', ht, n, hn, u, u', r, r' => by
    obtain ⟨_, r1, _⟩ := Dt.reads I (.bl (K := X.K) (H := H) b) r
    obtain ⟨_, r2, _⟩ := Dt.reads I h' r'
    exact leafT r1 r2 rfl hn
  | .int i, v', h', ht, n, hn, u, u', r, r' => by
    obtain ⟨_, r1, _⟩ := Dt.reads I (.int (K := X.K) (H := H) i) r
    obtain ⟨_, r2, _⟩ := Dt.reads I h' r'
    exact leafT r1 r2 rfl hn
  | .str x, v', h', ht, n, hn, u, u', r, r' => by
    obtain ⟨_, r1, _⟩ := Dt.reads I (.str (K := X.K) (H := H) x) r
    obtain ⟨_, r2, _⟩ := Dt.reads I h' r'
    exact leafT r1 r2 rfl hn
  | .lst (a := a) (xs := xs) (ds := ds) h k, v', h', ht, n, hn, u, u', r, r' => by
    cases h' with
    | @lst b ys _ h2 k2 =>
      cases r
      cases r'
      obtain ⟨its, rv, pl, _⟩ := I.list (.inl h)
      obtain ⟨its', rv', pl', _⟩ := I.list (.inl h2)
      by_cases hab : a = b
      · subst hab
        exact .same
      · obtain ⟨m, rfl⟩ : ∃ m, n = m + 1 := ⟨n - 1, by rw [PyData.depth] at hn; omega⟩
        have t := DtAll.tree I k k2 (by simpa [noT] using ht) (n := m) (by rw [PyData.depth] at hn; omega) rv rv'
        have q := PySem.W.EqTree.lists (e := fun _ => true) hab pl.isList pl'.isList (by rw [List.size_toArray, List.size_toArray, ← rv.length, ← rv'.length, k.len, k2.len]) fun j h1 h2 => t j (by simpa using h1) (by simpa using h2)
        rwa [all_true] at q
  | .tup (a := a) (xs := xs) (ds := ds) h k, v', h', ht, n, hn, u, u', r, r' => by
    cases h' with
    | @tup b ys _ h2 k2 =>
      cases r
      cases r'
      obtain ⟨its, rv, pl, _⟩ := I.tuple h
      obtain ⟨its', rv', pl', _⟩ := I.tuple h2
      by_cases hab : a = b
      · subst hab
        exact .same
      · obtain ⟨m, rfl⟩ : ∃ m, n = m + 1 := ⟨n - 1, by rw [PyData.depth] at hn; omega⟩
        have t := DtAll.tree I k k2 (by simpa [noT] using ht) (n := m) (by rw [PyData.depth] at hn; omega) rv rv'
        have q := PySem.W.EqTree.tuples (e := fun _ => true) hab pl pl' fun j h1 h2 => t j (by simpa using h1) (by simpa using h2)
        have hz : its.toArray.size = its'.toArray.size := by rw [List.size_toArray, List.size_toArray, ← rv.length, ← rv'.length, k.len, k2.len]
        rw [all_true, hz] at q
        simpa using q
  | .dK (a := a) (kvs := kvs) (ds := ds) h k, v', h', ht, n, hn, u, u', r, r' => by
    cases r
    obtain ⟨b, ls, es, rfl, ez, k2, vb⟩ := Dt.view I h' rfl ht
    cases r'
    have l1 : (kvs.map (·.1)).length = ds.length := by rw [List.length_map, ← k.len, List.length_map]
    have l2 : (ls.map (·.1)).length = es.length := by rw [List.length_map, ← k2.len, List.length_map]
    have ez' : ((kvs.map (·.1)).map keyD).zip ds = ((ls.map (·.1)).map keyD).zip es := by rw [List.map_map, List.map_map]; exact ez
    obtain ⟨ek, rfl⟩ := same_zip l1 l2 ez'
    by_cases hab : a = b
    · subst hab
      exact .same
    · obtain ⟨ya, va, ra, da⟩ := viewK I h
      obtain ⟨yb, vb, rb, db⟩ := vb
      obtain ⟨m, rfl⟩ : ∃ m, n = m + 1 := ⟨n - 1, by rw [PyData.depth] at hn; omega⟩
      have hl : (kvs.map fun p => keyD p.1).length = ds.length := by rw [List.length_map, ← k.len, List.length_map]
      have t := DtAll.tree I k k2 (noTKv_vals hl (by simpa [noT] using ht)) (n := m) (by rw [PyData.depth] at hn; have := (kv_depth hl).2; omega) (kv_split ra).2 (kv_split rb).2
      obtain ⟨t1, t2⟩ := dictT (X := X) (a := a) ek va vb ra rb db t
      have q := PySem.W.EqTree.dicts (e := fun _ => true) hab ya yb da db t1
      rwa [t2] at q
  | .dT (a := a) (kvs := kvs) (ds := ds) h k, v', h', ht, n, hn, u, u', r, r' => by
    cases kvs with
    | cons p kvs =>
      cases k with
      | cons k1 k2 =>
        rw [List.map_cons, List.zip_cons_cons, noT, noTKv] at ht
        cases ht
    | nil =>
      cases k
      cases r
      obtain ⟨b, ls, es, rfl, ez, k2, vb⟩ := Dt.view I h' rfl ht
      cases r'
      have l2 : (ls.map (·.1)).length = es.length := by rw [List.length_map, ← k2.len, List.length_map]
      have ez' : (([] : List Key).map keyD).zip [] = ((ls.map (·.1)).map keyD).zip es := by rw [List.map_map]; exact ez
      obtain ⟨ek, rfl⟩ := same_zip rfl l2 ez'
      by_cases hab : a = b
      · subst hab
        exact .same
      · obtain ⟨ya, va, ra, da⟩ := viewT I h
        obtain ⟨yb, vb, rb, db⟩ := vb
        obtain ⟨m, rfl⟩ : ∃ m, n = m + 1 := ⟨n - 1, by rw [PyData.depth] at hn; omega⟩
        cases ra
        obtain ⟨t1, t2⟩ := dictT (X := X) (s := s) (a := a) (b := b) (n := m) (ks := []) ek [] vb .nil rb db fun j h1 => absurd h1 (Nat.not_lt_zero _)
        have q := PySem.W.EqTree.dicts (e := fun _ => true) hab ya yb da db t1
        rwa [t2] at q
theorem DtAll.tree (I : Inv X pins σ H s) {vs : List V} {ds : List PyData} : DtAll X.K H vs ds → ∀ {vs' : List V}, DtAll X.K H vs' ds → noTAll ds = true → ∀ {n : Nat}, PyData.depthAll ds ≤ n → ∀ {us us' : List Value}, Vals vs us → Vals vs' us' →
    ∀ j (h1 : j < us.length) (h2 : j < us'.length), PySem.W.EqTree X.prog X.w s n us[j] us'[j] true
  | .nil, vs', h', ht, n, hn, us, us', r, r' => by
    cases r
    exact fun j h1 => absurd h1 (Nat.not_lt_zero _)
  | .cons a b, vs', h', ht, n, hn, us, us', r, r' => by
    cases h' with
    | cons a' b' =>
      cases r with
      | cons r1 r2 =>
        cases r' with
        | cons q1 q2 =>
          rw [noTAll, Bool.and_eq_true] at ht
          rw [PyData.depthAll] at hn
          intro j h1 h2
          cases j with
          | zero => exact Dt.tree I a a' ht.1 (by omega) r1 q1
          | succ j => exact DtAll.tree I b b' ht.2 (by omega) r2 q2 j (Nat.lt_of_succ_lt_succ h1) (Nat.lt_of_succ_lt_succ h2)
end
/-- x == y: both stand for the same datum -/
def rEqS (K : PySem.W.Frag) : R2 := fun x y H Q => ∃ d, Dt K H x d ∧ Dt K H y d ∧ noT d = true ∧ d.depth ≤ 60 ∧ Q (.bl true) H
theorem op_eqS (hu : X.A.units + 64 < cLine) : OpR X (compareOp .Eq) (rEqS X.K) := by
  intro pins s σ H x y v u Q I rx ry h
  obtain ⟨d, hx, hy, ht, hd, q⟩ := h
  have fin : EP X pins σ Q (.bool true) s := ⟨.bl _, H, I, rfl, q⟩
  have plainCase : d.plain = true → wpAny (model X.prog X.w) X.A (compareOp .Eq v u) (EP X pins σ Q) X.xe s := fun hp => by
    obtain ⟨as, r1, _⟩ := Dt.reads I hx rx
    obtain ⟨bs, r2, _⟩ := Dt.reads I hy ry
    exact SeqAt.eq_plain r1 r2 hp hp (by rw [Nat.min_self]; omega) (by rw [SeqAt.eqv_refl_plain d hp]; exact fin)
  cases hx with
  | non => exact plainCase rfl
  | bl b => exact plainCase rfl
  | int i => exact plainCase rfl
  | str z => exact plainCase rfl
  | @lst a xs ds h k =>
    cases hy with
    | @lst b ys _ h2 k2 =>
      cases rx
      cases ry
      obtain ⟨its, rv, pl, _⟩ := I.list (.inl h)
      obtain ⟨its', rv', pl', _⟩ := I.list (.inl h2)
      rw [PyData.depth] at hd
      have t := DtAll.tree I k k2 (by simpa [noT] using ht) (n := PyData.depthAll ds) (Nat.le_refl _) rv rv'
      exact PySem.W.eq_listsT (e := fun _ => true) pl.isList pl'.isList (by rw [List.size_toArray, List.size_toArray, ← rv.length, ← rv'.length, k.len, k2.len]) (fun j h1 h2 => t j (by simpa using h1) (by simpa using h2)) (by omega) (by rw [all_true]; exact fin)
  | @tup a xs ds h k =>
    cases hy with
    | @tup b ys _ h2 k2 =>
      cases rx
      cases ry
      obtain ⟨its, rv, pl, _⟩ := I.tuple h
      obtain ⟨its', rv', pl', _⟩ := I.tuple h2
      rw [PyData.depth] at hd
      have t := DtAll.tree I k k2 (by simpa [noT] using ht) (n := PyData.depthAll ds) (Nat.le_refl _) rv rv'
      have hz : its.toArray.size = its'.toArray.size := by rw [List.size_toArray, List.size_toArray, ← rv.length, ← rv'.length, k.len, k2.len]
      exact PySem.W.eq_tuplesT (e := fun _ => true) pl pl' (fun j h1 h2 => t j (by simpa using h1) (by simpa using h2)) (by omega) (by rw [all_true, hz]; simpa using fin)
  | @dK a kvs ds h k =>
    cases rx
    obtain ⟨b, ls, es, rfl, ez, k2, vb⟩ := Dt.view I hy rfl ht
    cases ry
    have l1 : (kvs.map (·.1)).length = ds.length := by rw [List.length_map, ← k.len, List.length_map]
    have l2 : (ls.map (·.1)).length = es.length := by rw [List.length_map, ← k2.len, List.length_map]
    have ez' : ((kvs.map (·.1)).map keyD).zip ds = ((ls.map (·.1)).map keyD).zip es := by rw [List.map_map, List.map_map]; exact ez
    obtain ⟨ek, rfl⟩ := same_zip l1 l2 ez'
    obtain ⟨ya, va, ra, da⟩ := viewK I h
    obtain ⟨yb, vb, rb, db⟩ := vb
    rw [PyData.depth] at hd
    have hl : (kvs.map fun p => keyD p.1).length = ds.length := by rw [List.length_map, ← k.len, List.length_map]
    have t := DtAll.tree I k k2 (noTKv_vals hl (by simpa [noT] using ht)) (n := PyData.depthAll ds) (Nat.le_refl _) (kv_split ra).2 (kv_split rb).2
    obtain ⟨t1, t2⟩ := dictT (X := X) (a := a) ek va vb ra rb db t
    exact PySem.W.eq_dictsT (e := fun _ => true) ya yb da db t1 (by have := (kv_depth hl).2; omega) (by rw [t2]; exact fin)
  | @dT a kvs ds h k =>
    cases kvs with
    | cons p kvs =>
      cases k with
      | cons k1 k2 =>
        rw [List.map_cons, List.zip_cons_cons, noT, noTKv] at ht
        cases ht
    | nil =>
      cases k
      cases rx
      obtain ⟨b, ls, es, rfl, ez, k2, vb⟩ := Dt.view I hy rfl ht
      cases ry
      have l2 : (ls.map (·.1)).length = es.length := by rw [List.length_map, ← k2.len, List.length_map]
      have ez' : (([] : List Key).map keyD).zip [] = ((ls.map (·.1)).map keyD).zip es := by rw [List.map_map]; exact ez
      obtain ⟨ek, rfl⟩ := same_zip rfl l2 ez'
      obtain ⟨ya, va, ra, da⟩ := viewT I h
      obtain ⟨yb, vb, rb, db⟩ := vb
      cases ra
      obtain ⟨t1, t2⟩ := dictT (X := X) (s := s) (a := a) (b := b) (n := 0) (ks := []) ek [] vb .nil rb db fun j h1 => absurd h1 (Nat.not_lt_zero _)
      exact PySem.W.eq_dictsT (e := fun _ => true) ya yb da db t1 (by omega) (by rw [t2]; exact fin)
/-- x != y: two lists of the same objects -/
def rNeO : R2 := fun x y H Q => ∃ a b xs, x = .ref a ∧ y = .ref b ∧ Rd H a (.lst xs) ∧ Rd H b (.lst xs) ∧ (∀ v ∈ xs, ∃ p, v = V.ref p) ∧ Q (.bl false) H
theorem refs_same : ∀ {xs : List V} {us us' : List Value}, (∀ v ∈ xs, ∃ p, v = V.ref p) → Vals xs us → Vals xs us' → us = us'
  | [], _, _, _, .nil, .nil => rfl
  | _ :: _, _, _, h, .cons r1 r2, .cons q1 q2 => by
    obtain ⟨p, rfl⟩ := h _ List.mem_cons_self
    cases r1
    cases q1
    rw [refs_same (fun v hv => h v (List.mem_cons_of_mem _ hv)) r2 q2]
theorem op_neO (hu : X.A.units + 64 < cLine) : OpR X (compareOp .NotEq) rNeO := by
  intro pins s σ H x y v u Q I rx ry h
  obtain ⟨a, b, xs, rfl, rfl, ha, hb, hr, q⟩ := h
  cases rx
  cases ry
  obtain ⟨its, rv, pl, _⟩ := I.list (.inl ha)
  obtain ⟨its', rv', pl', _⟩ := I.list (.inl hb)
  have e := refs_same hr rv rv'
  subst e
  refine (SeqAt.RcNeAt.lists (e := fun _ => true) pl.isList pl'.isList rfl (by omega) fun j h1 h2 => SeqAt.EqAt.same _) X.prog X.w X.xe _ ?_
  rw [all_true]
  exact ⟨.bl _, H, I, rfl, q⟩
end
end FA

/-! FA14: try .. except C as e, by W; calls of defs that may raise, within it. -/
namespace FA
open PySem PySem.Spec PyProof.Rows L2 L2H
section
variable {X : Cx} {CX : CXT} {k : Nat} {f : Addr} {fd : FuncData} {ps : List Str} {sp : Sp} {E : L2.St → XK} {x : Str} {p pos : Pos} {e : Expr} {es : List Expr} {t : TA}
/-- f(e, ..), what it may raise told by the state -/
theorem pe_callGS (F : FnG X.prog X.w X.K X.mg X.base CX k f fd ps sp) (hr : Room k X.A) (hG : X.A.guards = some []) (hg : Gl X x) (hm : X.mg x = some (.ref f)) (hk : PySem.W.keepIn X.K (.ref f) = true) (hb : Binds X.K fd ps []) (hx : ∀ σ, PassesAt CX X σ (E σ))
    (ha : PA X (e :: es) t) (hdb : (x == ("__debug__" : Str)) = false := by decide) (he : starEach (e :: es) X.env = (false, eval e X.env) :: starEach es X.env := by rfl) (hpl : (backTo pos (starEach es X.env)).any (·.1) = false := by rfl) :
    PE X (.Call (.Name x p) (e :: es) [] pos) (tCallS sp E t) := by
  refine ⟨fun pins s σ H Q I h => ?_⟩
  refine wpAny_Call_Name_kw (ld_glob I hg hm ?_ hdb)
  refine PySem.W.callWith_K (h₀ := X.base) I.ok.mod.kin hk (thn (ha.run pos pins s σ H _ I h) fun us s1 ⟨vs, H1, I1, r, q⟩ => ⟨I1.kIn, ?_⟩) he hpl
  have hl : us.length = ps.length := by rw [← r.length]; exact F.len _ _ _ _ q
  have b := hb s1 us I1.kIn (by rw [List.append_nil]; exact hl)
  rw [List.append_nil] at b
  refine wpAny_call (codeAny_mono (F.go X.A X.stack s1 H1 ⟨us, []⟩ us vs Q (E σ) hr hG I1.env0 b r q) fun r s' hq => ?_)
  match r, hq with
  | .error e, hq => exact hx σ pins H1 s1 e s' I1 hq
  | .ok (.ret u), hq => exact I1.after hq
theorem passF {σ : L2.St} {E' : XK} : PassesAt CX0 X σ E' := fun _ _ _ _ _ _ h => h.elim
theorem takesF : L2N.Takes X (fun _ _ _ _ => False) := fun u s' ⟨a, B, sI, pins, σ, H, cls, d, _, _, _, _, _, _, _, _, z⟩ => z.elim
end
/-- a def of the text that may raise -/
structure ClN (P : Program) (w : World) (K : PySem.W.Frag) (mg : Str → Option Value) (base : Heap) (k : Nat) (x : Str) (ps : List Str) (sp : Sp) : Prop where
  ex : ∃ (f : Addr) (fd : FuncData), FnG P w K mg base (L2N.CX P w) k f fd ps sp ∧ mg x = some (.ref f) ∧ PySem.W.keepIn K (.ref f) = true ∧ Binds K fd ps []
/-- a def that is handed the caught error -/
structure ClE (P : Program) (w : World) (K : PySem.W.Frag) (mg : Str → Option Value) (base : Heap) (k : Nat) (x : Str) (ps : List Str) (sp : Addr → Value → Option Addr → Sp) : Prop where
  ex : ∃ (f : Addr) (fd : FuncData), FnE P w K mg base CX0 k f fd ps sp ∧ mg x = some (.ref f) ∧ PySem.W.keepIn K (.ref f) = true ∧ Binds K fd ps []
section
variable {X : Cx} {k j : Nat} {ps : List Str} {sp : Sp} {x : Str} {p pos : Pos} {e : Expr} {es : List Expr} {t : TA} {W : WX}
theorem pe_clN (C : ClN X.prog X.w X.K X.mg X.base k x ps sp) (hr : Room j X.A) (hG : X.A.guards = some []) (tk : L2N.Takes X W) (ha : PA X (e :: es) t) (hkj : k ≤ j := by decide) (hg : Gl X x := by rfl) (hdb : (x == ("__debug__" : Str)) = false := by decide)
    (he : starEach (e :: es) X.env = (false, eval e X.env) :: starEach es X.env := by rfl) (hpl : (backTo pos (starEach es X.env)).any (·.1) = false := by rfl) : PE X (.Call (.Name x p) (e :: es) [] pos) (tCallS sp (L2.WE W) t) := by
  obtain ⟨f, fd, F, hm, hk, hb⟩ := C.ex
  exact pe_callGS F (hr.mono hkj) hG hg hm hk hb (fun σ => L2N.passAt tk σ) ha hdb he hpl
theorem pe_clE {spE : Addr → Value → Option Addr → Sp} {a : Addr} {oe : Obj} {cls : Value} {d : Option Addr} (C : ClE X.prog X.w X.K X.mg X.base k x ps spE) (hr : RoomH j X.A) (hh : Hot1 X.A (a, oe)) (hp : (a, oe) ∈ X.pn) (hz : L2N.Zn cls d oe) (ha : PA X (e :: es) t) (hkj : k ≤ j := by decide) (hg : Gl X x := by rfl) (hdb : (x == ("__debug__" : Str)) = false := by decide)
    (he : starEach (e :: es) X.env = (false, eval e X.env) :: starEach es X.env := by rfl) (hpl : (backTo pos (starEach es X.env)).any (·.1) = false := by rfl) : PE X (.Call (.Name x p) (e :: es) [] pos) (tCallS (spE a cls d) (fun _ _ _ _ => False) t) := by
  obtain ⟨f, fd, F, hm, hk, hb⟩ := C.ex
  exact pe_callE F (hr.mono hkj) hh hp hz hg hm hk hb (fun σ => passF) ha hdb he hpl
end
def tbW (X : Cx) (body : List Stmt) (W : WX) : TS := fun D σ H => ∀ (pn : List (Addr × Obj)) (xe : Value → Shared → Prop), L2N.Takes (X.tr pn xe) W → PassesOwn (model X.prog X.w) X.A X.env xe → WSs (X.tr pn xe) body D σ H
def tsW (X : Cx) (suite : List Stmt) (a : Addr) (cls : Value) (d : Option Addr) : TS := fun D σ H => ∀ (oe : Obj) (pn : List (Addr × Obj)), L2N.Zn cls d oe → (∃ vs, oe.data = .fields vs) → WSs (X.suite a ((a, oe) :: pn)) suite D σ H
section
variable {X : Cx} {x n : Str} {c : Value} {i : Nat} {body suite : List Stmt} {b₀ : Stmt} {np pos pos' : Pos} {Wout : WX}
/-- try: .. except x as n: .. -/
theorem ps_tryW (hs : X.stack = X.env :: X.outer) (hf : X.env.frame = some X.env.locals) (hN : X.N.Nodup) (hi : X.N[i]? = some n) (hln : X.env.kindOf n = some .local) (hc : L2.Names X x c) (tk : L2N.Takes X Wout) :
    PS X (.Try body [.ExceptHandler (some (.Name x np)) (some n) (b₀ :: suite) pos'] [] [] pos) (fun D σ H => tbW X body (wAs X.K c i (tsW X (b₀ :: suite)) Wout D) D σ H) :=
  L2N.ps_try_as hs hf hN hi hln hc tk (fun W pn xe tk po => ⟨fun pins s σ H D I h => h pn xe tk po pins s I⟩) (fun a oe cls d pn hz hv => ⟨fun pins s σ H D I h => h oe pn hz hv pins s I⟩)
end
end FA

namespace Kk
open PySem PySem.Spec PyProof.Rows L2 FA
def top (i : Nat) : Stmt := PySem.Challenge.pw_farapart_k12_errors_kept.main.body.getD i (.Pass ⟨0, 0, 0, 0⟩)
abbrev s_law_take : Stmt := top 26
abbrev N_law_take : List Str := ["_law_bag_here", "_law_many", "_law_cell", "_law_mixed", "_law_value", "_law_begin", "_law_second"]
theorem sc_law_take : FnScope N_law_take ["_law_bag_here", "_law_many"] (defScope s_law_take) := ⟨rfl, rfl, rfl, by decide +kernel, rfl, by decide +kernel, by decide +kernel⟩
section
variable {P : Program} {w : World} {K : PySem.W.Frag} {mg : Str → Option Value} {base : Heap}
theorem ok_take {f : Addr} {fd : FuncData} (F : Fun K "_law_take" "_law_take" s_law_take f fd) (T : Blt mg) : FnOk P w K mg base CX0 1 f fd ["_law_bag_here", "_law_many"] spTake := by
  refine okW F sc_law_take (fun vs H Q E h => ?_) (fun cdv A outer s H vs Q E hr h => ?_)
  · obtain ⟨b, c, m, rfl, _⟩ := h
    rfl
  obtain ⟨b, c, m, rfl, ⟨n0, n1, n2, cells, hb, hc, h0, h1, h1', h2, hl, hz⟩, hm, hm9, k⟩ := h
  have nbc : c ≠ b := ne_of hc hb (by
    intro z
    injection z with z
    have q : V.ref c ∈ cells.map V.int := by rw [z]; simp
    obtain ⟨y, _, e⟩ := List.mem_map.mp q
    cases e)
  refine wcut (ps_if (pt_cmpR op_eq (pe_ix ix_list (pv 0) pe_int (fun _ _ => rfl)) pe_int (by rfl)) pss_w pss_w)
    (fun σ' H' => ∃ x2 x3 n0 n1 n2, σ' = [some (.ref b), some (.int m), x2, x3, none, none, none] ∧ H' b = some (.lst [.int n0, .int n1, .int n2, .ref c]) ∧ H' c = some (.lst (cells.map V.int)) ∧ But b H H' ∧ 0 ≤ n0 ∧ 0 ≤ n1 ∧ n1 < 2147483647 ∧ 0 ≤ n2) ?_ ?_
  · refine ⟨_, rfl, b, _, 0, .int n0, rfl, rfl, SqL.of hb, rfl, rfl, _, rfl, ?_⟩
    refine ite2 (fun hn0 => ?_) (fun hn0 => ?_)
    · -- the next cell
      refine wss (ps_set (i := 2) sc_law_take.nd rfl (Or.inl rfl) pe_int) ?_
      refine wcut (ps_if (pt_cmpR op_lt (pe_ix ix_list (pv 0) pe_int (fun _ _ => rfl)) (pe_callB call_len_seq (by rfl) T.len PySem.boot_len (pa_cons (pe_ix ix_list (pv 0) pe_int (fun _ _ => rfl)) pa_nil)) (by rfl)) pss_w pss_w)
        (fun σ' H' => ∃ z : Int, 0 ≤ z ∧ σ' = [some (.ref b), some (.int m), some (.int z), none, none, none, none] ∧ H = H') ?_ ?_
      · refine ⟨_, rfl, b, _, 2, .int n2, rfl, rfl, SqL.of hb, rfl, _, rfl, b, _, 3, .ref c, rfl, rfl, SqL.of hb, rfl, c, _, rfl, .inl (SqL.of hc), _, _, rfl, rfl, _, rfl, ?_⟩
        refine ite2 (fun h => ?_) (fun h => ?_)
        · have hlt : n2.toNat < cells.length := by
            have := of_decide_eq_true h
            rw [List.length_map] at this
            omega
          refine wss (ps_set (i := 2) sc_law_take.nd rfl (Or.inl rfl) (pe_ix ix_list (pe_ix ix_list (pv 0) pe_int (fun _ _ => rfl)) (pe_ix ix_list (pv 0) pe_int (fun _ _ => rfl)) (fun _ _ => rfl))) ?_
          refine ⟨_, rfl, b, _, 3, .ref c, rfl, rfl, SqL.of hb, rfl, _, rfl, b, _, 2, .int n2, rfl, rfl, SqL.of hb, rfl, c, _, n2, .int cells[n2.toNat], rfl, rfl, SqL.of hc, ?_, ?_⟩
          · have e := atI_nat (xs := cells.map V.int) (j := n2.toNat) (v := .int cells[n2.toNat]) (by rw [List.getElem?_map, List.getElem?_eq_getElem hlt]; rfl)
            rw [Int.toNat_of_nonneg h2] at e
            exact e
          · exact wss_end ⟨cells[n2.toNat], hz _ (List.getElem_mem hlt), rfl, rfl⟩
        · exact wss_end ⟨0, Int.le_refl 0, rfl, rfl⟩
      · rintro σ' H' ⟨z, hz0, rfl, rfl⟩
        -- the count
        refine wss (ps_augS (pv 0) pe_int get_list pe_int ip_add set_list) ?_
        refine ⟨_, rfl, b, _, 2, .int n2, rfl, rfl, by decide, SqL.of hb, rfl, n2, 1, rfl, rfl, b, _, 2, 2, rfl, rfl, hb, rfl, ?_⟩
        -- a great cell is kept
        refine wcut (ps_if (pt_cmpR op_ge (pv 2) pe_int (by rfl)) pss_w pss_w)
          (fun σ' H' => ∃ y : Int, 0 ≤ y ∧ σ' = [some (.ref b), some (.int m), some (.int z), none, none, none, none] ∧ H' b = some (.lst [.int y, .int n1, .int (n2 + 1), .ref c]) ∧ But b H H') ?_ ?_
        · refine ⟨_, rfl, _, _, rfl, rfl, _, rfl, ?_⟩
          refine ite2 (fun _ => ?_) (fun _ => ?_)
          · refine wss (ps_asg (pv 2) (pg_sub (pv 0) pe_int set_list)) ?_
            refine ⟨_, rfl, _, rfl, b, _, 0, 0, rfl, rfl, upd_same, rfl, ?_⟩
            exact wss_end ⟨z, hz0, rfl, upd_same, But.upd.trans But.upd⟩
          · exact wss_end ⟨n0, h0, rfl, upd_same, But.upd⟩
        · rintro σ' H1 ⟨y, hy, rfl, hb1, but1⟩
          refine wss (ps_set (i := 3) sc_law_take.nd rfl (Or.inl rfl) (pe_op op_add (pe_op op_add (pe_op op_mul (pe_ix ix_list (pv 0) pe_int (fun _ _ => rfl)) pe_int) (pe_op op_mod (pe_callTy call_int1 (by rfl) T.int (by decide +kernel) (pa_cons (pv 2) pa_nil)) pe_int)) (pe_op op_mul pe_int (pe_ix ix_list (pv 0) pe_int (fun _ _ => rfl))))) ?_
          refine ⟨_, rfl, b, _, 1, .int n1, rfl, rfl, SqL.of hb1, rfl, _, _, rfl, rfl, .inl ⟨by omega, by omega⟩, _, rfl, .inl ⟨_, rfl, ?_⟩⟩
          refine ⟨_, _, rfl, rfl, (by show (0 : Int) < 2147483647; decide), _, _, rfl, rfl, _, rfl, b, _, 2, .int (n2 + 1), rfl, rfl, SqL.of hb1, rfl, _, _, rfl, rfl, .inl ⟨by decide, by decide⟩, _, _, rfl, rfl, ?_⟩
          refine wss (ps_asg (pe_op op_mod (pe_callTy call_int1 (by rfl) T.int (by decide +kernel) (pa_cons (pv 3) pa_nil)) pe_int) (pg_sub (pv 0) pe_int set_list)) ?_
          refine ⟨_, rfl, .inl ⟨_, rfl, ?_⟩⟩
          refine ⟨_, _, rfl, rfl, (by show (0 : Int) < 2147483647; decide), _, rfl, b, _, 1, 1, rfl, rfl, hb1, rfl, ?_⟩
          refine wss_end ⟨_, _, y, _, n2 + 1, rfl, upd_same, ?_, but1.trans But.upd, hy, Int.emod_nonneg _ (by decide), Int.emod_lt_of_pos _ (by decide), by omega⟩
          rw [upd_ne nbc, but1 c nbc]
          exact hc
    · exact wss_end ⟨_, _, n0, n1, n2, rfl, hb, hc, But.refl, h0, h1, h1', h2⟩
  · rintro σ' H' ⟨x2, x3, n0, n1, n2, rfl, hb', hc', but, h0, h1, h1', h2⟩
    refine wss (ps_if (pt_cmpR op_gt (pe_ix ix_list (pv 0) pe_int (fun _ _ => rfl)) pe_int (by rfl)) pss_w pss_w) ?_
    refine ⟨_, rfl, b, _, 0, .int n0, rfl, rfl, SqL.of hb', rfl, _, _, rfl, rfl, _, rfl, ?_⟩
    refine ite2 (fun hp => ?_) (fun hp => ?_)
    · refine wss (ps_set (i := 4) sc_law_take.nd rfl (Or.inl rfl) (pe_op op_mod (pe_callTy call_int1 (by rfl) T.int (by decide +kernel) (pa_cons (pe_ix ix_list (pv 0) pe_int (fun _ _ => rfl)) pa_nil)) (pv 1))) ?_
      refine ⟨_, rfl, b, _, 0, .int n0, rfl, rfl, SqL.of hb', rfl, .inl ⟨_, rfl, ?_⟩⟩
      refine ⟨_, rfl, _, _, rfl, rfl, hm, ?_⟩
      refine wss (ps_asg (pe_op op_fdivW (pe_ix ix_list (pv 0) pe_int (fun _ _ => rfl)) (pv 1)) (pg_sub (pv 0) pe_int set_list)) ?_
      refine ⟨_, rfl, b, _, 0, .int n0, rfl, rfl, SqL.of hb', rfl, _, rfl, _, _, rfl, rfl, ⟨hm, hm9⟩, _, rfl, b, _, 0, 0, rfl, rfl, hb', rfl, ?_⟩
      refine wss (ps_ret (pv 4)) ?_
      refine ⟨_, rfl, ?_⟩
      refine k _ _ (Int.emod_nonneg _ (by omega)) (Int.emod_lt_of_pos _ hm) ⟨_, _, _, cells, upd_same, ?_, ?_, h1, h1', h2, hl, hz⟩ (but.trans But.upd)
      · rw [upd_ne nbc]
        exact hc'
      · exact Int.ediv_nonneg h0 (by omega)
    · have fin : ∀ x : Int, Q (.int (x % m)) H' := fun x => k _ _ (Int.emod_nonneg _ (by omega)) (Int.emod_lt_of_pos _ hm) ⟨n0, n1, n2, cells, hb', hc', h0, h1, h1', h2, hl, hz⟩ but
      refine wss_end ?_
      refine wss (ps_set (i := 5) sc_law_take.nd rfl (Or.inl rfl) (pe_op op_mod (pe_callTy call_int1 (by rfl) T.int (by decide +kernel) (pa_cons (pe_op op_mul (pe_op op_add (pe_ix ix_list (pv 0) pe_int (fun _ _ => rfl)) pe_int) pe_int) pa_nil)) pe_int)) ?_
      refine ⟨_, rfl, b, _, 1, .int n1, rfl, rfl, SqL.of hb', rfl, _, _, rfl, rfl, _, _, rfl, rfl, .inl ⟨by omega, by omega⟩, .inl ⟨_, rfl, _, _, rfl, rfl, (by show (0 : Int) < 1000000007; decide), ?_⟩⟩
      generalize hx : (n1 + 1) * 39373 % 1000000007 = x
      have x0 : 0 ≤ x := hx ▸ Int.emod_nonneg _ (by decide)
      have x1 : x < 1000000007 := hx ▸ Int.emod_lt_of_pos _ (by decide)
      refine wss (ps_set (i := 6) sc_law_take.nd rfl (Or.inl rfl) (pe_op op_mod (pe_callTy call_int1 (by rfl) T.int (by decide +kernel) (pa_cons (pe_op op_mul (pe_op op_mod (pe_callTy call_int1 (by rfl) T.int (by decide +kernel) (pa_cons (pe_op op_mul (pv 5) (pv 5)) pa_nil)) pe_int) pe_int) pa_nil)) pe_int)) ?_
      refine ⟨_, rfl, _, rfl, _, _, rfl, rfl, .inl ⟨by omega, by omega⟩, .inl ⟨_, rfl, _, _, rfl, rfl, (by show (0 : Int) < 998244353; decide), _, _, rfl, rfl, .inr ⟨by decide, by decide⟩, .inl ⟨_, rfl, _, _, rfl, rfl, (by show (0 : Int) < 998244353; decide), ?_⟩⟩⟩
      generalize hy : x * x % 998244353 * 30011 % 998244353 = y
      refine wss (ps_if (pt_cmpR op_gt (pv 1) pe_int (by rfl)) pss_w pss_w) ?_
      refine ⟨_, rfl, _, _, rfl, rfl, _, rfl, ?_⟩
      refine ite2 (fun hp => ?_) (fun hp => ?_)
      · refine wss (ps_ret (pe_op op_mod (pe_callTy call_int1 (by rfl) T.int (by decide +kernel) (pa_cons (pe_op op_add (pe_op op_mul (pv 6) pe_int) (pv 5)) pa_nil)) (pv 1))) ?_
        exact ⟨_, rfl, _, _, rfl, rfl, .inr ⟨by decide, by decide⟩, _, rfl, _, _, rfl, rfl, .inl ⟨_, rfl, _, rfl, _, _, rfl, rfl, hm, fin _⟩⟩
      · refine wss_end ?_
        refine wss (ps_ret (pe_op op_mod (pe_callTy call_int1 (by rfl) T.int (by decide +kernel) (pa_cons (pe_op op_fdivW (pv 6) pe_int) pa_nil)) (pv 1))) ?_
        exact ⟨_, rfl, _, _, rfl, rfl, ⟨by decide, by decide⟩, .inl ⟨_, rfl, _, rfl, _, _, rfl, rfl, hm, fin _⟩⟩
end
end Kk

namespace Kk
open PySem PySem.Spec PyProof.Rows L2 FA
section
variable {P : Program} {w : World} {K : PySem.W.Frag} {mg : Str → Option Value} {base : Heap}
abbrev s_law_alike : Stmt := top 27
abbrev N_law_alike : List Str := ["_law_found", "_law_due"]
theorem sc_law_alike : FnScope N_law_alike ["_law_found", "_law_due"] (defScope s_law_alike) := ⟨rfl, rfl, rfl, by decide +kernel, rfl, by decide +kernel, by decide +kernel⟩
/-- two values that stand for the same datum, dicts within -/
def spAlikeD (K : PySem.W.Frag) : Sp := fun vs H Q _ => ∃ v u d, vs = [v, u] ∧ Dt K H v d ∧ Dt K H u d ∧ d.showable = true ∧ d.shown.length ≤ sizeLine ∧ d.depth ≤ 30 ∧ noT d = true ∧ Q (.bl true) H
theorem ok_law_alike {f : Addr} {fd : FuncData} (F : Fun K "_law_alike" "_law_alike" s_law_alike f fd) (T : Blt mg) : FnG P w K mg base CX0 1 f fd ["_law_found", "_law_due"] (spAlikeD K) := by
  refine okG F sc_law_alike (fun vs H Q E h => ?_) (fun cdv A outer s H vs Q E hr hG h => ?_)
  · obtain ⟨v, u, d, rfl, _⟩ := h
    rfl
  obtain ⟨v, u, d, rfl, hv, hu, h1, h2, h3, h4, q⟩ := h
  refine wss (ps_ret (pe_and (pe_cmpR (op_eqS hr.units) (pv 0) (pv 1) (by rfl)) (pe_one (pe_cmpR op_eq (pe_callB (call_reprD hG hr.units) (by rfl) T.repr (by decide +kernel) (pa_cons (pv 0) pa_nil)) (pe_callB (call_reprD hG hr.units) (by rfl) T.repr (by decide +kernel) (pa_cons (pv 1) pa_nil)) (by rfl))))) ?_
  refine ⟨_, rfl, _, rfl, d, hv, hu, h4, by omega, _, rfl, ?_⟩
  refine iteT ⟨_, rfl, _, d, rfl, hv, h1, h2, by omega, _, rfl, _, d, rfl, hu, h1, h2, by omega, rfl, ?_⟩
  rw [decide_eq_true rfl]
  exact q
abbrev s_law_bag : Stmt := top 25
abbrev N_law_bag : List Str := ["_law_script", "_law_cell"]
theorem sc_law_bag : FnScope N_law_bag ["_law_script"] (defScope s_law_bag) := ⟨rfl, rfl, rfl, by decide +kernel, rfl, by decide +kernel, by decide +kernel⟩
def spBag (K : PySem.W.Frag) : Sp := fun vs H Q _ => ∃ (a : Addr) (ns : List Int), vs = [.ref a] ∧ SqL K H a (ns.map V.int) ∧ ns.length ≤ 63 ∧ ∀ (b c : Addr) (H' : Hp), H b = none → BagAt H' b c → Same H H' → Q (.ref b) H'
def absI (i : Int) : Int := if i < 0 then -i else i
theorem ok_law_bag {f : Addr} {fd : FuncData} (F : Fun K "_law_bag" "_law_bag" s_law_bag f fd) (T : Blt mg) : FnG P w K mg base CX0 1 f fd ["_law_script"] (spBag K) := by
  refine okG F sc_law_bag (fun vs H Q E h => ?_) (fun cdv A outer s H vs Q E hr hG h => ?_)
  · obtain ⟨a, ns, rfl, _⟩ := h
    rfl
  obtain ⟨a, ns, rfl, hS, hl, k⟩ := h
  refine wss (ps_ret (pe_lst (pa_cons pe_int (pa_cons pe_int (pa_cons pe_int (pa_cons (pe_lc (own := [("_law_cell", 1)]) (g := (gName 1)) (by rfl) sc_law_bag.nd (pi_list (pe_slice sl_list (pv 0) po_none (po_some pe_int))) (blkOk_by (own := [("_law_cell", 1)]) (N := N_law_bag) (sc := defScope s_law_bag) (by decide +kernel)) (fun _ _ _ _ _ => (pg_name (i := 1) sc_law_bag.nd rfl (Or.inl rfl))) (fun _ _ _ _ _ => pts_nil) (fun _ _ _ _ _ => (pe_callB call_abs (by rfl) T.abs (by decide +kernel) (pa_cons (pv 1) pa_nil)))) pa_nil)))))) ?_
  refine ⟨_, rfl, _, rfl, a, _, rfl, hS, fun p hp => ?_⟩
  rw [show cutV (ns.map V.int) none (some 63) = (ns.map V.int).take 63 from cutV_to (a := 63), List.take_of_length_le (by rw [List.length_map]; exact hl)]
  have s1 := same_new (o := .lst (ns.map V.int)) hp
  have ep := (upd_same : upd H p (.lst (ns.map V.int)) p = _)
  generalize upd H p (.lst (ns.map V.int)) = H1 at s1 ep ⊢
  refine ⟨p, rfl, ⟨_, SqL.of ep⟩, fun D hD => lc_list (K := K) (a := p) (xs := ns.map V.int) (fun i H' => H' = upd H1 D (.lst (((ns.take i).map absI).map V.int))) rfl ?_ ?_ ?_⟩
  · rintro i _ hi rfl
    exact SqL.of (by rw [upd_ne (ne_of_none ep hD)]; exact ep)
  · rintro i y _ hi rfl
    obtain ⟨z, hz, rfl⟩ : ∃ z, ns[i]? = some z ∧ y = V.int z := by
      rw [List.getElem?_map] at hi
      cases e : ns[i]? with
      | none =>
        rw [e] at hi
        cases hi
      | some z =>
        rw [e] at hi
        exact ⟨z, rfl, (Option.some.inj hi).symm⟩
    refine ⟨rfl, _, rfl, _, rfl, _, upd_same, sz5' ?_, ?_⟩
    · rw [List.length_map, List.length_map, List.length_take]
      omega
    · rw [upd_upd, map_take_succ hz, List.map_append]
      rfl
  · rintro _ rfl
    rw [List.length_map, List.take_length]
    refine ⟨(by show 4 ≤ sizeLine; decide), fun q hq => ?_⟩
    have s2 := same_new (o := .lst ((ns.map absI).map V.int)) hD
    have nDq : D ≠ q := fun z => by rw [← z, upd_same] at hq; cases hq
    refine k q D _ ((s1.trans s2).free hq) ⟨0, 1234567891, 0, ns.map absI, upd_same, by rw [upd_ne nDq, upd_same], by decide, by decide, by decide, by decide, by rw [List.length_map]; exact hl, ?_⟩ ((s1.trans s2).trans (same_new hq))
    intro z hz
    obtain ⟨y, _, rfl⟩ := List.mem_map.mp hz
    unfold absI
    split <;> omega
end
end Kk

namespace Kk
open PySem PySem.Spec PyProof.Rows L2 FA
abbrev s_law_odd : Stmt := top 28
abbrev N_law_odd : List Str := ["_law_bag_here", "_law_name", "_law_wide", "_law_plain"]
theorem sc_law_odd : FnScope N_law_odd ["_law_bag_here", "_law_name"] (defScope s_law_odd) := ⟨rfl, rfl, rfl, by decide +kernel, rfl, by decide +kernel, by decide +kernel⟩
section
variable {P : Program} {w : World} {K : PySem.W.Frag} {mg : Str → Option Value} {base : Heap}
theorem ok_law_odd {f : Addr} {fd : FuncData} (F : Fun K "_law_odd" "_law_odd" s_law_odd f fd) (T : Blt mg) (C : Cl P w K mg base 1 "_law_take" ["_law_bag_here", "_law_many"] spTake) : FnG P w K mg base CX0 2 f fd ["_law_bag_here", "_law_name"] (spOdd K) := by
  refine okG F sc_law_odd (fun vs H Q E h => ?_) (fun cdv A outer s H vs Q E hr hG h => ?_)
  · obtain ⟨b, c, m, rfl, _⟩ := h
    rfl
  obtain ⟨b, c, x, rfl, hx, bag, k⟩ := h
  refine wss (ps_set (i := 2) sc_law_odd.nd rfl (Or.inl rfl) (pe_callTy call_int_str (by rfl) T.int (by decide +kernel) (pa_cons (pe_op op_add_str pe_str (pe_op op_mul_sign pe_str (pe_cl C hr hG (pa_cons (pv 0) (pa_cons pe_int pa_nil))))) pa_nil))) ?_
  refine ⟨_, rfl, b, c, 40, rfl, bag, by decide, by decide +kernel, fun r H1 r0 r1 bag1 but1 => ?_⟩
  obtain ⟨n, rfl⟩ : ∃ n : Nat, r = (n : Int) := ⟨r.toNat, (Int.toNat_of_nonneg r0).symm⟩
  refine ⟨48, n, rfl, rfl, by omega, txL [49], _, rfl, rfl, sz5 ?_, _, (10 : Int) ^ n, rfl, ?_, ?_, ?_⟩
  · rw [txL_len, txL_len, List.length_replicate]
    show 1 + n ≤ 100000
    omega
  · rw [txL_app]
    exact int_ten n (by omega)
  · rw [txL_app, txL_len]
    show (49 :: List.replicate n 48).length ≤ 640
    rw [List.length_cons, List.length_replicate]
    omega
  generalize hw : (10 : Int) ^ n = W
  refine wss (ps_set (i := 3) sc_law_odd.nd rfl (Or.inl rfl) (pe_lst (pa_cons pe_int (pa_cons pe_int (pa_cons (pe_un un_neg pe_int) (pa_cons (pv 2) (pa_cons (pe_un un_neg (pv 2)) (pa_cons pe_bl (pa_cons pe_bl (pa_cons pe_non (pa_cons pe_str (pa_cons pe_str (pa_cons (pv 1) (pa_cons (pe_op op_add_str (pv 1) pe_str) (pa_cons pe_str pa_nil))))))))))))))) ?_
  refine ⟨_, rfl, _, rfl, _, rfl, _, rfl, _, rfl, _, rfl, _, _, rfl, rfl, sz5 ?_, (by show 13 ≤ sizeLine; decide), fun pl hpl => ?_⟩
  · show x.length + 1 ≤ 100000
    omega
  refine wss (ps_aug (i := 3) sc_law_odd.nd rfl (Or.inl rfl) (pe_lst (pa_cons pe_str (pa_cons pe_str (pa_cons pe_str (pa_cons pe_str pa_nil))))) iop_ext) ?_
  refine ⟨_, rfl, (by show 4 ≤ sizeLine; decide), fun p1 hp1 => ?_⟩
  have n1 : pl ≠ p1 := fun z => by rw [← z, upd_same] at hp1; cases hp1
  refine ⟨pl, p1, _, _, rfl, rfl, by rw [upd_ne n1, upd_same], upd_same, sz5 (by show 13 + 4 ≤ 100000; omega), ?_⟩
  have bag2 : BagAt (upd (upd H1 pl (.lst [.int 0, .int 1, .int (-1), .int W, .int (-W), .bl true, .bl false, .non, .str "", .str "a", .str x, .str (x ++ "z"), .str "abcdefgh"])) p1 (.lst [.str "abcdefghi", .str "A", .str "a1", .str "a b"])) b c := (bag1.keep (same_new hpl)).keep (same_new hp1)
  have sb2 : Sb b H (upd (upd H1 pl (.lst [.int 0, .int 1, .int (-1), .int W, .int (-W), .bl true, .bl false, .non, .str "", .str "a", .str x, .str (x ++ "z"), .str "abcdefgh"])) p1 (.lst [.str "abcdefghi", .str "A", .str "a1", .str "a b"])) := but1.sb.trans (Same.sb ((same_new hpl).trans (same_new hp1)))
  have npl := bag1.neb hpl
  have hnl : H pl = none := (but1 pl npl.1).symm.trans hpl
  have bag3 := bag2.put (o := .lst ([.int 0, .int 1, .int (-1), .int W, .int (-W), .bl true, .bl false, .non, .str "", .str "a", .str x, .str (x ++ "z"), .str "abcdefgh"] ++ [.str "abcdefghi", .str "A", .str "a1", .str "a b"])) npl
  have sb3 := sb2.new (p := pl) (o := .lst ([.int 0, .int 1, .int (-1), .int W, .int (-W), .bl true, .bl false, .non, .str "", .str "a", .str x, .str (x ++ "z"), .str "abcdefgh"] ++ [.str "abcdefghi", .str "A", .str "a1", .str "a b"])) hnl
  have el : (upd (upd (upd H1 pl (.lst [.int 0, .int 1, .int (-1), .int W, .int (-W), .bl true, .bl false, .non, .str "", .str "a", .str x, .str (x ++ "z"), .str "abcdefgh"])) p1 (.lst [.str "abcdefghi", .str "A", .str "a1", .str "a b"])) pl (.lst ([.int 0, .int 1, .int (-1), .int W, .int (-W), .bl true, .bl false, .non, .str "", .str "a", .str x, .str (x ++ "z"), .str "abcdefgh"] ++ [.str "abcdefghi", .str "A", .str "a1", .str "a b"]))) pl = _ := upd_same
  refine wss (ps_aug (i := 3) sc_law_odd.nd rfl (Or.inl rfl) (pe_lst (pa_cons pe_str (pa_cons pe_str (pa_cons pe_str (pa_cons pe_str (pa_cons (pe_lst pa_nil) (pa_cons (pe_tup pa_nil) (pa_cons pe_dnewK (pa_cons (pe_lst (pa_cons pe_int pa_nil)) (pa_cons (pe_tup (pa_cons pe_int pa_nil)) (pa_cons (pe_tup (pa_cons (pv 1) pa_nil)) (pa_cons (pe_disp (pps_cons (pv 1) pe_int pps_nil) (by rfl) (by rfl) (fun z => by cases z) (by decide)) (pa_cons (pe_lst (pa_cons (pv 1) pa_nil)) (pa_cons (pe_tup (pa_cons pe_str (pa_cons pe_str (pa_cons pe_int pa_nil)))) pa_nil)))))))))))))) iop_ext) ?_
  refine ⟨_, rfl, (by show 0 ≤ sizeLine; decide), ?_⟩
  generalize upd (upd (upd H1 pl _) p1 _) pl _ = H3 at bag3 sb3 el ⊢
  intro p2 hp2
  have ep2 := (upd_same : upd H3 p2 (.lst []) p2 = _)
  have s4 := same_new (o := .lst []) hp2
  refine ⟨(by show 0 ≤ sizeLine; decide), ?_⟩
  generalize upd H3 p2 (.lst []) = H4 at ep2 s4 ⊢
  intro p3 hp3
  have ep3 := (upd_same : upd H4 p3 (.tup []) p3 = _)
  have s5 := same_new (o := .tup []) hp3
  generalize upd H4 p3 (.tup []) = H5 at ep3 s5 ⊢
  intro p4 hp4
  have ep4 := (upd_same : upd H5 p4 (.dK []) p4 = _)
  have s6 := same_new (o := .dK []) hp4
  refine ⟨(by show 1 ≤ sizeLine; decide), ?_⟩
  generalize upd H5 p4 (.dK []) = H6 at ep4 s6 ⊢
  intro p5 hp5
  have ep5 := (upd_same : upd H6 p5 (.lst [.int 1]) p5 = _)
  have s7 := same_new (o := .lst [.int 1]) hp5
  refine ⟨(by show 1 ≤ sizeLine; decide), ?_⟩
  generalize upd H6 p5 (.lst [.int 1]) = H7 at ep5 s7 ⊢
  intro p6 hp6
  have ep6 := (upd_same : upd H7 p6 (.tup [.int 0]) p6 = _)
  have s8 := same_new (o := .tup [.int 0]) hp6
  refine ⟨_, rfl, (by show 1 ≤ sizeLine; decide), ?_⟩
  generalize upd H7 p6 (.tup [.int 0]) = H8 at ep6 s8 ⊢
  intro p7 hp7
  have ep7 := (upd_same : upd H8 p7 (.tup [.str x]) p7 = _)
  have s9 := same_new (o := .tup [.str x]) hp7
  generalize upd H8 p7 (.tup [.str x]) = H9 at ep7 s9 ⊢
  intro p8 hp8
  refine ⟨_, rfl, upd_same, [(Sum.inr x, .int 1)], rfl, (by show 1 ≤ 15; decide), ?_⟩
  refine ⟨_, rfl, (by show 1 ≤ sizeLine; decide), ?_⟩
  rw [upd_upd]
  have ep8 := (upd_same : upd H9 p8 (.dK (mergeK [] [(Sum.inr x, .int 1)])) p8 = _)
  have s10 := same_new (o := .dK (mergeK [] [(Sum.inr x, .int 1)])) hp8
  generalize upd H9 p8 (.dK (mergeK [] [(Sum.inr x, .int 1)])) = H10 at ep8 s10 ⊢
  intro p9 hp9
  have ep9 := (upd_same : upd H10 p9 (.lst [.str x]) p9 = _)
  have s11 := same_new (o := .lst [.str x]) hp9
  refine ⟨(by show 3 ≤ sizeLine; decide), ?_⟩
  generalize upd H10 p9 (.lst [.str x]) = H11 at ep9 s11 ⊢
  intro p10 hp10
  have ep10 := (upd_same : upd H11 p10 (.tup [.str "", .str "", .int 0]) p10 = _)
  have s12 := same_new (o := .tup [.str "", .str "", .int 0]) hp10
  refine ⟨(by show 13 ≤ sizeLine; decide), ?_⟩
  generalize upd H11 p10 (.tup [.str "", .str "", .int 0]) = H12 at ep10 s12 ⊢
  intro p11 hp11
  have S12 : Same H12 H12 := Same.refl H12
  have S11 : Same H11 H12 := s12.trans S12
  have S10 : Same H10 H12 := s11.trans S11
  have S9 : Same H9 H12 := s10.trans S10
  have S8 : Same H8 H12 := s9.trans S9
  have S7 : Same H7 H12 := s8.trans S8
  have S6 : Same H6 H12 := s7.trans S7
  have S5 : Same H5 H12 := s6.trans S6
  have S4 : Same H4 H12 := s5.trans S5
  have S3 : Same H3 H12 := s4.trans S4
  have U3 : Same H3 H3 := Same.refl H3
  have U4 : Same H3 H4 := U3.trans s4
  have U5 : Same H3 H5 := U4.trans s5
  have U6 : Same H3 H6 := U5.trans s6
  have U7 : Same H3 H7 := U6.trans s7
  have U8 : Same H3 H8 := U7.trans s8
  have U9 : Same H3 H9 := U8.trans s9
  have U10 : Same H3 H10 := U9.trans s10
  have U11 : Same H3 H11 := U10.trans s11
  have el12 := S3 _ _ el
  have npl11 : pl ≠ p11 := ne_of_none el12 hp11
  refine ⟨pl, p11, _, _, rfl, rfl, by rw [upd_ne npl11]; exact el12, upd_same, sz5 (by show 17 + 13 ≤ 100000; omega), ?_⟩
  have bag12 := (bag3.keep S3).keep (same_new (o := .lst [.str "plain", .str "high", .str "low", .str "Plain", .ref p2, .ref p3, .ref p4, .ref p5, .ref p6, .ref p7, .ref p8, .ref p9, .ref p10]) hp11)
  have bagF := bag12.put (o := .lst ([.int 0, .int 1, .int (-1), .int W, .int (-W), .bl true, .bl false, .non, .str "", .str "a", .str x, .str (x ++ "z"), .str "abcdefgh"] ++ [.str "abcdefghi", .str "A", .str "a1", .str "a b"] ++ [.str "plain", .str "high", .str "low", .str "Plain", .ref p2, .ref p3, .ref p4, .ref p5, .ref p6, .ref p7, .ref p8, .ref p9, .ref p10])) npl
  have sbF := (sb3.trans (Same.sb (S3.trans (same_new (o := .lst [.str "plain", .str "high", .str "low", .str "Plain", .ref p2, .ref p3, .ref p4, .ref p5, .ref p6, .ref p7, .ref p8, .ref p9, .ref p10]) hp11)))).new (p := pl) (o := .lst ([.int 0, .int 1, .int (-1), .int W, .int (-W), .bl true, .bl false, .non, .str "", .str "a", .str x, .str (x ++ "z"), .str "abcdefgh"] ++ [.str "abcdefghi", .str "A", .str "a1", .str "a b"] ++ [.str "plain", .str "high", .str "low", .str "Plain", .ref p2, .ref p3, .ref p4, .ref p5, .ref p6, .ref p7, .ref p8, .ref p9, .ref p10])) hnl
  have elF : (upd (upd H12 p11 (.lst [.str "plain", .str "high", .str "low", .str "Plain", .ref p2, .ref p3, .ref p4, .ref p5, .ref p6, .ref p7, .ref p8, .ref p9, .ref p10])) pl (.lst ([.int 0, .int 1, .int (-1), .int W, .int (-W), .bl true, .bl false, .non, .str "", .str "a", .str x, .str (x ++ "z"), .str "abcdefgh"] ++ [.str "abcdefghi", .str "A", .str "a1", .str "a b"] ++ [.str "plain", .str "high", .str "low", .str "Plain", .ref p2, .ref p3, .ref p4, .ref p5, .ref p6, .ref p7, .ref p8, .ref p9, .ref p10]))) pl = _ := upd_same
  have qp2 : Hb b (upd (upd H12 p11 (.lst [.str "plain", .str "high", .str "low", .str "Plain", .ref p2, .ref p3, .ref p4, .ref p5, .ref p6, .ref p7, .ref p8, .ref p9, .ref p10])) pl (.lst ([.int 0, .int 1, .int (-1), .int W, .int (-W), .bl true, .bl false, .non, .str "", .str "a", .str x, .str (x ++ "z"), .str "abcdefgh"] ++ [.str "abcdefghi", .str "A", .str "a1", .str "a b"] ++ [.str "plain", .str "high", .str "low", .str "Plain", .ref p2, .ref p3, .ref p4, .ref p5, .ref p6, .ref p7, .ref p8, .ref p9, .ref p10]))) p2 = some (.lst []) := by
    rw [hb_ne ((bag3.keep U3).neb hp2).1, upd_ne (ne_of_none (U3 _ _ el) hp2).symm, upd_ne (ne_of_none (S4 _ _ ep2) hp11)]
    exact S4 _ _ ep2
  have qp3 : Hb b (upd (upd H12 p11 (.lst [.str "plain", .str "high", .str "low", .str "Plain", .ref p2, .ref p3, .ref p4, .ref p5, .ref p6, .ref p7, .ref p8, .ref p9, .ref p10])) pl (.lst ([.int 0, .int 1, .int (-1), .int W, .int (-W), .bl true, .bl false, .non, .str "", .str "a", .str x, .str (x ++ "z"), .str "abcdefgh"] ++ [.str "abcdefghi", .str "A", .str "a1", .str "a b"] ++ [.str "plain", .str "high", .str "low", .str "Plain", .ref p2, .ref p3, .ref p4, .ref p5, .ref p6, .ref p7, .ref p8, .ref p9, .ref p10]))) p3 = some (.tup []) := by
    rw [hb_ne ((bag3.keep U4).neb hp3).1, upd_ne (ne_of_none (U4 _ _ el) hp3).symm, upd_ne (ne_of_none (S5 _ _ ep3) hp11)]
    exact S5 _ _ ep3
  have qp4 : Hb b (upd (upd H12 p11 (.lst [.str "plain", .str "high", .str "low", .str "Plain", .ref p2, .ref p3, .ref p4, .ref p5, .ref p6, .ref p7, .ref p8, .ref p9, .ref p10])) pl (.lst ([.int 0, .int 1, .int (-1), .int W, .int (-W), .bl true, .bl false, .non, .str "", .str "a", .str x, .str (x ++ "z"), .str "abcdefgh"] ++ [.str "abcdefghi", .str "A", .str "a1", .str "a b"] ++ [.str "plain", .str "high", .str "low", .str "Plain", .ref p2, .ref p3, .ref p4, .ref p5, .ref p6, .ref p7, .ref p8, .ref p9, .ref p10]))) p4 = some (.dK []) := by
    rw [hb_ne ((bag3.keep U5).neb hp4).1, upd_ne (ne_of_none (U5 _ _ el) hp4).symm, upd_ne (ne_of_none (S6 _ _ ep4) hp11)]
    exact S6 _ _ ep4
  have qp5 : Hb b (upd (upd H12 p11 (.lst [.str "plain", .str "high", .str "low", .str "Plain", .ref p2, .ref p3, .ref p4, .ref p5, .ref p6, .ref p7, .ref p8, .ref p9, .ref p10])) pl (.lst ([.int 0, .int 1, .int (-1), .int W, .int (-W), .bl true, .bl false, .non, .str "", .str "a", .str x, .str (x ++ "z"), .str "abcdefgh"] ++ [.str "abcdefghi", .str "A", .str "a1", .str "a b"] ++ [.str "plain", .str "high", .str "low", .str "Plain", .ref p2, .ref p3, .ref p4, .ref p5, .ref p6, .ref p7, .ref p8, .ref p9, .ref p10]))) p5 = some (.lst [.int 1]) := by
    rw [hb_ne ((bag3.keep U6).neb hp5).1, upd_ne (ne_of_none (U6 _ _ el) hp5).symm, upd_ne (ne_of_none (S7 _ _ ep5) hp11)]
    exact S7 _ _ ep5
  have qp6 : Hb b (upd (upd H12 p11 (.lst [.str "plain", .str "high", .str "low", .str "Plain", .ref p2, .ref p3, .ref p4, .ref p5, .ref p6, .ref p7, .ref p8, .ref p9, .ref p10])) pl (.lst ([.int 0, .int 1, .int (-1), .int W, .int (-W), .bl true, .bl false, .non, .str "", .str "a", .str x, .str (x ++ "z"), .str "abcdefgh"] ++ [.str "abcdefghi", .str "A", .str "a1", .str "a b"] ++ [.str "plain", .str "high", .str "low", .str "Plain", .ref p2, .ref p3, .ref p4, .ref p5, .ref p6, .ref p7, .ref p8, .ref p9, .ref p10]))) p6 = some (.tup [.int 0]) := by
    rw [hb_ne ((bag3.keep U7).neb hp6).1, upd_ne (ne_of_none (U7 _ _ el) hp6).symm, upd_ne (ne_of_none (S8 _ _ ep6) hp11)]
    exact S8 _ _ ep6
  have qp7 : Hb b (upd (upd H12 p11 (.lst [.str "plain", .str "high", .str "low", .str "Plain", .ref p2, .ref p3, .ref p4, .ref p5, .ref p6, .ref p7, .ref p8, .ref p9, .ref p10])) pl (.lst ([.int 0, .int 1, .int (-1), .int W, .int (-W), .bl true, .bl false, .non, .str "", .str "a", .str x, .str (x ++ "z"), .str "abcdefgh"] ++ [.str "abcdefghi", .str "A", .str "a1", .str "a b"] ++ [.str "plain", .str "high", .str "low", .str "Plain", .ref p2, .ref p3, .ref p4, .ref p5, .ref p6, .ref p7, .ref p8, .ref p9, .ref p10]))) p7 = some (.tup [.str x]) := by
    rw [hb_ne ((bag3.keep U8).neb hp7).1, upd_ne (ne_of_none (U8 _ _ el) hp7).symm, upd_ne (ne_of_none (S9 _ _ ep7) hp11)]
    exact S9 _ _ ep7
  have qp8 : Hb b (upd (upd H12 p11 (.lst [.str "plain", .str "high", .str "low", .str "Plain", .ref p2, .ref p3, .ref p4, .ref p5, .ref p6, .ref p7, .ref p8, .ref p9, .ref p10])) pl (.lst ([.int 0, .int 1, .int (-1), .int W, .int (-W), .bl true, .bl false, .non, .str "", .str "a", .str x, .str (x ++ "z"), .str "abcdefgh"] ++ [.str "abcdefghi", .str "A", .str "a1", .str "a b"] ++ [.str "plain", .str "high", .str "low", .str "Plain", .ref p2, .ref p3, .ref p4, .ref p5, .ref p6, .ref p7, .ref p8, .ref p9, .ref p10]))) p8 = some (.dK (mergeK [] [(Sum.inr x, .int 1)])) := by
    rw [hb_ne ((bag3.keep U9).neb hp8).1, upd_ne (ne_of_none (U9 _ _ el) hp8).symm, upd_ne (ne_of_none (S10 _ _ ep8) hp11)]
    exact S10 _ _ ep8
  have qp9 : Hb b (upd (upd H12 p11 (.lst [.str "plain", .str "high", .str "low", .str "Plain", .ref p2, .ref p3, .ref p4, .ref p5, .ref p6, .ref p7, .ref p8, .ref p9, .ref p10])) pl (.lst ([.int 0, .int 1, .int (-1), .int W, .int (-W), .bl true, .bl false, .non, .str "", .str "a", .str x, .str (x ++ "z"), .str "abcdefgh"] ++ [.str "abcdefghi", .str "A", .str "a1", .str "a b"] ++ [.str "plain", .str "high", .str "low", .str "Plain", .ref p2, .ref p3, .ref p4, .ref p5, .ref p6, .ref p7, .ref p8, .ref p9, .ref p10]))) p9 = some (.lst [.str x]) := by
    rw [hb_ne ((bag3.keep U10).neb hp9).1, upd_ne (ne_of_none (U10 _ _ el) hp9).symm, upd_ne (ne_of_none (S11 _ _ ep9) hp11)]
    exact S11 _ _ ep9
  have qp10 : Hb b (upd (upd H12 p11 (.lst [.str "plain", .str "high", .str "low", .str "Plain", .ref p2, .ref p3, .ref p4, .ref p5, .ref p6, .ref p7, .ref p8, .ref p9, .ref p10])) pl (.lst ([.int 0, .int 1, .int (-1), .int W, .int (-W), .bl true, .bl false, .non, .str "", .str "a", .str x, .str (x ++ "z"), .str "abcdefgh"] ++ [.str "abcdefghi", .str "A", .str "a1", .str "a b"] ++ [.str "plain", .str "high", .str "low", .str "Plain", .ref p2, .ref p3, .ref p4, .ref p5, .ref p6, .ref p7, .ref p8, .ref p9, .ref p10]))) p10 = some (.tup [.str "", .str "", .int 0]) := by
    rw [hb_ne ((bag3.keep U11).neb hp10).1, upd_ne (ne_of_none (U11 _ _ el) hp10).symm, upd_ne (ne_of_none (S12 _ _ ep10) hp11)]
    exact S12 _ _ ep10
  have all : DtAll K (Hb b (upd (upd H12 p11 (.lst [.str "plain", .str "high", .str "low", .str "Plain", .ref p2, .ref p3, .ref p4, .ref p5, .ref p6, .ref p7, .ref p8, .ref p9, .ref p10])) pl (.lst ([.int 0, .int 1, .int (-1), .int W, .int (-W), .bl true, .bl false, .non, .str "", .str "a", .str x, .str (x ++ "z"), .str "abcdefgh"] ++ [.str "abcdefghi", .str "A", .str "a1", .str "a b"] ++ [.str "plain", .str "high", .str "low", .str "Plain", .ref p2, .ref p3, .ref p4, .ref p5, .ref p6, .ref p7, .ref p8, .ref p9, .ref p10])))) ([.int 0, .int 1, .int (-1), .int W, .int (-W), .bl true, .bl false, .non, .str "", .str "a", .str x, .str (x ++ "z"), .str "abcdefgh"] ++ [.str "abcdefghi", .str "A", .str "a1", .str "a b"] ++ [.str "plain", .str "high", .str "low", .str "Plain", .ref p2, .ref p3, .ref p4, .ref p5, .ref p6, .ref p7, .ref p8, .ref p9, .ref p10]) (oddMenu x n) := by
    unfold oddMenu
    rw [hw]
    refine DtAll.app (DtAll.app ?_ ?_) ?_
    · exact .cons (.int _) (.cons (.int _) (.cons (.int _) (.cons (.int _) (.cons (.int _) (.cons (.bl _) (.cons (.bl _) (.cons .non (.cons (.str _) (.cons (.str _) (.cons (.str _) (.cons (.str _) (.cons (.str _) .nil))))))))))))
    · exact .cons (.str _) (.cons (.str _) (.cons (.str _) (.cons (.str _) .nil)))
    · exact .cons (.str _) (.cons (.str _) (.cons (.str _) (.cons (.str _) (.cons (.lst (.inl qp2) .nil) (.cons (.tup (SqT.of qp3) .nil) (.cons (.dK (ds := []) (.inl qp4) .nil) (.cons (.lst (.inl qp5) (.cons (.int _) .nil)) (.cons (.tup (SqT.of qp6) (.cons (.int _) .nil)) (.cons (.tup (SqT.of qp7) (.cons (.str _) .nil)) (.cons (.dK (ds := [.int 1]) (.inl qp8) (.cons (.int _) .nil)) (.cons (.lst (.inl qp9) (.cons (.str _) .nil)) (.cons (.tup (SqT.of qp10) (.cons (.str _) (.cons (.str _) (.cons (.int _) .nil)))) .nil))))))))))))
  generalize hL : ([.int 0, .int 1, .int (-1), .int W, .int (-W), .bl true, .bl false, .non, .str "", .str "a", .str x, .str (x ++ "z"), .str "abcdefgh"] ++ [.str "abcdefghi", .str "A", .str "a1", .str "a b"] ++ [.str "plain", .str "high", .str "low", .str "Plain", .ref p2, .ref p3, .ref p4, .ref p5, .ref p6, .ref p7, .ref p8, .ref p9, .ref p10] : List V) = L at bagF sbF elF all ⊢
  have hlen : L.length = 30 := by rw [← hL]; rfl
  generalize upd (upd H12 p11 _) pl _ = HF at bagF sbF elF all ⊢
  refine wss (ps_ret (pe_ix ix_list (pv 3) (pe_cl C hr hG (pa_cons (pv 0) (pa_cons (pe_callB call_len_seq (by rfl) T.len PySem.boot_len (pa_cons (pv 3) pa_nil)) pa_nil))) (fun _ _ => rfl))) ?_
  refine ⟨_, rfl, _, rfl, _, rfl, pl, L, rfl, .inl (SqL.of elF), b, c, _, rfl, bagF, by omega, by rw [hlen]; decide +kernel, fun r HG r0' r1' bagG butG => ?_⟩
  have hr30 : r.toNat < (oddMenu x n).length := by
    show r.toNat < 30
    omega
  obtain ⟨v, d, h1, h2, h3⟩ := all.at hr30
  refine ⟨pl, L, r, v, rfl, rfl, SqL.of ((butG pl npl.1).trans elF), ?_, ?_⟩
  · have := atI_nat h1
    rwa [Int.toNat_of_nonneg r0'] at this
  · exact k v d n HG (by omega) (List.mem_of_getElem? h2) (h3.keep butG.sb.same) bagG (sbF.trans butG.sb)
end
end Kk

namespace Kk
open PySem PySem.Spec PyProof.Rows L2 FA
theorem nat_of {n : Nat} {i : Int} (h : decide (V.int (n : Int) = V.int i) = true) : n = i.toNat := by
  have := of_decide_eq_true h
  injection this with this
  omega
theorem nat_off {n : Nat} {i : Int} (h : ¬ decide (V.int (n : Int) = V.int i) = true) : (n : Int) ≠ i := fun e => h (by rw [e]; exact decide_eq_true rfl)
def nmK (k : Nat) : Str := List.getD ["Wrong", "NoName", "BadKind", "NoPlace", "NoWay", "NoProc", "NotFar", "BadRow", "NotSo", "TooMany", "NoEntry", "Full", "Refused", "BadCall", "NoStart", "Unlike", "Never", "Endless", "NoDeed", "Nothing", "NoText", "NoCommand"] k ""
def flK (k : Nat) : List Str := List.getD [["place"], ["name"], ["name"], ["place"], ["index"], ["name"], ["name"], ["row"], ["row"], ["most"], ["many"], ["most"], ["deed"], ["name", "index"], [], [], [], [], [], [], [], []] k []
/-- the chain of an error's classes -/
def chain (C Ap : Addr) : List Value := [.ref C, .ref Ap, .type "ValueError", .type "Exception", .type "BaseException", .type "object"]
structure Fam (P : Program) (K : PySem.W.Frag) (mg : Str → Option Value) (Ap : Addr) (C fI : Nat → Addr) : Prop where
  T : ∀ k, k < 22 → ErrTxt P K mg (nmK k) (flK k) (C k) (fI k)
  is : ∀ k, k < 22 → ErrIs K (C k)
  mro : ∀ k, k < 22 → (PySem.W.clsIn K (C k)).map (·.mro) = some (chain (C k) Ap)
  inj : ∀ i j, i < 22 → j < 22 → C i = C j → i = j
  ap : ∀ k, k < 22 → C k ≠ Ap
  gA : mg "ApartError" = some (.ref Ap)
  clA : (PySem.W.clsIn K Ap).isSome = true
  tyA : PySem.W.typeIn K (.ref Ap) = some (.type "type")
  exA : PySem.W.subIn K (.ref Ap) (.type "BaseException") = some true
section
variable {P : Program} {w : World} {K : PySem.W.Frag} {mg : Str → Option Value} {base : Heap} {Ap : Addr} {C fI : Nat → Addr}
abbrev s_law_raise_one : Stmt := top 29
abbrev N_law_raise_one : List Str := ["_law_k", "_law_one", "_law_two"]
theorem sc_law_raise_one : FnScope N_law_raise_one ["_law_k", "_law_one", "_law_two"] (defScope s_law_raise_one) := ⟨rfl, rfl, rfl, by decide +kernel, rfl, by decide +kernel, by decide +kernel⟩
def spR1 (C : Nat → Addr) : Sp := fun vs H Q E => ∃ (n : Nat) (v1 v2 : V), vs = [.int n, v1, v2] ∧ n < 14 ∧ ∀ d, H d = none → E (.ref (C n)) (some d) (upd H d (.xd ((flK n).zip [v1, v2])))
theorem ok_raise_one {f : Addr} {fd : FuncData} (F : Fun K "_law_raise_one" "_law_raise_one" s_law_raise_one f fd) (M : Fam P K mg Ap C fI) : FnG P w K mg base (L2N.CX P w) 3 f fd ["_law_k", "_law_one", "_law_two"] (spR1 C) := by
  refine okGN F sc_law_raise_one (fun vs H Q E h => ?_) (fun cdv A outer s H vs Q E hr hG h => ?_)
  · obtain ⟨n, v1, v2, rfl, _⟩ := h
    rfl
  obtain ⟨n, v1, v2, rfl, hn, hE⟩ := h
  refine wss (ps_if (pt_cmpR op_eq (pv 0) pe_int (by rfl)) pss_w pss_w) ⟨_, rfl, rfl, _, rfl, ?_⟩
  refine ite2 (fun h => ?_) (fun h0 => ?_)
  · obtain rfl : n = 0 := nat_of h
    exact wss (L2N.ps_raise rfl (L2N.takes_of rfl rfl rfl rfl) (pmk_err (M.T 0 (by decide)) hr (by decide) (pa_cons (pv 1) pa_nil))) ⟨_, rfl, rfl, fun d hd => hE d hd⟩
  refine wss_end ?_
  refine wss (ps_if (pt_cmpR op_eq (pv 0) pe_int (by rfl)) pss_w pss_w) ⟨_, rfl, rfl, _, rfl, ?_⟩
  refine ite2 (fun h => ?_) (fun h1 => ?_)
  · obtain rfl : n = 1 := nat_of h
    exact wss (L2N.ps_raise rfl (L2N.takes_of rfl rfl rfl rfl) (pmk_err (M.T 1 (by decide)) hr (by decide) (pa_cons (pv 1) pa_nil))) ⟨_, rfl, rfl, fun d hd => hE d hd⟩
  refine wss_end ?_
  refine wss (ps_if (pt_cmpR op_eq (pv 0) pe_int (by rfl)) pss_w pss_w) ⟨_, rfl, rfl, _, rfl, ?_⟩
  refine ite2 (fun h => ?_) (fun h2 => ?_)
  · obtain rfl : n = 2 := nat_of h
    exact wss (L2N.ps_raise rfl (L2N.takes_of rfl rfl rfl rfl) (pmk_err (M.T 2 (by decide)) hr (by decide) (pa_cons (pv 1) pa_nil))) ⟨_, rfl, rfl, fun d hd => hE d hd⟩
  refine wss_end ?_
  refine wss (ps_if (pt_cmpR op_eq (pv 0) pe_int (by rfl)) pss_w pss_w) ⟨_, rfl, rfl, _, rfl, ?_⟩
  refine ite2 (fun h => ?_) (fun h3 => ?_)
  · obtain rfl : n = 3 := nat_of h
    exact wss (L2N.ps_raise rfl (L2N.takes_of rfl rfl rfl rfl) (pmk_err (M.T 3 (by decide)) hr (by decide) (pa_cons (pv 1) pa_nil))) ⟨_, rfl, rfl, fun d hd => hE d hd⟩
  refine wss_end ?_
  refine wss (ps_if (pt_cmpR op_eq (pv 0) pe_int (by rfl)) pss_w pss_w) ⟨_, rfl, rfl, _, rfl, ?_⟩
  refine ite2 (fun h => ?_) (fun h4 => ?_)
  · obtain rfl : n = 4 := nat_of h
    exact wss (L2N.ps_raise rfl (L2N.takes_of rfl rfl rfl rfl) (pmk_err (M.T 4 (by decide)) hr (by decide) (pa_cons (pv 1) pa_nil))) ⟨_, rfl, rfl, fun d hd => hE d hd⟩
  refine wss_end ?_
  refine wss (ps_if (pt_cmpR op_eq (pv 0) pe_int (by rfl)) pss_w pss_w) ⟨_, rfl, rfl, _, rfl, ?_⟩
  refine ite2 (fun h => ?_) (fun h5 => ?_)
  · obtain rfl : n = 5 := nat_of h
    exact wss (L2N.ps_raise rfl (L2N.takes_of rfl rfl rfl rfl) (pmk_err (M.T 5 (by decide)) hr (by decide) (pa_cons (pv 1) pa_nil))) ⟨_, rfl, rfl, fun d hd => hE d hd⟩
  refine wss_end ?_
  refine wss (ps_if (pt_cmpR op_eq (pv 0) pe_int (by rfl)) pss_w pss_w) ⟨_, rfl, rfl, _, rfl, ?_⟩
  refine ite2 (fun h => ?_) (fun h6 => ?_)
  · obtain rfl : n = 6 := nat_of h
    exact wss (L2N.ps_raise rfl (L2N.takes_of rfl rfl rfl rfl) (pmk_err (M.T 6 (by decide)) hr (by decide) (pa_cons (pv 1) pa_nil))) ⟨_, rfl, rfl, fun d hd => hE d hd⟩
  refine wss_end ?_
  refine wss (ps_if (pt_cmpR op_eq (pv 0) pe_int (by rfl)) pss_w pss_w) ⟨_, rfl, rfl, _, rfl, ?_⟩
  refine ite2 (fun h => ?_) (fun h7 => ?_)
  · obtain rfl : n = 7 := nat_of h
    exact wss (L2N.ps_raise rfl (L2N.takes_of rfl rfl rfl rfl) (pmk_err (M.T 7 (by decide)) hr (by decide) (pa_cons (pv 1) pa_nil))) ⟨_, rfl, rfl, fun d hd => hE d hd⟩
  refine wss_end ?_
  refine wss (ps_if (pt_cmpR op_eq (pv 0) pe_int (by rfl)) pss_w pss_w) ⟨_, rfl, rfl, _, rfl, ?_⟩
  refine ite2 (fun h => ?_) (fun h8 => ?_)
  · obtain rfl : n = 8 := nat_of h
    exact wss (L2N.ps_raise rfl (L2N.takes_of rfl rfl rfl rfl) (pmk_err (M.T 8 (by decide)) hr (by decide) (pa_cons (pv 1) pa_nil))) ⟨_, rfl, rfl, fun d hd => hE d hd⟩
  refine wss_end ?_
  refine wss (ps_if (pt_cmpR op_eq (pv 0) pe_int (by rfl)) pss_w pss_w) ⟨_, rfl, rfl, _, rfl, ?_⟩
  refine ite2 (fun h => ?_) (fun h9 => ?_)
  · obtain rfl : n = 9 := nat_of h
    exact wss (L2N.ps_raise rfl (L2N.takes_of rfl rfl rfl rfl) (pmk_err (M.T 9 (by decide)) hr (by decide) (pa_cons (pv 1) pa_nil))) ⟨_, rfl, rfl, fun d hd => hE d hd⟩
  refine wss_end ?_
  refine wss (ps_if (pt_cmpR op_eq (pv 0) pe_int (by rfl)) pss_w pss_w) ⟨_, rfl, rfl, _, rfl, ?_⟩
  refine ite2 (fun h => ?_) (fun h10 => ?_)
  · obtain rfl : n = 10 := nat_of h
    exact wss (L2N.ps_raise rfl (L2N.takes_of rfl rfl rfl rfl) (pmk_err (M.T 10 (by decide)) hr (by decide) (pa_cons (pv 1) pa_nil))) ⟨_, rfl, rfl, fun d hd => hE d hd⟩
  refine wss_end ?_
  refine wss (ps_if (pt_cmpR op_eq (pv 0) pe_int (by rfl)) pss_w pss_w) ⟨_, rfl, rfl, _, rfl, ?_⟩
  refine ite2 (fun h => ?_) (fun h11 => ?_)
  · obtain rfl : n = 11 := nat_of h
    exact wss (L2N.ps_raise rfl (L2N.takes_of rfl rfl rfl rfl) (pmk_err (M.T 11 (by decide)) hr (by decide) (pa_cons (pv 1) pa_nil))) ⟨_, rfl, rfl, fun d hd => hE d hd⟩
  refine wss_end ?_
  refine wss (ps_if (pt_cmpR op_eq (pv 0) pe_int (by rfl)) pss_w pss_w) ⟨_, rfl, rfl, _, rfl, ?_⟩
  refine ite2 (fun h => ?_) (fun h12 => ?_)
  · obtain rfl : n = 12 := nat_of h
    exact wss (L2N.ps_raise rfl (L2N.takes_of rfl rfl rfl rfl) (pmk_err (M.T 12 (by decide)) hr (by decide) (pa_cons (pv 1) pa_nil))) ⟨_, rfl, rfl, fun d hd => hE d hd⟩
  refine wss_end ?_
  refine wss (ps_if (pt_cmpR op_eq (pv 0) pe_int (by rfl)) pss_w pss_w) ⟨_, rfl, rfl, _, rfl, ?_⟩
  refine ite2 (fun h => ?_) (fun h13 => ?_)
  · obtain rfl : n = 13 := nat_of h
    exact wss (L2N.ps_raise rfl (L2N.takes_of rfl rfl rfl rfl) (pmk_err (M.T 13 (by decide)) hr (by decide) (pa_cons (pv 1) (pa_cons (pv 2) pa_nil)))) ⟨_, rfl, _, rfl, rfl, fun d hd => hE d hd⟩
  refine wss_end ?_
  exact absurd hn (by
    have := nat_off h0
    have := nat_off h1
    have := nat_off h2
    have := nat_off h3
    have := nat_off h4
    have := nat_off h5
    have := nat_off h6
    have := nat_off h7
    have := nat_off h8
    have := nat_off h9
    have := nat_off h10
    have := nat_off h11
    have := nat_off h12
    have := nat_off h13
    omega)
abbrev s_law_raise_none : Stmt := top 30
abbrev N_law_raise_none : List Str := ["_law_k"]
theorem sc_law_raise_none : FnScope N_law_raise_none ["_law_k"] (defScope s_law_raise_none) := ⟨rfl, rfl, rfl, by decide +kernel, rfl, by decide +kernel, by decide +kernel⟩
def spR0 (C : Nat → Addr) : Sp := fun vs H Q E => ∃ (n : Nat), vs = [.int n] ∧ 14 ≤ n ∧ n < 22 ∧ E (.ref (C n)) none H
theorem ok_raise_none {f : Addr} {fd : FuncData} (F : Fun K "_law_raise_none" "_law_raise_none" s_law_raise_none f fd) (M : Fam P K mg Ap C fI) : FnG P w K mg base (L2N.CX P w) 3 f fd ["_law_k"] (spR0 C) := by
  refine okGN F sc_law_raise_none (fun vs H Q E h => ?_) (fun cdv A outer s H vs Q E hr hG h => ?_)
  · obtain ⟨n, rfl, _⟩ := h
    rfl
  obtain ⟨n, rfl, hm, hn, hE⟩ := h
  refine wss (ps_if (pt_cmpR op_eq (pv 0) pe_int (by rfl)) pss_w pss_w) ⟨_, rfl, rfl, _, rfl, ?_⟩
  refine ite2 (fun h => ?_) (fun h14 => ?_)
  · obtain rfl : n = 14 := nat_of h
    exact wss (L2N.ps_raise rfl (L2N.takes_of rfl rfl rfl rfl) (pmk_err0 (M.T 14 (by decide)) hr)) hE
  refine wss_end ?_
  refine wss (ps_if (pt_cmpR op_eq (pv 0) pe_int (by rfl)) pss_w pss_w) ⟨_, rfl, rfl, _, rfl, ?_⟩
  refine ite2 (fun h => ?_) (fun h15 => ?_)
  · obtain rfl : n = 15 := nat_of h
    exact wss (L2N.ps_raise rfl (L2N.takes_of rfl rfl rfl rfl) (pmk_err0 (M.T 15 (by decide)) hr)) hE
  refine wss_end ?_
  refine wss (ps_if (pt_cmpR op_eq (pv 0) pe_int (by rfl)) pss_w pss_w) ⟨_, rfl, rfl, _, rfl, ?_⟩
  refine ite2 (fun h => ?_) (fun h16 => ?_)
  · obtain rfl : n = 16 := nat_of h
    exact wss (L2N.ps_raise rfl (L2N.takes_of rfl rfl rfl rfl) (pmk_err0 (M.T 16 (by decide)) hr)) hE
  refine wss_end ?_
  refine wss (ps_if (pt_cmpR op_eq (pv 0) pe_int (by rfl)) pss_w pss_w) ⟨_, rfl, rfl, _, rfl, ?_⟩
  refine ite2 (fun h => ?_) (fun h17 => ?_)
  · obtain rfl : n = 17 := nat_of h
    exact wss (L2N.ps_raise rfl (L2N.takes_of rfl rfl rfl rfl) (pmk_err0 (M.T 17 (by decide)) hr)) hE
  refine wss_end ?_
  refine wss (ps_if (pt_cmpR op_eq (pv 0) pe_int (by rfl)) pss_w pss_w) ⟨_, rfl, rfl, _, rfl, ?_⟩
  refine ite2 (fun h => ?_) (fun h18 => ?_)
  · obtain rfl : n = 18 := nat_of h
    exact wss (L2N.ps_raise rfl (L2N.takes_of rfl rfl rfl rfl) (pmk_err0 (M.T 18 (by decide)) hr)) hE
  refine wss_end ?_
  refine wss (ps_if (pt_cmpR op_eq (pv 0) pe_int (by rfl)) pss_w pss_w) ⟨_, rfl, rfl, _, rfl, ?_⟩
  refine ite2 (fun h => ?_) (fun h19 => ?_)
  · obtain rfl : n = 19 := nat_of h
    exact wss (L2N.ps_raise rfl (L2N.takes_of rfl rfl rfl rfl) (pmk_err0 (M.T 19 (by decide)) hr)) hE
  refine wss_end ?_
  refine wss (ps_if (pt_cmpR op_eq (pv 0) pe_int (by rfl)) pss_w pss_w) ⟨_, rfl, rfl, _, rfl, ?_⟩
  refine ite2 (fun h => ?_) (fun h20 => ?_)
  · obtain rfl : n = 20 := nat_of h
    exact wss (L2N.ps_raise rfl (L2N.takes_of rfl rfl rfl rfl) (pmk_err0 (M.T 20 (by decide)) hr)) hE
  refine wss_end ?_
  refine wss (ps_if (pt_cmpR op_eq (pv 0) pe_int (by rfl)) pss_w pss_w) ⟨_, rfl, rfl, _, rfl, ?_⟩
  refine ite2 (fun h => ?_) (fun h21 => ?_)
  · obtain rfl : n = 21 := nat_of h
    exact wss (L2N.ps_raise rfl (L2N.takes_of rfl rfl rfl rfl) (pmk_err0 (M.T 21 (by decide)) hr)) hE
  refine wss_end ?_
  exact absurd hn (by
    have := nat_off h14
    have := nat_off h15
    have := nat_off h16
    have := nat_off h17
    have := nat_off h18
    have := nat_off h19
    have := nat_off h20
    have := nat_off h21
    omega)
end
end Kk

namespace Kk
open PySem PySem.Spec PyProof.Rows L2 FA L2H
section
variable {P : Program} {w : World} {K : PySem.W.Frag} {mg : Str → Option Value} {base : Heap} {Ap : Addr} {C fI : Nat → Addr}
theorem Fam.mroIn (M : Fam P K mg Ap C fI) {n : Nat} (hn : n < 22) (v : Value) : PySem.W.mroIn K (C n) v = some ((chain (C n) Ap).contains v) := by
  obtain ⟨cd, e1, e2⟩ := Option.map_eq_some_iff.mp (M.mro n hn)
  unfold PySem.W.mroIn
  rw [e1, Option.bind_some, e2]
  rfl
theorem Fam.cls (M : Fam P K mg Ap C fI) {n : Nat} (hn : n < 22) : (PySem.W.clsIn K (C n)).isSome = true := by
  obtain ⟨cd, e1, e2⟩ := Option.map_eq_some_iff.mp (M.mro n hn)
  rw [e1]
  rfl
theorem Fam.kit (M : Fam P K mg Ap C fI) (n j : Nat) (hn : n < 22) (hj : j < 22) : PySem.W.kitOne K (.ref (C n)) (.ref (C j)) = some (decide (n = j)) := by
  unfold PySem.W.kitOne
  by_cases e : n = j
  · subst e
    rw [if_pos (by simp), decide_eq_true rfl]
  · have ne : C n ≠ C j := fun z => e (M.inj n j hn hj z)
    rw [if_neg (by simpa using ne)]
    unfold PySem.W.kitCls
    simp only [M.cls hj, (M.T j hj).tyC]
    show (if (true && some (Value.type "type") == some (Value.type "type")) = true then PySem.W.mroIn K (C n) (.ref (C j)) else none) = _
    rw [if_pos (by simp), M.mroIn hn, decide_eq_false e]
    congr 1
    have h1 : (Value.ref (C j) == Value.ref (C n)) = false := by simpa using fun z => ne z.symm
    have h2 : (Value.ref (C j) == Value.ref Ap) = false := by simpa using M.ap j hj
    show (Value.ref (C j) == Value.ref (C n) || (Value.ref (C j) == Value.ref Ap || _)) = false
    rw [h1, h2]
    rfl
theorem Fam.kitA (M : Fam P K mg Ap C fI) (n : Nat) (hn : n < 22) : PySem.W.kitOne K (.ref (C n)) (.ref Ap) = some true := by
  unfold PySem.W.kitOne
  rw [if_neg (by simpa using M.ap n hn)]
  unfold PySem.W.kitCls
  simp only [M.clA, M.tyA]
  show (if (true && some (Value.type "type") == some (Value.type "type")) = true then PySem.W.mroIn K (C n) (.ref Ap) else none) = _
  rw [if_pos (by simp), M.mroIn hn]
  congr 1
  show (Value.ref Ap == Value.ref (C n) || (Value.ref Ap == Value.ref Ap || _)) = true
  simp
theorem Fam.kitT (M : Fam P K mg Ap C fI) (n : Nat) (hn : n < 22) (T : String) (b : Bool) (hm : PySem.W.kitMeta T = true) (hb : ([.type "ValueError", .type "Exception", .type "BaseException", .type "object"] : List Value).contains (.type T) = b) : PySem.W.kitOne K (.ref (C n)) (.type T) = some b := by
  unfold PySem.W.kitOne
  rw [if_neg (by simp)]
  unfold PySem.W.kitCls
  show (if PySem.W.kitMeta T = true then PySem.W.mroIn K (C n) (.type T) else none) = _
  rw [if_pos hm, M.mroIn hn, ← hb]
  rfl
theorem Fam.exm (M : Fam P K mg Ap C fI) (n : Nat) (hn : n < 22) : PySem.W.exmOne K (.ref (C n)) (.ref Ap) = some true := by
  have h := M.kitA n hn
  unfold PySem.W.kitOne at h
  rw [if_neg (by simpa using M.ap n hn)] at h
  unfold PySem.W.exmOne
  rw [M.exA, if_pos (by simp)]
  exact h
theorem XdOk.same {H H' : Hp} {d : Option Addr} (s : Same H H') : XdOk H d → XdOk H' d
  | .inl e => .inl e
  | .inr ⟨dd, fs, e, h⟩ => .inr ⟨dd, fs, e, s _ _ h⟩
theorem grow {H H1 : Hp} {p0 p1 : Addr} {o o' : HO} (s : Same H H1) (h0 : H p0 = none) (hp1 : H1 p1 = none) : Same H (upd (upd H1 p1 o) p0 o') := fun b u e => by
  have hb : b ≠ p0 := fun z => by rw [z, h0] at e; cases e
  rw [upd_ne hb, upd_ne (ne_of_none (s b u e) hp1)]
  exact s b u e
abbrev s_law_classes : Stmt := top 31
abbrev N_law_classes : List Str := ["_law_e", "_law_found"]
theorem sc_law_classes : FnScope N_law_classes ["_law_e"] (defScope s_law_classes) := ⟨rfl, rfl, rfl, by decide +kernel, rfl, by decide +kernel, by decide +kernel⟩
def claB (n : Nat) : List Bool := [decide (n = 0), decide (n = 1), decide (n = 2), decide (n = 3), decide (n = 4), decide (n = 5), decide (n = 6), decide (n = 7), decide (n = 8), decide (n = 9), decide (n = 10), decide (n = 11), decide (n = 12), decide (n = 13), decide (n = 14), decide (n = 15), decide (n = 16), decide (n = 17), decide (n = 18), decide (n = 19), decide (n = 20), decide (n = 21), true, true, false]
def spCla (C : Nat → Addr) : Addr → Value → Option Addr → Sp := fun a cls d vs H Q _ => ∃ n, n < 22 ∧ vs = [.ref a] ∧ cls = .ref (C n) ∧ XdOk H d ∧ ∀ (p : Addr) (H' : Hp), H p = none → Same H H' → H' p = some (.lst ((claB n).map V.bl)) → Q (.ref p) H'
theorem ok_classes {f : Addr} {fd : FuncData} (F : Fun K "_law_classes" "_law_classes" s_law_classes f fd) (T : Blt mg) (gV : mg "ValueError" = none) (gL : mg "LookupError" = none) (M : Fam P K mg Ap C fI) : FnE P w K mg base CX0 3 f fd ["_law_e"] (spCla C) := by
  refine okE F sc_law_classes (fun a c d vs H Q E h => ?_) (fun cdv A outer s H vs Q E p cls d hot hz hr h => ?_)
  · obtain ⟨n, _, rfl, _⟩ := h
    rfl
  obtain ⟨n, hn, rfl, rfl, hx, k⟩ := h
  obtain ⟨hh, vs0, hd0, _⟩ := hot
  have hf : ∃ vs, p.2.data = .fields vs := ⟨vs0, hd0⟩
  have hpn : (p.1, p.2) ∈ [p] := List.mem_singleton.mpr rfl
  refine wss (ps_set (i := 1) sc_law_classes.nd rfl (Or.inl rfl) (pe_lst (pa_cons (pe_callB (call_isX hpn hz hf) (by rfl) T.isinstance (by decide +kernel) (pa_cons (pv 0) (pa_cons (pe_glob (v := .ref (C 0)) (by rfl) (M.T 0 (by decide)).gC rfl) pa_nil))) (pa_cons (pe_callB (call_isX hpn hz hf) (by rfl) T.isinstance (by decide +kernel) (pa_cons (pv 0) (pa_cons (pe_glob (v := .ref (C 1)) (by rfl) (M.T 1 (by decide)).gC rfl) pa_nil))) (pa_cons (pe_callB (call_isX hpn hz hf) (by rfl) T.isinstance (by decide +kernel) (pa_cons (pv 0) (pa_cons (pe_glob (v := .ref (C 2)) (by rfl) (M.T 2 (by decide)).gC rfl) pa_nil))) pa_nil))))) ?_
  refine ⟨_, rfl, _, _, _, _, rfl, (fun _ r => r), rfl, M.is n hn, hx, M.kit n 0 hn (by decide), _, rfl, _, _, _, _, rfl, (fun _ r => r), rfl, M.is n hn, hx, M.kit n 1 hn (by decide), _, rfl, _, _, _, _, rfl, (fun _ r => r), rfl, M.is n hn, hx, M.kit n 2 hn (by decide), (by show 3 ≤ sizeLine; decide), fun p0 h0 => ?_⟩
  obtain ⟨H0, hH⟩ : ∃ H0, upd H p0 (.lst [.bl (decide (n = 0)), .bl (decide (n = 1)), .bl (decide (n = 2))]) = H0 := ⟨_, rfl⟩
  have s0 : Same H H0 := hH ▸ same_new h0
  have e0 : H0 p0 = some (.lst [.bl (decide (n = 0)), .bl (decide (n = 1)), .bl (decide (n = 2))]) := by rw [← hH]; exact upd_same
  rw [hH]
  clear hH
  refine wss (ps_aug (i := 1) sc_law_classes.nd rfl (Or.inl rfl) (pe_lst (pa_cons (pe_callB (call_isX hpn hz hf) (by rfl) T.isinstance (by decide +kernel) (pa_cons (pv 0) (pa_cons (pe_glob (v := .ref (C 3)) (by rfl) (M.T 3 (by decide)).gC rfl) pa_nil))) (pa_cons (pe_callB (call_isX hpn hz hf) (by rfl) T.isinstance (by decide +kernel) (pa_cons (pv 0) (pa_cons (pe_glob (v := .ref (C 4)) (by rfl) (M.T 4 (by decide)).gC rfl) pa_nil))) (pa_cons (pe_callB (call_isX hpn hz hf) (by rfl) T.isinstance (by decide +kernel) (pa_cons (pv 0) (pa_cons (pe_glob (v := .ref (C 5)) (by rfl) (M.T 5 (by decide)).gC rfl) pa_nil))) pa_nil)))) iop_ext) ?_
  refine ⟨_, rfl, _, rfl, _, _, _, _, rfl, (fun _ r => r), rfl, M.is n hn, (XdOk.same s0 hx), M.kit n 3 hn (by decide), _, rfl, _, _, _, _, rfl, (fun _ r => r), rfl, M.is n hn, (XdOk.same s0 hx), M.kit n 4 hn (by decide), _, rfl, _, _, _, _, rfl, (fun _ r => r), rfl, M.is n hn, (XdOk.same s0 hx), M.kit n 5 hn (by decide), (by show 3 ≤ sizeLine; decide), fun p1 h1 => ?_⟩
  refine ⟨p0, p1, _, _, rfl, rfl, by rw [upd_ne (ne_of_none e0 h1)]; exact e0, upd_same, sz5 (by show 3 + 3 ≤ 100000; omega), ?_⟩
  obtain ⟨Hx1, hH⟩ : ∃ Hx1, upd (upd H0 p1 (.lst [.bl (decide (n = 3)), .bl (decide (n = 4)), .bl (decide (n = 5))])) p0 (.lst ([.bl (decide (n = 0)), .bl (decide (n = 1)), .bl (decide (n = 2))] ++ [.bl (decide (n = 3)), .bl (decide (n = 4)), .bl (decide (n = 5))])) = Hx1 := ⟨_, rfl⟩
  have sx1 : Same H Hx1 := hH ▸ grow s0 h0 h1
  have ex1 : Hx1 p0 = some (.lst [.bl (decide (n = 0)), .bl (decide (n = 1)), .bl (decide (n = 2)), .bl (decide (n = 3)), .bl (decide (n = 4)), .bl (decide (n = 5))]) := by rw [← hH]; exact upd_same
  rw [hH]
  clear hH
  refine wss (ps_aug (i := 1) sc_law_classes.nd rfl (Or.inl rfl) (pe_lst (pa_cons (pe_callB (call_isX hpn hz hf) (by rfl) T.isinstance (by decide +kernel) (pa_cons (pv 0) (pa_cons (pe_glob (v := .ref (C 6)) (by rfl) (M.T 6 (by decide)).gC rfl) pa_nil))) (pa_cons (pe_callB (call_isX hpn hz hf) (by rfl) T.isinstance (by decide +kernel) (pa_cons (pv 0) (pa_cons (pe_glob (v := .ref (C 7)) (by rfl) (M.T 7 (by decide)).gC rfl) pa_nil))) (pa_cons (pe_callB (call_isX hpn hz hf) (by rfl) T.isinstance (by decide +kernel) (pa_cons (pv 0) (pa_cons (pe_glob (v := .ref (C 8)) (by rfl) (M.T 8 (by decide)).gC rfl) pa_nil))) pa_nil)))) iop_ext) ?_
  refine ⟨_, rfl, _, rfl, _, _, _, _, rfl, (fun _ r => r), rfl, M.is n hn, (XdOk.same sx1 hx), M.kit n 6 hn (by decide), _, rfl, _, _, _, _, rfl, (fun _ r => r), rfl, M.is n hn, (XdOk.same sx1 hx), M.kit n 7 hn (by decide), _, rfl, _, _, _, _, rfl, (fun _ r => r), rfl, M.is n hn, (XdOk.same sx1 hx), M.kit n 8 hn (by decide), (by show 3 ≤ sizeLine; decide), fun p1 h1 => ?_⟩
  refine ⟨p0, p1, _, _, rfl, rfl, by rw [upd_ne (ne_of_none ex1 h1)]; exact ex1, upd_same, sz5 (by show 6 + 3 ≤ 100000; omega), ?_⟩
  obtain ⟨Hx2, hH⟩ : ∃ Hx2, upd (upd Hx1 p1 (.lst [.bl (decide (n = 6)), .bl (decide (n = 7)), .bl (decide (n = 8))])) p0 (.lst ([.bl (decide (n = 0)), .bl (decide (n = 1)), .bl (decide (n = 2)), .bl (decide (n = 3)), .bl (decide (n = 4)), .bl (decide (n = 5))] ++ [.bl (decide (n = 6)), .bl (decide (n = 7)), .bl (decide (n = 8))])) = Hx2 := ⟨_, rfl⟩
  have sx2 : Same H Hx2 := hH ▸ grow sx1 h0 h1
  have ex2 : Hx2 p0 = some (.lst [.bl (decide (n = 0)), .bl (decide (n = 1)), .bl (decide (n = 2)), .bl (decide (n = 3)), .bl (decide (n = 4)), .bl (decide (n = 5)), .bl (decide (n = 6)), .bl (decide (n = 7)), .bl (decide (n = 8))]) := by rw [← hH]; exact upd_same
  rw [hH]
  clear hH
  refine wss (ps_aug (i := 1) sc_law_classes.nd rfl (Or.inl rfl) (pe_lst (pa_cons (pe_callB (call_isX hpn hz hf) (by rfl) T.isinstance (by decide +kernel) (pa_cons (pv 0) (pa_cons (pe_glob (v := .ref (C 9)) (by rfl) (M.T 9 (by decide)).gC rfl) pa_nil))) (pa_cons (pe_callB (call_isX hpn hz hf) (by rfl) T.isinstance (by decide +kernel) (pa_cons (pv 0) (pa_cons (pe_glob (v := .ref (C 10)) (by rfl) (M.T 10 (by decide)).gC rfl) pa_nil))) (pa_cons (pe_callB (call_isX hpn hz hf) (by rfl) T.isinstance (by decide +kernel) (pa_cons (pv 0) (pa_cons (pe_glob (v := .ref (C 11)) (by rfl) (M.T 11 (by decide)).gC rfl) pa_nil))) pa_nil)))) iop_ext) ?_
  refine ⟨_, rfl, _, rfl, _, _, _, _, rfl, (fun _ r => r), rfl, M.is n hn, (XdOk.same sx2 hx), M.kit n 9 hn (by decide), _, rfl, _, _, _, _, rfl, (fun _ r => r), rfl, M.is n hn, (XdOk.same sx2 hx), M.kit n 10 hn (by decide), _, rfl, _, _, _, _, rfl, (fun _ r => r), rfl, M.is n hn, (XdOk.same sx2 hx), M.kit n 11 hn (by decide), (by show 3 ≤ sizeLine; decide), fun p1 h1 => ?_⟩
  refine ⟨p0, p1, _, _, rfl, rfl, by rw [upd_ne (ne_of_none ex2 h1)]; exact ex2, upd_same, sz5 (by show 9 + 3 ≤ 100000; omega), ?_⟩
  obtain ⟨Hx3, hH⟩ : ∃ Hx3, upd (upd Hx2 p1 (.lst [.bl (decide (n = 9)), .bl (decide (n = 10)), .bl (decide (n = 11))])) p0 (.lst ([.bl (decide (n = 0)), .bl (decide (n = 1)), .bl (decide (n = 2)), .bl (decide (n = 3)), .bl (decide (n = 4)), .bl (decide (n = 5)), .bl (decide (n = 6)), .bl (decide (n = 7)), .bl (decide (n = 8))] ++ [.bl (decide (n = 9)), .bl (decide (n = 10)), .bl (decide (n = 11))])) = Hx3 := ⟨_, rfl⟩
  have sx3 : Same H Hx3 := hH ▸ grow sx2 h0 h1
  have ex3 : Hx3 p0 = some (.lst [.bl (decide (n = 0)), .bl (decide (n = 1)), .bl (decide (n = 2)), .bl (decide (n = 3)), .bl (decide (n = 4)), .bl (decide (n = 5)), .bl (decide (n = 6)), .bl (decide (n = 7)), .bl (decide (n = 8)), .bl (decide (n = 9)), .bl (decide (n = 10)), .bl (decide (n = 11))]) := by rw [← hH]; exact upd_same
  rw [hH]
  clear hH
  refine wss (ps_aug (i := 1) sc_law_classes.nd rfl (Or.inl rfl) (pe_lst (pa_cons (pe_callB (call_isX hpn hz hf) (by rfl) T.isinstance (by decide +kernel) (pa_cons (pv 0) (pa_cons (pe_glob (v := .ref (C 12)) (by rfl) (M.T 12 (by decide)).gC rfl) pa_nil))) (pa_cons (pe_callB (call_isX hpn hz hf) (by rfl) T.isinstance (by decide +kernel) (pa_cons (pv 0) (pa_cons (pe_glob (v := .ref (C 13)) (by rfl) (M.T 13 (by decide)).gC rfl) pa_nil))) (pa_cons (pe_callB (call_isX hpn hz hf) (by rfl) T.isinstance (by decide +kernel) (pa_cons (pv 0) (pa_cons (pe_glob (v := .ref (C 14)) (by rfl) (M.T 14 (by decide)).gC rfl) pa_nil))) pa_nil)))) iop_ext) ?_
  refine ⟨_, rfl, _, rfl, _, _, _, _, rfl, (fun _ r => r), rfl, M.is n hn, (XdOk.same sx3 hx), M.kit n 12 hn (by decide), _, rfl, _, _, _, _, rfl, (fun _ r => r), rfl, M.is n hn, (XdOk.same sx3 hx), M.kit n 13 hn (by decide), _, rfl, _, _, _, _, rfl, (fun _ r => r), rfl, M.is n hn, (XdOk.same sx3 hx), M.kit n 14 hn (by decide), (by show 3 ≤ sizeLine; decide), fun p1 h1 => ?_⟩
  refine ⟨p0, p1, _, _, rfl, rfl, by rw [upd_ne (ne_of_none ex3 h1)]; exact ex3, upd_same, sz5 (by show 12 + 3 ≤ 100000; omega), ?_⟩
  obtain ⟨Hx4, hH⟩ : ∃ Hx4, upd (upd Hx3 p1 (.lst [.bl (decide (n = 12)), .bl (decide (n = 13)), .bl (decide (n = 14))])) p0 (.lst ([.bl (decide (n = 0)), .bl (decide (n = 1)), .bl (decide (n = 2)), .bl (decide (n = 3)), .bl (decide (n = 4)), .bl (decide (n = 5)), .bl (decide (n = 6)), .bl (decide (n = 7)), .bl (decide (n = 8)), .bl (decide (n = 9)), .bl (decide (n = 10)), .bl (decide (n = 11))] ++ [.bl (decide (n = 12)), .bl (decide (n = 13)), .bl (decide (n = 14))])) = Hx4 := ⟨_, rfl⟩
  have sx4 : Same H Hx4 := hH ▸ grow sx3 h0 h1
  have ex4 : Hx4 p0 = some (.lst [.bl (decide (n = 0)), .bl (decide (n = 1)), .bl (decide (n = 2)), .bl (decide (n = 3)), .bl (decide (n = 4)), .bl (decide (n = 5)), .bl (decide (n = 6)), .bl (decide (n = 7)), .bl (decide (n = 8)), .bl (decide (n = 9)), .bl (decide (n = 10)), .bl (decide (n = 11)), .bl (decide (n = 12)), .bl (decide (n = 13)), .bl (decide (n = 14))]) := by rw [← hH]; exact upd_same
  rw [hH]
  clear hH
  refine wss (ps_aug (i := 1) sc_law_classes.nd rfl (Or.inl rfl) (pe_lst (pa_cons (pe_callB (call_isX hpn hz hf) (by rfl) T.isinstance (by decide +kernel) (pa_cons (pv 0) (pa_cons (pe_glob (v := .ref (C 15)) (by rfl) (M.T 15 (by decide)).gC rfl) pa_nil))) (pa_cons (pe_callB (call_isX hpn hz hf) (by rfl) T.isinstance (by decide +kernel) (pa_cons (pv 0) (pa_cons (pe_glob (v := .ref (C 16)) (by rfl) (M.T 16 (by decide)).gC rfl) pa_nil))) (pa_cons (pe_callB (call_isX hpn hz hf) (by rfl) T.isinstance (by decide +kernel) (pa_cons (pv 0) (pa_cons (pe_glob (v := .ref (C 17)) (by rfl) (M.T 17 (by decide)).gC rfl) pa_nil))) pa_nil)))) iop_ext) ?_
  refine ⟨_, rfl, _, rfl, _, _, _, _, rfl, (fun _ r => r), rfl, M.is n hn, (XdOk.same sx4 hx), M.kit n 15 hn (by decide), _, rfl, _, _, _, _, rfl, (fun _ r => r), rfl, M.is n hn, (XdOk.same sx4 hx), M.kit n 16 hn (by decide), _, rfl, _, _, _, _, rfl, (fun _ r => r), rfl, M.is n hn, (XdOk.same sx4 hx), M.kit n 17 hn (by decide), (by show 3 ≤ sizeLine; decide), fun p1 h1 => ?_⟩
  refine ⟨p0, p1, _, _, rfl, rfl, by rw [upd_ne (ne_of_none ex4 h1)]; exact ex4, upd_same, sz5 (by show 15 + 3 ≤ 100000; omega), ?_⟩
  obtain ⟨Hx5, hH⟩ : ∃ Hx5, upd (upd Hx4 p1 (.lst [.bl (decide (n = 15)), .bl (decide (n = 16)), .bl (decide (n = 17))])) p0 (.lst ([.bl (decide (n = 0)), .bl (decide (n = 1)), .bl (decide (n = 2)), .bl (decide (n = 3)), .bl (decide (n = 4)), .bl (decide (n = 5)), .bl (decide (n = 6)), .bl (decide (n = 7)), .bl (decide (n = 8)), .bl (decide (n = 9)), .bl (decide (n = 10)), .bl (decide (n = 11)), .bl (decide (n = 12)), .bl (decide (n = 13)), .bl (decide (n = 14))] ++ [.bl (decide (n = 15)), .bl (decide (n = 16)), .bl (decide (n = 17))])) = Hx5 := ⟨_, rfl⟩
  have sx5 : Same H Hx5 := hH ▸ grow sx4 h0 h1
  have ex5 : Hx5 p0 = some (.lst [.bl (decide (n = 0)), .bl (decide (n = 1)), .bl (decide (n = 2)), .bl (decide (n = 3)), .bl (decide (n = 4)), .bl (decide (n = 5)), .bl (decide (n = 6)), .bl (decide (n = 7)), .bl (decide (n = 8)), .bl (decide (n = 9)), .bl (decide (n = 10)), .bl (decide (n = 11)), .bl (decide (n = 12)), .bl (decide (n = 13)), .bl (decide (n = 14)), .bl (decide (n = 15)), .bl (decide (n = 16)), .bl (decide (n = 17))]) := by rw [← hH]; exact upd_same
  rw [hH]
  clear hH
  refine wss (ps_aug (i := 1) sc_law_classes.nd rfl (Or.inl rfl) (pe_lst (pa_cons (pe_callB (call_isX hpn hz hf) (by rfl) T.isinstance (by decide +kernel) (pa_cons (pv 0) (pa_cons (pe_glob (v := .ref (C 18)) (by rfl) (M.T 18 (by decide)).gC rfl) pa_nil))) (pa_cons (pe_callB (call_isX hpn hz hf) (by rfl) T.isinstance (by decide +kernel) (pa_cons (pv 0) (pa_cons (pe_glob (v := .ref (C 19)) (by rfl) (M.T 19 (by decide)).gC rfl) pa_nil))) (pa_cons (pe_callB (call_isX hpn hz hf) (by rfl) T.isinstance (by decide +kernel) (pa_cons (pv 0) (pa_cons (pe_glob (v := .ref (C 20)) (by rfl) (M.T 20 (by decide)).gC rfl) pa_nil))) pa_nil)))) iop_ext) ?_
  refine ⟨_, rfl, _, rfl, _, _, _, _, rfl, (fun _ r => r), rfl, M.is n hn, (XdOk.same sx5 hx), M.kit n 18 hn (by decide), _, rfl, _, _, _, _, rfl, (fun _ r => r), rfl, M.is n hn, (XdOk.same sx5 hx), M.kit n 19 hn (by decide), _, rfl, _, _, _, _, rfl, (fun _ r => r), rfl, M.is n hn, (XdOk.same sx5 hx), M.kit n 20 hn (by decide), (by show 3 ≤ sizeLine; decide), fun p1 h1 => ?_⟩
  refine ⟨p0, p1, _, _, rfl, rfl, by rw [upd_ne (ne_of_none ex5 h1)]; exact ex5, upd_same, sz5 (by show 18 + 3 ≤ 100000; omega), ?_⟩
  obtain ⟨Hx6, hH⟩ : ∃ Hx6, upd (upd Hx5 p1 (.lst [.bl (decide (n = 18)), .bl (decide (n = 19)), .bl (decide (n = 20))])) p0 (.lst ([.bl (decide (n = 0)), .bl (decide (n = 1)), .bl (decide (n = 2)), .bl (decide (n = 3)), .bl (decide (n = 4)), .bl (decide (n = 5)), .bl (decide (n = 6)), .bl (decide (n = 7)), .bl (decide (n = 8)), .bl (decide (n = 9)), .bl (decide (n = 10)), .bl (decide (n = 11)), .bl (decide (n = 12)), .bl (decide (n = 13)), .bl (decide (n = 14)), .bl (decide (n = 15)), .bl (decide (n = 16)), .bl (decide (n = 17))] ++ [.bl (decide (n = 18)), .bl (decide (n = 19)), .bl (decide (n = 20))])) = Hx6 := ⟨_, rfl⟩
  have sx6 : Same H Hx6 := hH ▸ grow sx5 h0 h1
  have ex6 : Hx6 p0 = some (.lst [.bl (decide (n = 0)), .bl (decide (n = 1)), .bl (decide (n = 2)), .bl (decide (n = 3)), .bl (decide (n = 4)), .bl (decide (n = 5)), .bl (decide (n = 6)), .bl (decide (n = 7)), .bl (decide (n = 8)), .bl (decide (n = 9)), .bl (decide (n = 10)), .bl (decide (n = 11)), .bl (decide (n = 12)), .bl (decide (n = 13)), .bl (decide (n = 14)), .bl (decide (n = 15)), .bl (decide (n = 16)), .bl (decide (n = 17)), .bl (decide (n = 18)), .bl (decide (n = 19)), .bl (decide (n = 20))]) := by rw [← hH]; exact upd_same
  rw [hH]
  clear hH
  refine wss (ps_aug (i := 1) sc_law_classes.nd rfl (Or.inl rfl) (pe_lst (pa_cons (pe_callB (call_isX hpn hz hf) (by rfl) T.isinstance (by decide +kernel) (pa_cons (pv 0) (pa_cons (pe_glob (v := .ref (C 21)) (by rfl) (M.T 21 (by decide)).gC rfl) pa_nil))) pa_nil)) iop_ext) ?_
  refine ⟨_, rfl, _, rfl, _, _, _, _, rfl, (fun _ r => r), rfl, M.is n hn, (XdOk.same sx6 hx), M.kit n 21 hn (by decide), (by show 1 ≤ sizeLine; decide), fun p1 h1 => ?_⟩
  refine ⟨p0, p1, _, _, rfl, rfl, by rw [upd_ne (ne_of_none ex6 h1)]; exact ex6, upd_same, sz5 (by show 21 + 1 ≤ 100000; omega), ?_⟩
  obtain ⟨Hx7, hH⟩ : ∃ Hx7, upd (upd Hx6 p1 (.lst [.bl (decide (n = 21))])) p0 (.lst ([.bl (decide (n = 0)), .bl (decide (n = 1)), .bl (decide (n = 2)), .bl (decide (n = 3)), .bl (decide (n = 4)), .bl (decide (n = 5)), .bl (decide (n = 6)), .bl (decide (n = 7)), .bl (decide (n = 8)), .bl (decide (n = 9)), .bl (decide (n = 10)), .bl (decide (n = 11)), .bl (decide (n = 12)), .bl (decide (n = 13)), .bl (decide (n = 14)), .bl (decide (n = 15)), .bl (decide (n = 16)), .bl (decide (n = 17)), .bl (decide (n = 18)), .bl (decide (n = 19)), .bl (decide (n = 20))] ++ [.bl (decide (n = 21))])) = Hx7 := ⟨_, rfl⟩
  have sx7 : Same H Hx7 := hH ▸ grow sx6 h0 h1
  have ex7 : Hx7 p0 = some (.lst [.bl (decide (n = 0)), .bl (decide (n = 1)), .bl (decide (n = 2)), .bl (decide (n = 3)), .bl (decide (n = 4)), .bl (decide (n = 5)), .bl (decide (n = 6)), .bl (decide (n = 7)), .bl (decide (n = 8)), .bl (decide (n = 9)), .bl (decide (n = 10)), .bl (decide (n = 11)), .bl (decide (n = 12)), .bl (decide (n = 13)), .bl (decide (n = 14)), .bl (decide (n = 15)), .bl (decide (n = 16)), .bl (decide (n = 17)), .bl (decide (n = 18)), .bl (decide (n = 19)), .bl (decide (n = 20)), .bl (decide (n = 21))]) := by rw [← hH]; exact upd_same
  rw [hH]
  clear hH
  refine wss (ps_ret (pe_op op_cat (pv 1) (pe_lst (pa_cons (pe_callB (call_isX hpn hz hf) (by rfl) T.isinstance (by decide +kernel) (pa_cons (pv 0) (pa_cons (pe_glob (v := .ref Ap) (by rfl) M.gA rfl) pa_nil))) (pa_cons (pe_callB (call_isX hpn hz hf) (by rfl) T.isinstance (by decide +kernel) (pa_cons (pv 0) (pa_cons (pe_bltn (v := .ty "ValueError") (by rfl) gV (by decide +kernel) rfl) pa_nil))) (pa_cons (pe_callB (call_isX hpn hz hf) (by rfl) T.isinstance (by decide +kernel) (pa_cons (pv 0) (pa_cons (pe_bltn (v := .ty "LookupError") (by rfl) gL (by decide +kernel) rfl) pa_nil))) pa_nil)))))) ?_
  refine ⟨_, rfl, _, rfl, _, _, _, _, rfl, (fun _ r => r), rfl, M.is n hn, (XdOk.same sx7 hx), M.kitA n hn, _, rfl, _, _, _, _, rfl, (fun _ r => r), rfl, M.is n hn, (XdOk.same sx7 hx), M.kitT n hn "ValueError" true (by decide +kernel) (by decide +kernel), _, rfl, _, _, _, _, rfl, (fun _ r => r), rfl, M.is n hn, (XdOk.same sx7 hx), M.kitT n hn "LookupError" false (by decide +kernel) (by decide +kernel), (by show 3 ≤ sizeLine; decide), fun p1 h1 => ?_⟩
  refine ⟨p0, p1, _, _, rfl, rfl, by rw [upd_ne (ne_of_none ex7 h1)]; exact ex7, upd_same, sz5 (by show 22 + 3 ≤ 100000; omega), fun p2 h2 => ?_⟩
  have s1 := sx7.trans (same_new (o := .lst [.bl true, .bl true, .bl false]) h1)
  exact k p2 _ (s1.free h2) (s1.trans (same_new h2)) upd_same
end
end Kk

namespace Kk
open PySem PySem.Spec PyProof.Rows L2 FA L2H
section
variable {P : Program} {w : World} {K : PySem.W.Frag} {mg : Str → Option Value} {base : Heap} {Ap : Addr} {C fI : Nat → Addr}
theorem inV_ints (i : Int) : ∀ l : List Int, inV (.int i) (l.map V.int) = decide (i ∈ l)
  | [] => rfl
  | y :: l => by
    have ih := inV_ints i l
    show (eqV (.int y) (.int i) || inV (.int i) (l.map V.int)) = decide (i ∈ y :: l)
    rw [ih]
    show ((y == i) || _) = _
    rw [Bool.eq_iff_iff, Bool.or_eq_true, beq_iff_eq, decide_eq_true_iff, decide_eq_true_iff, List.mem_cons]
    exact ⟨fun h => h.elim (fun e => .inl e.symm) .inr, fun h => h.elim (fun e => .inl e.symm) .inr⟩
abbrev s_law_fields : Stmt := top 32
abbrev N_law_fields : List Str := ["_law_k", "_law_e"]
theorem sc_law_fields : FnScope N_law_fields ["_law_k", "_law_e"] (defScope s_law_fields) := ⟨rfl, rfl, rfl, by decide +kernel, rfl, by decide +kernel, by decide +kernel⟩
def fdV (n : Nat) (v1 v2 : V) : List (Str × V) := (flK n).zip [v1, v2]
def spFld (C : Nat → Addr) : Addr → Value → Option Addr → Sp := fun a cls d vs H Q _ => ∃ (n : Nat) (v1 v2 : V), n < 22 ∧ vs = [.int n, .ref a] ∧ cls = .ref (C n) ∧ (n < 14 → ∃ dd, d = some dd ∧ H dd = some (.xd (fdV n v1 v2))) ∧
  ∀ (p : Addr) (H' : Hp), H p = none → Same H H' → H' p = some (.lst ((fdV n v1 v2).map (·.2))) → Q (.ref p) H'
theorem ok_fields {f : Addr} {fd : FuncData} (F : Fun K "_law_fields" "_law_fields" s_law_fields f fd) (T : Blt mg) (M : Fam P K mg Ap C fI) : FnE P w K mg base CX0 3 f fd ["_law_k", "_law_e"] (spFld C) := by
  refine okE F sc_law_fields (fun a c d vs H Q E h => ?_) (fun cdv A outer s H vs Q E p cls d hot hz hr h => ?_)
  · obtain ⟨n, _, _, _, rfl, _⟩ := h
    rfl
  obtain ⟨n, v1, v2, hn, rfl, rfl, hd, k⟩ := h
  obtain ⟨hh, vs0, hd0, _⟩ := hot
  have hf : ∃ vs, p.2.data = .fields vs := ⟨vs0, hd0⟩
  have hpn : (p.1, p.2) ∈ [p] := List.mem_singleton.mpr rfl
  have s0 : Same H H := fun _ _ e => e
  obtain ⟨H0, hH0⟩ : ∃ H0 : Hp, H = H0 := ⟨_, rfl⟩
  have s0 : Same H H0 := hH0 ▸ s0
  show WSs _ _ _ _ H
  rw [show H = H0 from hH0]
  clear hH0
  refine wss (ps_if (pt_cmpR op_in_seq (pv 0) (pe_tup (pa_cons pe_int (pa_cons pe_int pa_nil))) (by rfl)) pss_w pss_w) ?_
  refine ⟨_, rfl, (by show 2 ≤ sizeLine; decide), fun q1 hq1 => ⟨q1, _, rfl, .inr (.inl (.inl upd_same)), rfl, rfl, _, rfl, ?_⟩⟩
  obtain ⟨H1, hH⟩ : ∃ H1, upd H0 q1 (.tup [.int 0, .int 3]) = H1 := ⟨_, rfl⟩
  have s1 : Same H H1 := hH ▸ s0.trans (same_new hq1)
  rw [hH]
  clear hH
  refine ite2 (fun h => ?_) (fun h1 => ?_)
  · have h := of_decide_eq_true ((inV_ints n [(0 : Int), (3 : Int)]).symm.trans h)
    have hk : n = 0 ∨ n = 3 := by simp at h; omega
    rcases hk with rfl | rfl
    · obtain ⟨dd, rfl, hdd⟩ := hd (by decide)
      exact wss (ps_ret (pe_lst (pa_cons (pe_xfl hpn hz hf (pv 1)) pa_nil))) ⟨_, rfl, rfl, C 0, dd, _, v1, rfl, (M.T 0 (by decide)).xf, (M.T 0 (by decide)).noN _ (show ("place" : Str) ∈ (["place"] : List Str) from List.mem_cons_self), rfl, s1 _ _ hdd, rfl, (by show 1 ≤ sizeLine; decide), fun p hp => k p _ (s1.free hp) (s1.trans (same_new hp)) upd_same⟩
    · obtain ⟨dd, rfl, hdd⟩ := hd (by decide)
      exact wss (ps_ret (pe_lst (pa_cons (pe_xfl hpn hz hf (pv 1)) pa_nil))) ⟨_, rfl, rfl, C 3, dd, _, v1, rfl, (M.T 3 (by decide)).xf, (M.T 3 (by decide)).noN _ (show ("place" : Str) ∈ (["place"] : List Str) from List.mem_cons_self), rfl, s1 _ _ hdd, rfl, (by show 1 ≤ sizeLine; decide), fun p hp => k p _ (s1.free hp) (s1.trans (same_new hp)) upd_same⟩
  refine wss_end ?_
  refine wss (ps_if (pt_cmpR op_in_seq (pv 0) (pe_tup (pa_cons pe_int (pa_cons pe_int (pa_cons pe_int (pa_cons pe_int pa_nil))))) (by rfl)) pss_w pss_w) ?_
  refine ⟨_, rfl, (by show 4 ≤ sizeLine; decide), fun q2 hq2 => ⟨q2, _, rfl, .inr (.inl (.inl upd_same)), rfl, rfl, _, rfl, ?_⟩⟩
  obtain ⟨H2, hH⟩ : ∃ H2, upd H1 q2 (.tup [.int 1, .int 2, .int 5, .int 6]) = H2 := ⟨_, rfl⟩
  have s2 : Same H H2 := hH ▸ s1.trans (same_new hq2)
  rw [hH]
  clear hH
  refine ite2 (fun h => ?_) (fun h2 => ?_)
  · have h := of_decide_eq_true ((inV_ints n [(1 : Int), (2 : Int), (5 : Int), (6 : Int)]).symm.trans h)
    have hk : n = 1 ∨ n = 2 ∨ n = 5 ∨ n = 6 := by simp at h; omega
    rcases hk with rfl | rfl | rfl | rfl
    · obtain ⟨dd, rfl, hdd⟩ := hd (by decide)
      exact wss (ps_ret (pe_lst (pa_cons (pe_xfl hpn hz hf (pv 1)) pa_nil))) ⟨_, rfl, rfl, C 1, dd, _, v1, rfl, (M.T 1 (by decide)).xf, (M.T 1 (by decide)).noN _ (show ("name" : Str) ∈ (["name"] : List Str) from List.mem_cons_self), rfl, s2 _ _ hdd, rfl, (by show 1 ≤ sizeLine; decide), fun p hp => k p _ (s2.free hp) (s2.trans (same_new hp)) upd_same⟩
    · obtain ⟨dd, rfl, hdd⟩ := hd (by decide)
      exact wss (ps_ret (pe_lst (pa_cons (pe_xfl hpn hz hf (pv 1)) pa_nil))) ⟨_, rfl, rfl, C 2, dd, _, v1, rfl, (M.T 2 (by decide)).xf, (M.T 2 (by decide)).noN _ (show ("name" : Str) ∈ (["name"] : List Str) from List.mem_cons_self), rfl, s2 _ _ hdd, rfl, (by show 1 ≤ sizeLine; decide), fun p hp => k p _ (s2.free hp) (s2.trans (same_new hp)) upd_same⟩
    · obtain ⟨dd, rfl, hdd⟩ := hd (by decide)
      exact wss (ps_ret (pe_lst (pa_cons (pe_xfl hpn hz hf (pv 1)) pa_nil))) ⟨_, rfl, rfl, C 5, dd, _, v1, rfl, (M.T 5 (by decide)).xf, (M.T 5 (by decide)).noN _ (show ("name" : Str) ∈ (["name"] : List Str) from List.mem_cons_self), rfl, s2 _ _ hdd, rfl, (by show 1 ≤ sizeLine; decide), fun p hp => k p _ (s2.free hp) (s2.trans (same_new hp)) upd_same⟩
    · obtain ⟨dd, rfl, hdd⟩ := hd (by decide)
      exact wss (ps_ret (pe_lst (pa_cons (pe_xfl hpn hz hf (pv 1)) pa_nil))) ⟨_, rfl, rfl, C 6, dd, _, v1, rfl, (M.T 6 (by decide)).xf, (M.T 6 (by decide)).noN _ (show ("name" : Str) ∈ (["name"] : List Str) from List.mem_cons_self), rfl, s2 _ _ hdd, rfl, (by show 1 ≤ sizeLine; decide), fun p hp => k p _ (s2.free hp) (s2.trans (same_new hp)) upd_same⟩
  refine wss_end ?_
  refine wss (ps_if (pt_cmpR op_in_seq (pv 0) (pe_tup (pa_cons pe_int pa_nil)) (by rfl)) pss_w pss_w) ?_
  refine ⟨_, rfl, (by show 1 ≤ sizeLine; decide), fun q3 hq3 => ⟨q3, _, rfl, .inr (.inl (.inl upd_same)), rfl, rfl, _, rfl, ?_⟩⟩
  obtain ⟨H3, hH⟩ : ∃ H3, upd H2 q3 (.tup [.int 4]) = H3 := ⟨_, rfl⟩
  have s3 : Same H H3 := hH ▸ s2.trans (same_new hq3)
  rw [hH]
  clear hH
  refine ite2 (fun h => ?_) (fun h3 => ?_)
  · have h := of_decide_eq_true ((inV_ints n [(4 : Int)]).symm.trans h)
    obtain rfl : n = 4 := by simp at h; omega
    obtain ⟨dd, rfl, hdd⟩ := hd (by decide)
    exact wss (ps_ret (pe_lst (pa_cons (pe_xfl hpn hz hf (pv 1)) pa_nil))) ⟨_, rfl, rfl, C 4, dd, _, v1, rfl, (M.T 4 (by decide)).xf, (M.T 4 (by decide)).noN _ (show ("index" : Str) ∈ (["index"] : List Str) from List.mem_cons_self), rfl, s3 _ _ hdd, rfl, (by show 1 ≤ sizeLine; decide), fun p hp => k p _ (s3.free hp) (s3.trans (same_new hp)) upd_same⟩
  refine wss_end ?_
  refine wss (ps_if (pt_cmpR op_in_seq (pv 0) (pe_tup (pa_cons pe_int (pa_cons pe_int pa_nil))) (by rfl)) pss_w pss_w) ?_
  refine ⟨_, rfl, (by show 2 ≤ sizeLine; decide), fun q4 hq4 => ⟨q4, _, rfl, .inr (.inl (.inl upd_same)), rfl, rfl, _, rfl, ?_⟩⟩
  obtain ⟨H4, hH⟩ : ∃ H4, upd H3 q4 (.tup [.int 7, .int 8]) = H4 := ⟨_, rfl⟩
  have s4 : Same H H4 := hH ▸ s3.trans (same_new hq4)
  rw [hH]
  clear hH
  refine ite2 (fun h => ?_) (fun h4 => ?_)
  · have h := of_decide_eq_true ((inV_ints n [(7 : Int), (8 : Int)]).symm.trans h)
    have hk : n = 7 ∨ n = 8 := by simp at h; omega
    rcases hk with rfl | rfl
    · obtain ⟨dd, rfl, hdd⟩ := hd (by decide)
      exact wss (ps_ret (pe_lst (pa_cons (pe_xfl hpn hz hf (pv 1)) pa_nil))) ⟨_, rfl, rfl, C 7, dd, _, v1, rfl, (M.T 7 (by decide)).xf, (M.T 7 (by decide)).noN _ (show ("row" : Str) ∈ (["row"] : List Str) from List.mem_cons_self), rfl, s4 _ _ hdd, rfl, (by show 1 ≤ sizeLine; decide), fun p hp => k p _ (s4.free hp) (s4.trans (same_new hp)) upd_same⟩
    · obtain ⟨dd, rfl, hdd⟩ := hd (by decide)
      exact wss (ps_ret (pe_lst (pa_cons (pe_xfl hpn hz hf (pv 1)) pa_nil))) ⟨_, rfl, rfl, C 8, dd, _, v1, rfl, (M.T 8 (by decide)).xf, (M.T 8 (by decide)).noN _ (show ("row" : Str) ∈ (["row"] : List Str) from List.mem_cons_self), rfl, s4 _ _ hdd, rfl, (by show 1 ≤ sizeLine; decide), fun p hp => k p _ (s4.free hp) (s4.trans (same_new hp)) upd_same⟩
  refine wss_end ?_
  refine wss (ps_if (pt_cmpR op_in_seq (pv 0) (pe_tup (pa_cons pe_int (pa_cons pe_int pa_nil))) (by rfl)) pss_w pss_w) ?_
  refine ⟨_, rfl, (by show 2 ≤ sizeLine; decide), fun q5 hq5 => ⟨q5, _, rfl, .inr (.inl (.inl upd_same)), rfl, rfl, _, rfl, ?_⟩⟩
  obtain ⟨H5, hH⟩ : ∃ H5, upd H4 q5 (.tup [.int 9, .int 11]) = H5 := ⟨_, rfl⟩
  have s5 : Same H H5 := hH ▸ s4.trans (same_new hq5)
  rw [hH]
  clear hH
  refine ite2 (fun h => ?_) (fun h5 => ?_)
  · have h := of_decide_eq_true ((inV_ints n [(9 : Int), (11 : Int)]).symm.trans h)
    have hk : n = 9 ∨ n = 11 := by simp at h; omega
    rcases hk with rfl | rfl
    · obtain ⟨dd, rfl, hdd⟩ := hd (by decide)
      exact wss (ps_ret (pe_lst (pa_cons (pe_xfl hpn hz hf (pv 1)) pa_nil))) ⟨_, rfl, rfl, C 9, dd, _, v1, rfl, (M.T 9 (by decide)).xf, (M.T 9 (by decide)).noN _ (show ("most" : Str) ∈ (["most"] : List Str) from List.mem_cons_self), rfl, s5 _ _ hdd, rfl, (by show 1 ≤ sizeLine; decide), fun p hp => k p _ (s5.free hp) (s5.trans (same_new hp)) upd_same⟩
    · obtain ⟨dd, rfl, hdd⟩ := hd (by decide)
      exact wss (ps_ret (pe_lst (pa_cons (pe_xfl hpn hz hf (pv 1)) pa_nil))) ⟨_, rfl, rfl, C 11, dd, _, v1, rfl, (M.T 11 (by decide)).xf, (M.T 11 (by decide)).noN _ (show ("most" : Str) ∈ (["most"] : List Str) from List.mem_cons_self), rfl, s5 _ _ hdd, rfl, (by show 1 ≤ sizeLine; decide), fun p hp => k p _ (s5.free hp) (s5.trans (same_new hp)) upd_same⟩
  refine wss_end ?_
  refine wss (ps_if (pt_cmpR op_in_seq (pv 0) (pe_tup (pa_cons pe_int pa_nil)) (by rfl)) pss_w pss_w) ?_
  refine ⟨_, rfl, (by show 1 ≤ sizeLine; decide), fun q6 hq6 => ⟨q6, _, rfl, .inr (.inl (.inl upd_same)), rfl, rfl, _, rfl, ?_⟩⟩
  obtain ⟨H6, hH⟩ : ∃ H6, upd H5 q6 (.tup [.int 10]) = H6 := ⟨_, rfl⟩
  have s6 : Same H H6 := hH ▸ s5.trans (same_new hq6)
  rw [hH]
  clear hH
  refine ite2 (fun h => ?_) (fun h6 => ?_)
  · have h := of_decide_eq_true ((inV_ints n [(10 : Int)]).symm.trans h)
    obtain rfl : n = 10 := by simp at h; omega
    obtain ⟨dd, rfl, hdd⟩ := hd (by decide)
    exact wss (ps_ret (pe_lst (pa_cons (pe_xfl hpn hz hf (pv 1)) pa_nil))) ⟨_, rfl, rfl, C 10, dd, _, v1, rfl, (M.T 10 (by decide)).xf, (M.T 10 (by decide)).noN _ (show ("many" : Str) ∈ (["many"] : List Str) from List.mem_cons_self), rfl, s6 _ _ hdd, rfl, (by show 1 ≤ sizeLine; decide), fun p hp => k p _ (s6.free hp) (s6.trans (same_new hp)) upd_same⟩
  refine wss_end ?_
  refine wss (ps_if (pt_cmpR op_in_seq (pv 0) (pe_tup (pa_cons pe_int pa_nil)) (by rfl)) pss_w pss_w) ?_
  refine ⟨_, rfl, (by show 1 ≤ sizeLine; decide), fun q7 hq7 => ⟨q7, _, rfl, .inr (.inl (.inl upd_same)), rfl, rfl, _, rfl, ?_⟩⟩
  obtain ⟨H7, hH⟩ : ∃ H7, upd H6 q7 (.tup [.int 12]) = H7 := ⟨_, rfl⟩
  have s7 : Same H H7 := hH ▸ s6.trans (same_new hq7)
  rw [hH]
  clear hH
  refine ite2 (fun h => ?_) (fun h7 => ?_)
  · have h := of_decide_eq_true ((inV_ints n [(12 : Int)]).symm.trans h)
    obtain rfl : n = 12 := by simp at h; omega
    obtain ⟨dd, rfl, hdd⟩ := hd (by decide)
    exact wss (ps_ret (pe_lst (pa_cons (pe_xfl hpn hz hf (pv 1)) pa_nil))) ⟨_, rfl, rfl, C 12, dd, _, v1, rfl, (M.T 12 (by decide)).xf, (M.T 12 (by decide)).noN _ (show ("deed" : Str) ∈ (["deed"] : List Str) from List.mem_cons_self), rfl, s7 _ _ hdd, rfl, (by show 1 ≤ sizeLine; decide), fun p hp => k p _ (s7.free hp) (s7.trans (same_new hp)) upd_same⟩
  refine wss_end ?_
  refine wss (ps_ret (pe_ifExp (pt_cmpR op_eq (pv 0) pe_int (by rfl)) (pe_lst (pa_cons (pe_xfl hpn hz hf (pv 1)) (pa_cons (pe_xfl hpn hz hf (pv 1)) pa_nil))) (pe_lst pa_nil))) ?_
  refine ⟨_, rfl, rfl, _, rfl, ?_⟩
  refine ite2 (fun h => ?_) (fun h13 => ?_)
  · obtain rfl : n = 13 := nat_of h
    obtain ⟨dd, rfl, hdd⟩ := hd (by decide)
    exact ⟨_, rfl, rfl, C 13, dd, _, v1, rfl, (M.T 13 (by decide)).xf, (M.T 13 (by decide)).noN _ (show ("name" : Str) ∈ (["name", "index"] : List Str) from List.mem_cons_self), rfl, s7 _ _ hdd, rfl,
      _, rfl, rfl, C 13, dd, _, v2, rfl, (M.T 13 (by decide)).xf, (M.T 13 (by decide)).noN _ (show ("index" : Str) ∈ (["name", "index"] : List Str) from List.mem_cons_of_mem _ List.mem_cons_self), rfl, s7 _ _ hdd, rfl, (by show 2 ≤ sizeLine; decide), fun p hp => k p _ (s7.free hp) (s7.trans (same_new hp)) upd_same⟩
  · have e : fdV n v1 v2 = [] := by
      have g1 : ¬ ((n : Int) ∈ [(0 : Int), (3 : Int)]) := fun z => h1 ((inV_ints n [(0 : Int), (3 : Int)]).trans (decide_eq_true z))
      have g2 : ¬ ((n : Int) ∈ [(1 : Int), (2 : Int), (5 : Int), (6 : Int)]) := fun z => h2 ((inV_ints n [(1 : Int), (2 : Int), (5 : Int), (6 : Int)]).trans (decide_eq_true z))
      have g3 : ¬ ((n : Int) ∈ [(4 : Int)]) := fun z => h3 ((inV_ints n [(4 : Int)]).trans (decide_eq_true z))
      have g4 : ¬ ((n : Int) ∈ [(7 : Int), (8 : Int)]) := fun z => h4 ((inV_ints n [(7 : Int), (8 : Int)]).trans (decide_eq_true z))
      have g5 : ¬ ((n : Int) ∈ [(9 : Int), (11 : Int)]) := fun z => h5 ((inV_ints n [(9 : Int), (11 : Int)]).trans (decide_eq_true z))
      have g6 : ¬ ((n : Int) ∈ [(10 : Int)]) := fun z => h6 ((inV_ints n [(10 : Int)]).trans (decide_eq_true z))
      have g7 : ¬ ((n : Int) ∈ [(12 : Int)]) := fun z => h7 ((inV_ints n [(12 : Int)]).trans (decide_eq_true z))
      have g := nat_off h13
      simp at g1 g2 g3 g4 g5 g6 g7
      have : 14 ≤ n := by omega
      obtain ⟨m, rfl⟩ : ∃ m, n = 14 + m := ⟨n - 14, by omega⟩
      have hm : m < 8 := by omega
      match m, hm with
      | 0, _ | 1, _ | 2, _ | 3, _ | 4, _ | 5, _ | 6, _ | 7, _ => rfl
    rw [e] at k
    exact ⟨(by show 0 ≤ sizeLine; decide), fun p hp => k p _ (s7.free hp) (s7.trans (same_new hp)) upd_same⟩
end
end Kk

namespace Kk
open PySem PySem.Spec PyProof.Rows L2 FA L2H
section
variable {P : Program} {w : World} {K : PySem.W.Frag} {mg : Str → Option Value} {base : Heap} {Ap : Addr} {C fI : Nat → Addr}
abbrev s_law_taken : Stmt := top 33
abbrev N_law_taken : List Str := ["_law_k", "_law_one", "_law_two", "_law_e"]
theorem sc_law_taken : FnScope N_law_taken ["_law_k", "_law_one", "_law_two"] (defScope s_law_taken) := ⟨rfl, rfl, rfl, by decide +kernel, rfl, by decide +kernel, by decide +kernel⟩
def spTkn : Sp := fun vs H Q _ => ∃ (n : Nat) (v1 v2 : V), n < 22 ∧ vs = [.int n, v1, v2] ∧
  ∀ (p q r : Addr) (H' : Hp), H p = none → H q = none → H r = none → Same H H' → H' p = some (.lst [.ref q, .ref r]) → H' q = some (.lst ((claB n).map V.bl)) → H' r = some (.lst ((fdV n v1 v2).map (·.2))) → Q (.ref p) H'
def suiteS : List Stmt := match defBody s_law_taken with
  | .Try _ [.ExceptHandler _ _ b _] _ _ _ :: _ => b
  | _ => []
def xTk (P : Program) (w : World) (K : PySem.W.Frag) (mg : Str → Option Value) (base : Heap) (f : Addr) (cdv : Value) (A : Around) (outer : List Env) (s : Shared) (H : Hp) (E : XK) : Cx := (cxOf CX0 P w K mg base N_law_taken "_law_taken" (defScope s_law_taken) f cdv A outer s H E).nox
theorem roomH_mk {k : Nat} {A : Around} (r : Room k A) (h : Option Value) : RoomH k (A.mark h) := ⟨r.dp, r.un⟩
theorem suite_ok {f : Addr} {cdv : Value} {A : Around} {outer : List Env} {s : Shared} {Hs : Hp} {E : XK} (M : Fam P K mg Ap C fI) (hr : Room 4 (A.deeper (envOfC "_law_taken" (defScope s_law_taken) s.heap.objs.size f cdv)))
    (CC : ClE P w K mg base 3 "_law_classes" ["_law_e"] (spCla C)) (CF : ClE P w K mg base 3 "_law_fields" ["_law_k", "_law_e"] (spFld C))
    {n : Nat} {v1 v2 : V} {Q : VK} {H H1 : Hp} {D : Ends} {d : Option Addr} {a : Addr} (hn : n < 22) (hD : D.rt = Q) (s1 : Same H H1) (hd : n < 14 → ∃ dd, d = some dd ∧ H1 dd = some (.xd (fdV n v1 v2))) (hx : XdOk H1 d)
    (k : ∀ (p q r : Addr) (H' : Hp), H p = none → H q = none → H r = none → Same H H' → H' p = some (.lst [.ref q, .ref r]) → H' q = some (.lst ((claB n).map V.bl)) → H' r = some (.lst ((fdV n v1 v2).map (·.2))) → Q (.ref p) H') :
    tsW (xTk P w K mg base f cdv A outer s Hs E) suiteS a (.ref (C n)) d D [some (.int n), some v1, some v2, some (.ref a)] H1 := by
  intro oe pn hz hf
  obtain ⟨vs, hv⟩ := hf
  have hot : Hot1 ((xTk P w K mg base f cdv A outer s Hs E).suite a ((a, oe) :: pn)).A (a, oe) := ⟨rfl, vs, hv, hz.2.2 vs hv⟩
  refine wss (ps_ret (pe_lst (pa_cons (pe_clE CC (roomH_mk hr (some (.ref a))) hot List.mem_cons_self hz (pa_cons (pv 3) pa_nil)) (pa_cons (pe_clE CF (roomH_mk hr (some (.ref a))) hot List.mem_cons_self hz (pa_cons (pv 0) (pa_cons (pv 3) pa_nil))) pa_nil)))) ?_
  refine ⟨_, rfl, n, hn, rfl, rfl, hx, fun q H2 hq s2 eq => ⟨_, rfl, _, rfl, n, v1, v2, hn, rfl, rfl, fun h => ?_, fun r H3 hr' s3 er => ⟨(by show 2 ≤ sizeLine; decide), fun p hp => ?_⟩⟩⟩
  · obtain ⟨dd, e1, e2⟩ := hd h
    exact ⟨dd, e1, s2 _ _ e2⟩
  · rw [show D.rt = Q from hD]
    exact k p q r _ ((s1.trans (s2.trans s3)).free hp) (s1.free hq) ((s1.trans s2).free hr') ((s1.trans (s2.trans s3)).trans (same_new hp)) upd_same (same_new hp _ _ (s3 _ _ eq)) (same_new hp _ _ er)
theorem ok_taken {f : Addr} {fd : FuncData} (F : Fun K "_law_taken" "_law_taken" s_law_taken f fd) (M : Fam P K mg Ap C fI)
    (C1 : ClN P w K mg base 3 "_law_raise_one" ["_law_k", "_law_one", "_law_two"] (spR1 C)) (C0 : ClN P w K mg base 3 "_law_raise_none" ["_law_k"] (spR0 C)) (CC : ClE P w K mg base 3 "_law_classes" ["_law_e"] (spCla C)) (CF : ClE P w K mg base 3 "_law_fields" ["_law_k", "_law_e"] (spFld C)) :
    FnG P w K mg base CX0 5 f fd ["_law_k", "_law_one", "_law_two"] spTkn := by
  refine okG F sc_law_taken (fun vs H Q E h => ?_) (fun cdv A outer s H vs Q E hr hG h => ?_)
  · obtain ⟨n, v1, v2, _, rfl, _⟩ := h
    rfl
  obtain ⟨n, v1, v2, hn, rfl, k⟩ := h
  refine wss (ps_tryW (i := 3) rfl rfl sc_law_taken.nd rfl rfl ⟨rfl, by decide, Or.inl M.gA⟩ takesF) ?_
  intro pn xe tk po
  refine wss (ps_if (pt_cmpR op_lt (pv 0) pe_int (by rfl)) pss_w pss_w) ⟨_, rfl, _, _, rfl, rfl, _, rfl, ?_⟩
  refine ite2 (fun h => ?_) (fun h => ?_)
  · have h14 : n < 14 := by have := of_decide_eq_true h; omega
    refine wss (ps_expr (pe_clN C1 hr hG tk (pa_cons (pv 0) (pa_cons (pv 1) (pa_cons (pv 2) pa_nil))))) ?_
    refine ⟨_, rfl, _, rfl, _, rfl, n, v1, v2, rfl, h14, fun d hd => ⟨true, M.exm n hn, fun _ a ha => ?_, fun z => Bool.noConfusion z⟩⟩
    exact suite_ok (f := f) (cdv := cdv) (A := A) (outer := outer) (s := s) (Hs := H) (E := E) M hr CC CF hn rfl (same_new hd) (fun _ => ⟨d, rfl, upd_same⟩) (.inr ⟨d, _, rfl, upd_same⟩) k
  · have h14 : ¬ n < 14 := fun z => h (decide_eq_true (by omega))
    refine wss_end ?_
    refine wss (ps_expr (pe_clN C0 hr hG tk (pa_cons (pv 0) pa_nil))) ?_
    refine ⟨_, rfl, n, rfl, by omega, hn, ⟨true, M.exm n hn, fun _ a ha => ?_, fun z => Bool.noConfusion z⟩⟩
    exact suite_ok (f := f) (cdv := cdv) (A := A) (outer := outer) (s := s) (Hs := H) (E := E) M hr CC CF hn rfl (fun _ _ e => e) (fun z => absurd z h14) (.inl rfl) k
end
end Kk

namespace Kk
open PySem PySem.Spec PyProof.Rows L2 FA L2H
structure Odd (d : PyData) : Prop where
  sh : d.showable = true
  lf : d.leavesShort 100 = true
  wt : d.weight ≤ 1000
  dep : d.depth ≤ 3
  nt : noT d = true
theorem ten_ok : ∀ w : Nat, w < 60 → (PyData.int ((10 : Int) ^ w)).showable = true ∧ (PyData.int ((10 : Int) ^ w)).leavesShort 100 = true ∧ (PyData.int ((10 : Int) ^ w)).weight ≤ 1000 ∧
    (PyData.int (-((10 : Int) ^ w))).showable = true ∧ (PyData.int (-((10 : Int) ^ w))).leavesShort 100 = true ∧ (PyData.int (-((10 : Int) ^ w))).weight ≤ 1000 := by decide +kernel
theorem odd_ok {w : Nat} {d : PyData} (hw : w < 40) (h : d ∈ oddMenu "abc" w) : Odd d := by
  obtain ⟨t1, t2, t3, t4, t5, t6⟩ := ten_ok w (by omega)
  unfold oddMenu at h
  simp only [List.mem_append, List.mem_cons, List.not_mem_nil, or_false] at h
  rcases h with ((rfl | rfl | rfl | rfl | rfl | rfl | rfl | rfl | rfl | rfl | rfl | rfl | rfl) | rfl | rfl | rfl | rfl) | rfl | rfl | rfl | rfl | rfl | rfl | rfl | rfl | rfl | rfl | rfl | rfl | rfl
  case inl.inl.inr.inr.inr.inl => exact ⟨t1, t2, t3, by show 0 ≤ 3; decide, rfl⟩
  case inl.inl.inr.inr.inr.inr.inl => exact ⟨t4, t5, t6, by show 0 ≤ 3; decide, rfl⟩
  all_goals exact ⟨by decide +kernel, by decide +kernel, by decide +kernel, by decide +kernel, by decide +kernel⟩
theorem shown_ok {d : PyData} (h : d.leavesShort 100 = true) (w : d.weight ≤ 100000) : d.shown.length ≤ sizeLine := by
  have := PyData.shown_le 100 (by decide) d h
  rw [sizeLine_eq]
  omega
/-- by the class's number: both, the first, none -/
def sel {α : Type} (n : Nat) (a b : α) : List α := if n = 13 then [a, b] else if n < 13 then [a] else []
def pick {α : Type} (n : Nat) (a b c : α) : α := if n = 13 then a else if n < 13 then b else c
def idxI (n : Nat) : Int := if n = 13 then 0 else if n < 13 then 1 else 2
theorem sel_cases (n : Nat) : n = 13 ∨ (n ≠ 13 ∧ n < 13) ∨ (n ≠ 13 ∧ ¬ n < 13) := by omega
theorem fdV_sel {n : Nat} (hn : n < 22) (v1 v2 : V) : (fdV n v1 v2).map (·.2) = sel n v1 v2 := by
  match n, hn with
  | 0, _ | 1, _ | 2, _ | 3, _ | 4, _ | 5, _ | 6, _ | 7, _ | 8, _ | 9, _ | 10, _ | 11, _ | 12, _ | 13, _ | 14, _ | 15, _ | 16, _ | 17, _ | 18, _ | 19, _ | 20, _ | 21, _ => rfl
  | m + 22, h => omega
theorem at_pick (n : Nat) (a b c : V) : atI [a, b, c] (idxI n) = some (pick n a b c) := by
  unfold idxI pick
  rcases sel_cases n with h | ⟨h1, h2⟩ | ⟨h1, h2⟩
  · rw [if_pos h, if_pos h]
    rfl
  · rw [if_neg h1, if_pos h2, if_neg h1, if_pos h2]
    rfl
  · rw [if_neg h1, if_neg h2, if_neg h1, if_neg h2]
    rfl
theorem dt_sel {K : PySem.W.Frag} {H : Hp} (n : Nat) {a b : V} {d e : PyData} (h1 : Dt K H a d) (h2 : Dt K H b e) : DtAll K H (sel n a b) (sel n d e) := by
  unfold sel
  rcases sel_cases n with h | ⟨g1, g2⟩ | ⟨g1, g2⟩
  · rw [if_pos h, if_pos h]
    exact .cons h1 (.cons h2 .nil)
  · rw [if_neg g1, if_pos g2, if_neg g1, if_pos g2]
    exact .cons h1 .nil
  · rw [if_neg g1, if_neg g2, if_neg g1, if_neg g2]
    exact .nil
structure Big (d : PyData) : Prop where
  sh : d.showable = true
  len : d.shown.length ≤ sizeLine
  dep : d.depth ≤ 30
  nt : noT d = true
theorem big_sel (n : Nat) {d e : PyData} (h1 : Odd d) (h2 : Odd e) : Big (.list [.list (sel n d e)]) := by
  obtain ⟨a1, a2, a3, a4, a5⟩ := h1
  obtain ⟨b1, b2, b3, b4, b5⟩ := h2
  unfold sel
  rcases sel_cases n with h | ⟨g1, g2⟩ | ⟨g1, g2⟩
  · rw [if_pos h]
    refine ⟨?_, shown_ok ?_ ?_, ?_, ?_⟩
    · simp [PyData.showable, PyData.showableAll, a1, b1]
    · simp [PyData.leavesShort, PyData.leavesShortAll, a2, b2]
    · simp only [PyData.weight, PyData.weightAll]
      omega
    · simp only [PyData.depth, PyData.depthAll]
      omega
    · simp [noT, noTAll, a5, b5]
  · rw [if_neg g1, if_pos g2]
    refine ⟨?_, shown_ok ?_ ?_, ?_, ?_⟩
    · simp [PyData.showable, PyData.showableAll, a1, b1]
    · simp [PyData.leavesShort, PyData.leavesShortAll, a2, b2]
    · simp only [PyData.weight, PyData.weightAll]
      omega
    · simp only [PyData.depth, PyData.depthAll]
      omega
    · simp [noT, noTAll, a5, b5]
  · rw [if_neg g1, if_neg g2]
    exact ⟨by decide +kernel, shown_ok (by decide +kernel) (by decide +kernel), by decide +kernel, by decide +kernel⟩
theorem big_cla0 : ∀ n, n < 22 → (PyData.list ((claB n).map PyData.bool)).showable = true ∧ (PyData.list ((claB n).map PyData.bool)).leavesShort 100 = true ∧ (PyData.list ((claB n).map PyData.bool)).weight ≤ 100000 ∧ (PyData.list ((claB n).map PyData.bool)).depth ≤ 30 ∧ noT (PyData.list ((claB n).map PyData.bool)) = true := by decide +kernel
theorem big_cla {n : Nat} (hn : n < 22) : Big (.list ((claB n).map PyData.bool)) := by
  obtain ⟨h1, h2, h3, h4, h5⟩ := big_cla0 n hn
  exact ⟨h1, shown_ok h2 h3, h4, h5⟩
theorem dt_bools {K : PySem.W.Frag} {H : Hp} : ∀ l : List Bool, DtAll K H (l.map V.bl) (l.map PyData.bool)
  | [] => .nil
  | x :: l => .cons (.bl x) (dt_bools l)
def rowB (n : Nat) (i : Nat) : List Bool := (List.range i).map fun j : Nat => decide (V.int (j : Int) = V.int (n : Int))
theorem row_cla0 : ∀ n, n < 22 → rowB n 22 ++ [true, true, false] = claB n := by decide +kernel
theorem row_cla {n : Nat} (hn : n < 22) : rowB n 22 ++ [true, true, false] = claB n := row_cla0 n hn
theorem PE.imp {X : Cx} {e : Expr} {t t' : TE} (h : PE X e t) (k : ∀ σ H Q, t' σ H Q → t σ H Q) : PE X e t' := ⟨fun pins s σ H Q I q => h.run pins s σ H Q I (k _ _ _ q)⟩
def tIdx : TE := fun σ H Q => ∃ n : Nat, σ[3]? = some (some (.int n)) ∧ Q (.int (idxI n)) H
end Kk

namespace Kk
open PySem PySem.Spec PyProof.Rows L2 FA L2H
def spLaw (K : PySem.W.Frag) : Sp := fun vs H Q _ => ∃ (a : Addr) (ns : List Int), vs = [.ref a] ∧ SqL K H a (ns.map V.int) ∧ ns.length ≤ 63 ∧ ∀ H', Q (.bl true) H'
abbrev s_law : Stmt := top 34
abbrev N_law : List Str := ["_law_script", "_law_bag_here", "_law_turn", "_law_k", "_law_one", "_law_two", "_law_bare", "_law_looked", "_law_told", "_law_field", "_law_j"]
theorem sc_law : FnScope N_law ["_law_script"] (defScope s_law) := ⟨rfl, rfl, rfl, by decide +kernel, rfl, by decide +kernel, by decide +kernel⟩
theorem idx_k {σ : L2.St} {H : Hp} {Q : VK} : tIdx σ H Q → tIf (tTest (tOp rEq (tVar 3) (tC (.int 13)))) (tC (.int 0)) (tIf (tTest (tOp (rI0 fun i j => .bl (decide (i < j))) (tVar 3) (tC (.int 13)))) (tC (.int 1)) (tC (.int 2))) σ H Q := by
  rintro ⟨n, e, q⟩
  unfold idxI at q
  refine ⟨_, e, rfl, _, rfl, ?_⟩
  refine ite2 (fun h => ?_) (fun h => ?_)
  · have h13 : n = 13 := nat_of h
    rw [if_pos h13] at q
    exact q
  · have h13 : ¬ n = 13 := fun z => nat_off h (by rw [z]; rfl)
    rw [if_neg h13] at q
    refine ⟨_, e, _, _, rfl, rfl, _, rfl, ?_⟩
    refine ite2 (fun h => ?_) (fun h => ?_)
    · rw [if_pos (by have := of_decide_eq_true h; omega)] at q
      exact q
    · rw [if_neg (fun z => h (decide_eq_true (by omega)))] at q
      exact q
theorem pick_ref (n : Nat) (a b c : Addr) : pick n (V.ref a) (V.ref b) (V.ref c) = V.ref (pick n a b c) := by
  unfold pick
  split
  · rfl
  · split <;> rfl
theorem sel_refs (n : Nat) (a b : Addr) : ∀ v ∈ sel n (V.ref a) (V.ref b), ∃ p, v = V.ref p := by
  unfold sel
  intro v hv
  split at hv
  · simp at hv
    rcases hv with rfl | rfl
    · exact ⟨_, rfl⟩
    · exact ⟨_, rfl⟩
  · split at hv
    · simp at hv
      exact ⟨_, hv⟩
    · cases hv
theorem sel_get {α β : Type} {n i : Nat} {a b y : α} (c d : β) (h : (sel n a b)[i]? = some y) : (i = 0 ∧ y = a ∧ (sel n c d)[i]? = some c) ∨ (i = 1 ∧ y = b ∧ (sel n c d)[i]? = some d) := by
  unfold sel at h ⊢
  rcases sel_cases n with g | ⟨g1, g2⟩ | ⟨g1, g2⟩
  · rw [if_pos g] at h ⊢
    match i, h with
    | 0, h => exact .inl ⟨rfl, (Option.some.inj h).symm, rfl⟩
    | 1, h => exact .inr ⟨rfl, (Option.some.inj h).symm, rfl⟩
    | i + 2, h => cases h
  · rw [if_neg g1, if_pos g2] at h ⊢
    match i, h with
    | 0, h => exact .inl ⟨rfl, (Option.some.inj h).symm, rfl⟩
    | i + 1, h => cases h
  · rw [if_neg g1, if_neg g2] at h
    cases h
theorem sel_len {α β : Type} (n : Nat) (a b : α) (c d : β) : (sel n a b).length = (sel n c d).length := by
  unfold sel
  split
  · rfl
  · split <;> rfl
theorem sel_map {α β : Type} (f : α → β) (n : Nat) (a b : α) : (sel n a b).map f = sel n (f a) (f b) := by
  unfold sel
  split
  · rfl
  · split <;> rfl
theorem sel_short {α : Type} (n : Nat) (a b : α) : (sel n a b).length ≤ 2 := by
  unfold sel
  split
  · exact Nat.le_refl _
  · split
    · show 1 ≤ 2
      decide
    · exact Nat.zero_le _
theorem at_pickH {H : Hp} (n : Nat) {a b c : Addr} {x y : V} (h1 : H a = some (.lst [x, y])) (h2 : H b = some (.lst [x])) (h3 : H c = some (.lst [])) : H (pick n a b c) = some (.lst (sel n x y)) := by
  unfold pick sel
  rcases sel_cases n with h | ⟨g1, g2⟩ | ⟨g1, g2⟩
  · rw [if_pos h, if_pos h]
    exact h1
  · rw [if_neg g1, if_pos g2, if_neg g1, if_pos g2]
    exact h2
  · rw [if_neg g1, if_neg g2, if_neg g1, if_neg g2]
    exact h3
section
variable {P : Program} {w : World} {K : PySem.W.Frag} {mg : Str → Option Value} {base : Heap}
theorem ok_law {f : Addr} {fd : FuncData} (F : Fun K "law" "law" s_law f fd) (T : Blt mg) (CB : Cl P w K mg base 1 "_law_bag" ["_law_script"] (spBag K)) (CT : Cl P w K mg base 1 "_law_take" ["_law_bag_here", "_law_many"] spTake)
    (CO : Cl P w K mg base 2 "_law_odd" ["_law_bag_here", "_law_name"] (spOdd K)) (CA : Cl P w K mg base 1 "_law_alike" ["_law_found", "_law_due"] (spAlikeD K)) (CK : Cl P w K mg base 5 "_law_taken" ["_law_k", "_law_one", "_law_two"] spTkn) :
    FnG P w K mg base CX0 6 f fd ["_law_script"] (spLaw K) := by
  refine okG F sc_law (fun vs H Q E h => ?_) (fun cdv A outer s H vs Q E hr hG h => ?_)
  · obtain ⟨a, ns, rfl, _⟩ := h
    rfl
  obtain ⟨a, ns, rfl, hS, hl, k⟩ := h
  have hr1 := hr.mono (j := 1) (by decide)
  have hr2 := hr.mono (j := 2) (by decide)
  refine wss (ps_set (i := 1) sc_law.nd rfl (Or.inl rfl) (pe_cl CB hr1 hG (pa_cons (pv 0) pa_nil))) ?_
  refine ⟨_, rfl, a, ns, rfl, hS, hl, fun b c H1 nb bag1 s1 => ?_⟩
  refine wcut (ps_for PassesOwn.never rfl (pi_range1 (by rfl) T.range (pa_cons pe_int pa_nil)) (pg_name (i := 2) sc_law.nd rfl (Or.inl rfl)) pss_w) (fun _ _ => True) ?_ ?_
  · refine ⟨8, rfl, by decide, by decide, for_range (lo := 0) (n := 8) (fun i σ' H' => ∃ x2 x3 x4 x5 x6 x7 x8 x9 x10, σ' = [some (.ref a), some (.ref b), x2, x3, x4, x5, x6, x7, x8, x9, x10] ∧ BagAt H' b c) ?_ ?_ ?_⟩
    · exact ⟨_, _, _, _, _, _, _, _, _, rfl, bag1⟩
    · rintro i σ' H0 hi ⟨x2, x3, x4, x5, x6, x7, x8, x9, x10, rfl, bag0⟩
      refine wss (ps_set (i := 3) sc_law.nd rfl (Or.inr rfl) (pe_cl CT hr1 hG (pa_cons (pv 1) (pa_cons pe_int pa_nil)))) ?_
      refine ⟨_, rfl, b, c, 22, rfl, bag0, by decide, by decide +kernel, fun r H1 r0 r1 bag1 but1 => ?_⟩
      obtain ⟨n, rfl⟩ : ∃ n : Nat, r = (n : Int) := ⟨r.toNat, (Int.toNat_of_nonneg r0).symm⟩
      have hn : n < 22 := by omega
      refine wcut (ps_par (i := 4) (j := 5) rfl sc_law.nd rfl rfl (by decide) rfl rfl (pa_cons (pe_lst (pa_cons (pe_cl CO hr2 hG (pa_cons (pv 1) (pa_cons pe_str pa_nil))) pa_nil)) (pa_cons (pe_lst (pa_cons (pe_cl CO hr2 hG (pa_cons (pv 1) (pa_cons pe_str pa_nil))) pa_nil)) pa_nil)) (by rfl))
        (fun σ' H' => ∃ p1 p2 v1 v2 d1 d2, σ' = [some (.ref a), some (.ref b), some (.int (0 + (i : Int))), some (.int n), some (.ref p1), some (.ref p2), x6, x7, x8, x9, x10] ∧ BagAt H' b c ∧ p1 ≠ p2 ∧ p1 ≠ b ∧ p1 ≠ c ∧ p2 ≠ b ∧ p2 ≠ c ∧ H' p1 = some (.lst [v1]) ∧ H' p2 = some (.lst [v2]) ∧ Dt K H' v1 d1 ∧ Dt K H' v2 d2 ∧ Odd d1 ∧ Odd d2) ?_ ?_
      · refine ⟨_, rfl, b, c, "abc", rfl, by decide +kernel, bag1, fun v1 d1 w1 H2 hw1 hd1 dt1 bag2 sb2 => ⟨(by show 1 ≤ sizeLine; decide), fun p1 hp1 => ?_⟩⟩
        have n1 := bag2.neb hp1
        have bag2' := bag2.keep (same_new (o := .lst [v1]) hp1)
        refine ⟨_, rfl, b, c, "abc", rfl, by decide +kernel, bag2', fun v2 d2 w2 H3 hw2 hd2 dt2 bag3 sb3 => ⟨(by show 1 ≤ sizeLine; decide), fun p2 hp2 => ?_⟩⟩
        have n2 := bag3.neb hp2
        have e3 : H3 p1 = some (.lst [v1]) := sb3 _ _ upd_same n1.1
        have s3 := same_new (o := .lst [v2]) hp2
        refine ⟨_, _, rfl, p1, p2, v1, v2, d1, d2, rfl, bag3.keep s3, ne_of_none e3 hp2, n1.1, n1.2, n2.1, n2.2, s3 _ _ e3, upd_same, ?_, ?_, odd_ok hw1 hd1, odd_ok hw2 hd2⟩
        · exact (((dt1.keep (Sb.same (Same.sb (same_new hp1)))).keep sb3.same).keep hb_sub).keep s3
        · exact (dt2.keep hb_sub).keep s3
      rintro σ' H4 ⟨p1, p2, v1, v2, d1, d2, rfl, bag4, n12, n1b, n1c, n2b, n2c, e1, e2, dt1, dt2, o1, o2⟩
      refine wss (ps_set (i := 6) sc_law.nd rfl (Or.inl rfl) (pe_cl CK hr hG (pa_cons (pv 3) (pa_cons (pe_ix ix_list (pv 4) pe_int (fun _ _ => rfl)) (pa_cons (pe_ix ix_list (pv 5) pe_int (fun _ _ => rfl)) pa_nil))))) ?_
      refine ⟨_, rfl, _, rfl, p1, _, 0, v1, rfl, rfl, SqL.of e1, rfl, _, rfl, p2, _, 0, v2, rfl, rfl, SqL.of e2, rfl, n, v1, v2, hn, rfl, fun pb qb rb H5 f1 f2 f3 s5 eb eq er => ?_⟩
      rw [fdV_sel hn] at er
      refine wcut (ps_if (pt_not (pt_val (pe_cl CA hr1 hG (pa_cons (pe_slice sl_list (pv 6) (po_some pe_int) po_none) (pa_cons (pe_lst (pa_cons (pe_ix ix_list (pe_lst (pa_cons (pe_op op_cat (pv 4) (pv 5)) (pa_cons (pv 4) (pa_cons (pe_lst pa_nil) pa_nil)))) (PE.imp (pe_ifExp (pt_cmpR op_eq (pv 3) pe_int (by rfl)) pe_int (pe_ifExp (pt_cmpR op_lt (pv 3) pe_int (by rfl)) pe_int pe_int)) fun _ _ _ => idx_k) (fun _ _ => rfl)) pa_nil)) pa_nil))))) pss_w pss_w)
        (fun σ' H' => σ' = [some (.ref a), some (.ref b), some (.int (0 + (i : Int))), some (.int n), some (.ref p1), some (.ref p2), some (.ref pb), x7, x8, x9, x10] ∧ Same H5 H') ?_ ?_
      · refine ⟨_, rfl, _, rfl, pb, _, rfl, SqL.of eb, fun ps hps => ?_⟩
        have sa := same_new (o := .lst (cutV [.ref qb, .ref rb] (some 1) none)) hps
        refine ⟨_, rfl, _, rfl, p1, p2, [v1], [v2], rfl, rfl, sa _ _ (s5 _ _ e1), sa _ _ (s5 _ _ e2), (by show 2 ≤ sizeLine; decide), fun pc hpc => ?_⟩
        have sb := same_new (o := .lst ([v1] ++ [v2])) hpc
        refine ⟨_, rfl, (by show 0 ≤ sizeLine; decide), fun pd hpd => ⟨(by show 3 ≤ sizeLine; decide), fun pl hpl => ?_⟩⟩
        have sc := same_new (o := .lst []) hpd
        have sd := same_new (o := .lst [.ref pc, .ref p1, .ref pd]) hpl
        refine ⟨n, rfl, pl, _, idxI n, _, rfl, rfl, SqL.of upd_same, at_pick n _ _ _, (by show 1 ≤ sizeLine; decide), fun pf hpf => ?_⟩
        have se := same_new (o := .lst [pick n (.ref pc) (.ref p1) (.ref pd)]) hpf
        have big := big_sel n o1 o2
        have s4e := (((s5.trans sa).trans sb).trans (sc.trans sd)).trans se
        have dts := dt_sel n (dt1.keep s4e) (dt2.keep s4e)
        refine ⟨.ref ps, .ref pf, .list [.list (sel n d1 d2)], rfl, .lst (a := ps) (xs := [.ref rb]) (.inl ?_) (.cons (.lst (a := rb) (.inl ?_) dts) .nil), .lst (.inl upd_same) (.cons ?_ .nil), big.sh, big.len, big.dep, big.nt, _, rfl, iteF (wss_end ⟨rfl, (sa.trans sb).trans ((sc.trans sd).trans se)⟩)⟩
        · exact se _ _ (sd _ _ (sc _ _ (sb _ _ upd_same)))
        · exact se _ _ (sd _ _ (sc _ _ (sb _ _ (sa _ _ er))))
        · have dR := Dt.lst (K := K) (.inl (at_pickH (x := v1) (y := v2) n (se _ _ (sd _ _ (sc _ _ upd_same))) (s4e _ _ e1) (se _ _ (sd _ _ upd_same)))) dts
          rw [← pick_ref] at dR
          exact dR
      rintro σ' H6 ⟨rfl, s6⟩
      have s46 := s5.trans s6
      replace e1 := s46 _ _ e1
      replace e2 := s46 _ _ e2
      have bag6 := bag4.keep s46
      -- looked
      refine wcut (ps_set (i := 7) sc_law.nd rfl (Or.inl rfl) (pe_ix ix_list (pe_lst (pa_cons (pe_lst (pa_cons (pv 4) (pa_cons (pv 5) pa_nil))) (pa_cons (pe_lst (pa_cons (pv 4) pa_nil)) (pa_cons (pe_lst pa_nil) pa_nil)))) (PE.imp (pe_ifExp (pt_cmpR op_eq (pv 3) pe_int (by rfl)) pe_int (pe_ifExp (pt_cmpR op_lt (pv 3) pe_int (by rfl)) pe_int pe_int)) fun _ _ _ => idx_k) (fun _ _ => rfl)))
        (fun σ' H' => ∃ pk, σ' = [some (.ref a), some (.ref b), some (.int (0 + (i : Int))), some (.int n), some (.ref p1), some (.ref p2), some (.ref pb), some (.ref pk), x8, x9, x10] ∧ Same H6 H' ∧ H' pk = some (.lst (sel n (.ref p1) (.ref p2)))) ?_ ?_
      · refine ⟨_, rfl, _, rfl, (by show 2 ≤ sizeLine; decide), fun l1 h1 => ⟨_, rfl, (by show 1 ≤ sizeLine; decide), fun l2 h2 => ⟨(by show 0 ≤ sizeLine; decide), fun l3 h3 => ⟨(by show 3 ≤ sizeLine; decide), fun l4 h4 => ?_⟩⟩⟩⟩
        have sa := same_new (o := .lst [.ref p1, .ref p2]) h1
        have sb := same_new (o := .lst [.ref p1]) h2
        have sc := same_new (o := .lst []) h3
        have sd := same_new (o := .lst [.ref l1, .ref l2, .ref l3]) h4
        refine ⟨n, rfl, l4, _, idxI n, _, rfl, rfl, SqL.of upd_same, at_pick n _ _ _, ?_⟩
        rw [pick_ref]
        exact ⟨_, rfl, (sa.trans sb).trans (sc.trans sd), at_pickH n (sd _ _ (sc _ _ (sb _ _ upd_same))) (sd _ _ (sc _ _ upd_same)) (sd _ _ upd_same)⟩
      rintro σ' H7 ⟨pk, rfl, s7, ek⟩
      replace e1 := s7 _ _ e1
      replace e2 := s7 _ _ e2
      have bag7 := bag6.keep s7
      refine wss (ps_set (i := 8) sc_law.nd rfl (Or.inl rfl) (pe_cl CK hr hG (pa_cons (pv 3) (pa_cons (pv 4) (pa_cons (pv 5) pa_nil))))) ?_
      have hk1 : H7 p1 ≠ none := by rw [e1]; simp
      have hk2 : H7 p2 ≠ none := by rw [e2]; simp
      refine ⟨_, rfl, _, rfl, _, rfl, n, .ref p1, .ref p2, hn, rfl, fun pt qt rt H8 g1 g2 g3 s8 et eqt ert => ?_⟩
      rw [fdV_sel hn] at ert
      replace e1 := s8 _ _ e1
      replace e2 := s8 _ _ e2
      replace ek := s8 _ _ ek
      have bag8 := bag7.keep s8
      refine wcut (ps_if (PW.pt (pw_or (pt_cmpR op_ne (pe_callB call_len_seq (by rfl) T.len PySem.boot_len (pa_cons (pv 8) pa_nil)) pe_int (by rfl)) (pw_or1 (pt_not (pt_val (pe_cl CA hr1 hG (pa_cons (pe_ix ix_list (pv 8) pe_int (fun _ _ => rfl)) (pa_cons (pe_op op_cat (pe_lc (own := [("_law_j", 10)]) (g := (gName 10)) (by rfl) sc_law.nd (pi_range1 (by rfl) T.range (pa_cons pe_int pa_nil)) (blkOk_by (own := [("_law_j", 10)]) (N := N_law) (sc := defScope s_law) (by decide +kernel)) (fun _ _ _ _ _ => (pg_name (i := 10) sc_law.nd rfl (Or.inl rfl))) (fun _ _ _ _ _ => pts_nil) (fun _ _ _ _ _ => (pe_cmpR op_eq (pv 10) (pv 3) (by rfl)))) (pe_lst (pa_cons pe_bl (pa_cons pe_bl (pa_cons pe_bl pa_nil))))) pa_nil)))))))) pss_w pss_w)
        (fun σ' H' => σ' = [some (.ref a), some (.ref b), some (.int (0 + (i : Int))), some (.int n), some (.ref p1), some (.ref p2), some (.ref pb), some (.ref pk), some (.ref pt), x9, x10] ∧ Same H8 H') ?_ ?_
      · refine ⟨_, rfl, pt, _, rfl, .inl (SqL.of et), rfl, _, rfl, iteNS rfl ?_⟩
        refine ⟨_, rfl, pt, _, 0, .ref qt, rfl, rfl, SqL.of et, rfl, 22, rfl, by decide, by decide, fun D hD => lc_range (lo := 0) (n := 22) (fun i H' => H' = upd H8 D (.lst ((rowB n i).map V.bl))) rfl ?_ ?_⟩
        · rintro j _ hj rfl
          refine ⟨rfl, _, rfl, _, rfl, rfl, _, upd_same, sz5' ?_, ?_⟩
          · unfold rowB
            rw [List.length_map, List.length_map, List.length_range]
            omega
          · unfold rowB
            rw [upd_upd, List.range_succ, List.map_append, List.map_append]
            show upd H8 D (.lst (_ ++ [V.bl (decide (V.int (0 + (j : Int)) = V.int (n : Int)))])) = _
            rw [Int.zero_add]
            rfl
        · rintro _ rfl
          have sa := same_new (o := .lst ((rowB n 22).map V.bl)) hD
          refine ⟨(by show 3 ≤ sizeLine; decide), fun q hq => ?_⟩
          have sb := same_new (o := .lst [.bl true, .bl true, .bl false]) hq
          refine ⟨D, q, _, _, rfl, rfl, sb _ _ upd_same, upd_same, sz5 (by unfold rowB; rw [List.length_map, List.length_map, List.length_range]; show 22 + 3 ≤ 100000; decide), fun z hz => ?_⟩
          have ez : (rowB n 22).map V.bl ++ [.bl true, .bl true, .bl false] = (claB n).map V.bl := by
            rw [← row_cla hn, List.map_append]
            rfl
          rw [ez]
          have sc := same_new (o := .lst ((claB n).map V.bl)) hz
          have big := big_cla hn
          exact ⟨.ref qt, .ref z, .list ((claB n).map PyData.bool), rfl, .lst (.inl (sc _ _ (sb _ _ (sa _ _ eqt)))) (dt_bools _), .lst (.inl upd_same) (dt_bools _), big.sh, big.len, big.dep, big.nt, _, rfl, iteF (wss_end ⟨rfl, (sa.trans sb).trans sc⟩)⟩
      rintro σ' H9 ⟨rfl, s9⟩
      replace e1 := s9 _ _ e1
      replace e2 := s9 _ _ e2
      replace ek := s9 _ _ ek
      replace et := s9 _ _ et
      replace ert := s9 _ _ ert
      have bag9 := bag8.keep s9
      refine wcut (ps_if (pt_cmpR (op_neO hr.units) (pe_ix ix_list (pv 8) pe_int (fun _ _ => rfl)) (pv 7) (by rfl)) pss_w pss_w) (fun σ' H' => σ' = [some (.ref a), some (.ref b), some (.int (0 + (i : Int))), some (.int n), some (.ref p1), some (.ref p2), some (.ref pb), some (.ref pk), some (.ref pt), x9, x10] ∧ H9 = H') ?_ ?_
      · exact ⟨_, rfl, pt, _, 1, .ref rt, rfl, rfl, SqL.of et, rfl, _, rfl, rt, pk, _, rfl, rfl, .inl ert, .inl ek, sel_refs n p1 p2, _, rfl, iteF (wss_end ⟨rfl, rfl⟩)⟩
      rintro σ' _ ⟨rfl, rfl⟩
      refine wss (ps_expr (pe_bm PySem.F.plainAttrs_list PySem.F.slot_list_append PySem.F.type_list_append mt_append (pv 4) (pa_cons pe_str pa_nil))) ⟨_, rfl, .inl ⟨rfl, _, SqL.of e1⟩, p1, [v1], _, rfl, rfl, e1, sz5' (by show 1 < 100000; decide), ?_⟩
      have e2' : upd H9 p1 (.lst ([v1] ++ [.str "more"])) p2 = some (.lst [v2]) := by rw [upd_ne n12.symm]; exact e2
      refine wss (ps_expr (pe_bm PySem.F.plainAttrs_list PySem.F.slot_list_append PySem.F.type_list_append mt_append (pv 5) (pa_cons pe_str pa_nil))) ⟨_, rfl, .inl ⟨rfl, _, SqL.of e2'⟩, p2, [v2], _, rfl, rfl, e2', sz5' (by show 1 < 100000; decide), ?_⟩
      obtain ⟨HT, hHT⟩ : ∃ HT, upd (upd H9 p1 (.lst ([v1] ++ [.str "more"]))) p2 (.lst ([v2] ++ [.str "again"])) = HT := ⟨_, rfl⟩
      have t1 : HT p1 = some (.lst [v1, .str "more"]) := by rw [← hHT, upd_ne n12]; exact upd_same
      have t2 : HT p2 = some (.lst [v2, .str "again"]) := by rw [← hHT]; exact upd_same
      have bagT : BagAt HT b c := hHT ▸ (bag9.put ⟨n1b, n1c⟩).put ⟨n2b, n2c⟩
      have tk : ∀ q o, q ≠ p1 → q ≠ p2 → H9 q = some o → HT q = some o := fun q o z1 z2 h => by rw [← hHT, upd_ne z2, upd_ne z1]; exact h
      rw [show upd (upd H9 p1 (.lst ([v1] ++ [.str "more"]))) p2 (.lst ([v2] ++ [.str "again"])) = HT from hHT]
      clear hHT
      have ep1 : H7 p1 ≠ none := hk1
      have nt1 : pt ≠ p1 := fun z => hk1 (z ▸ g1)
      have nt2 : pt ≠ p2 := fun z => hk2 (z ▸ g1)
      have nr1 : rt ≠ p1 := fun z => hk1 (z ▸ g3)
      have nr2 : rt ≠ p2 := fun z => hk2 (z ▸ g3)
      have et' := tk _ _ nt1 nt2 et
      have ert' := tk _ _ nr1 nr2 ert
      refine wss (ps_if (pt_cmpR (op_neP hr.units) (pe_lc (own := [("_law_field", 9)]) (g := (gName 9)) (by rfl) sc_law.nd (pi_list (pe_ix ix_list (pv 8) pe_int (fun _ _ => rfl))) (blkOk_by (own := [("_law_field", 9)]) (N := N_law) (sc := defScope s_law) (by decide +kernel)) (fun _ _ _ _ _ => (pg_name (i := 9) sc_law.nd rfl (Or.inl rfl))) (fun _ _ _ _ _ => pts_nil) (fun _ _ _ _ _ => (pe_ix (show IxR _ (rIxL K) from ix_list) (pv 9) (pe_un un_neg pe_int) (fun _ _ => rfl)))) (pe_ix ix_list (pe_lst (pa_cons (pe_lst (pa_cons pe_str (pa_cons pe_str pa_nil))) (pa_cons (pe_lst (pa_cons pe_str pa_nil)) (pa_cons (pe_lst pa_nil) pa_nil)))) (PE.imp (pe_ifExp (pt_cmpR op_eq (pv 3) pe_int (by rfl)) pe_int (pe_ifExp (pt_cmpR op_lt (pv 3) pe_int (by rfl)) pe_int pe_int)) fun _ _ _ => idx_k) (fun _ _ => rfl)) (by rfl)) pss_w pss_w) ?_
      refine ⟨_, rfl, pt, _, 1, .ref rt, rfl, rfl, SqL.of et', rfl, rt, rfl, ⟨_, SqL.of ert'⟩, fun D hD => lc_list (K := K) (a := rt) (xs := sel n (.ref p1) (.ref p2)) (fun i H' => H' = upd HT D (.lst (((sel n ("more" : Str) "again").take i).map V.str))) rfl ?_ ?_ ?_⟩
      · rintro j _ hj rfl
        exact SqL.of (by rw [upd_ne (ne_of_none ert' hD)]; exact ert')
      · rintro j y _ hj rfl
        have hsz : (((sel n ("more" : Str) "again").take j).map V.str).length < 100000 := by
          have := sel_short n ("more" : Str) "again"
          rw [List.length_map, List.length_take]
          omega
        rcases sel_get ("more" : Str) "again" hj with ⟨rfl, rfl, hg⟩ | ⟨rfl, rfl, hg⟩
        · refine ⟨rfl, _, rfl, _, rfl, p1, _, -1, .str "more", rfl, rfl, SqL.of (by rw [upd_ne (ne_of_none t1 hD)]; exact t1), rfl, _, upd_same, sz5' hsz, ?_⟩
          rw [upd_upd, map_take_succ hg]
        · refine ⟨rfl, _, rfl, _, rfl, p2, _, -1, .str "again", rfl, rfl, SqL.of (by rw [upd_ne (ne_of_none t2 hD)]; exact t2), rfl, _, upd_same, sz5' hsz, ?_⟩
          rw [upd_upd, map_take_succ hg]
      · rintro _ rfl
        rw [List.take_of_length_le (Nat.le_of_eq (sel_len n _ _ _ _))]
        have sD := same_new (o := .lst ((sel n ("more" : Str) "again").map V.str)) hD
        refine ⟨(by show 2 ≤ sizeLine; decide), fun l1 h1 => ⟨(by show 1 ≤ sizeLine; decide), fun l2 h2 => ⟨(by show 0 ≤ sizeLine; decide), fun l3 h3 => ⟨(by show 3 ≤ sizeLine; decide), fun l4 h4 => ?_⟩⟩⟩⟩
        have sa := same_new (o := .lst [.str "more", .str "again"]) h1
        have sb := same_new (o := .lst [.str "more"]) h2
        have sc := same_new (o := .lst []) h3
        have sd := same_new (o := .lst [.ref l1, .ref l2, .ref l3]) h4
        refine ⟨n, rfl, l4, _, idxI n, _, rfl, rfl, SqL.of upd_same, at_pick n _ _ _, ?_⟩
        rw [pick_ref]
        have hp : (PyData.list ((sel n ("more" : Str) "again").map PyData.str)).plain = true := plain_strs _
        have hdp : (PyData.list ((sel n ("more" : Str) "again").map PyData.str)).depth ≤ 60 := by
          rw [PyData.depth, depth_strs]
          decide
        refine ⟨.list ((sel n ("more" : Str) "again").map PyData.str), .list ((sel n ("more" : Str) "again").map PyData.str), .lst (.inl (sd _ _ (sc _ _ (sb _ _ (sa _ _ upd_same))))) (dt_strs _), ?_, hp, hp, hdp, _, rfl, ?_⟩
        · refine .lst (.inl (at_pickH (x := .str "more") (y := .str "again") n (sd _ _ (sc _ _ (sb _ _ upd_same))) (sd _ _ (sc _ _ upd_same)) (sd _ _ upd_same))) ?_
          rw [show sel n (V.str "more") (V.str "again") = (sel n ("more" : Str) "again").map V.str from (sel_map V.str n _ _).symm]
          exact dt_strs _
        · rw [SeqAt.eqv_refl_plain _ hp]
          exact iteF (wss_end (wss_end ⟨_, _, _, _, _, _, _, _, _, rfl, bagT.keep ((sD.trans sa).trans ((sb.trans sc).trans sd))⟩))
    · intro σ' H' _
      trivial
  · intro σ' H' _
    exact wss (ps_ret pe_bl) (k _)
end
end Kk

namespace Kk
open PySem PySem.Spec PyProof.Rows L2 FA
open PySem.W (Frag nsIn findIn typeIn keepIn codeIn hasDictIn clsIn)
/-- one class of the family, by what the top has written -/
structure Made (P : Program) (K : Frag) (mg : Str → Option Value) (Ap : Addr) (x : Str) (fs : List Str) (C fI : Addr) : Prop where
  txt : ErrTxt P K mg x fs C fI
  is : ErrIs K C
  mro : (clsIn K C).map (·.mro) = some (chain C Ap)
theorem mk_err {P : Program} {K : Frag} {h : Heap} {mg : Str → Option Value} {Ap C fI : Addr} {x : Str} {fs : List Str} (X : K.In h) (G : h.Ns mainGlobals mg)
    {nm q : Str} {N : Addr} {bs : List Value} {sn : List Str} {sub : List Value} {ab : Bool} {col : Option Bool} {dd : Option Addr} {m0 m1 m2 m3 m5 : Option Value}
    {oc doc pm ct : Value} {od an : Option Addr} {osl : Array (Option Value)} {cda cc : Addr} {qn : Str} {p0 a0 a1 a2 a3 a4 : Pos} {ap : List Pos} {bp : List (Pos × PP)}
    {ccl cl : Value} {cdd cld : Option Addr} {vs : Array Value} {ccs csl : Array (Option Value)} {file : Str} {tf : Tok}
    (hop : nsIn K cStatics "thirdparty.any" = some none) (zS : nsIn K mainGlobals "super" = some none) (hn : PySem.W.specialIn K (.builtin "object.__class__") "__get__" = some (some (.builtin "getset_descriptor.__get__"))) (ht : PySem.W.takesIn K (.builtin "object.__class__") = some true)
    (top : (P.main.scope.names.lookup ("super" : Str)).isSome = false)
    (fok : ∀ f ∈ fs, fOk f = true) (nd : fs.Nodup) (line : (a2.endLine == a3.line) = true) (la : ap.length = fs.length) (lb : bp.length = fs.length)
    (hbt : ∀ (s : Shared) (x : Value) (us : List Value), us.length = fs.length → BindsTo s (PySem.W.ksFn "__init__" qn (eA p0 (fs.zip ap)) (eB a0 a1 a2 a3 a4 (fs.zip bp)) (eS fs) .none .none doc pm an (.ref cda) ct cc) ⟨x :: us, []⟩ (("self", x) :: fs.zip us))
    (aC : nsIn K mainGlobals x = some (some (.ref C)))
    (xL : K.lookup C = some (excClassObj nm q C N bs [.ref Ap, .type "ValueError", .type "Exception", .type "BaseException", .type "object"] true sn sub ab col dd m0 m1 m2 m3 m5 "ValueError.__new__"))
    (sup : PySem.W.ks_superIn K C C "__init__" = some (some (.builtin "ValueError.__init__")))
    (sa : findIn K (.ref C) "__setattr__" = some (some (.builtin "object.__setattr__"))) (ga : findIn K (.ref C) "__getattribute__" = some (some (.builtin "BaseException.__getattribute__"))) (gg : findIn K (.ref C) "__getattr__" = some none)
    (gc : findIn K (.ref C) "__class__" = some (some (.builtin "object.__class__")))
    (noN : ∀ f ∈ fs, findIn K (.ref C) f = some none)
    (iC : findIn K (.ref C) "__init__" = some (some (.ref fI))) (tC : typeIn K (.ref fI) = some (.type "function"))
    (l1 : K.lookup fI = some ⟨oc, od, .func (PySem.W.ksFn "__init__" qn (eA p0 (fs.zip ap)) (eB a0 a1 a2 a3 a4 (fs.zip bp)) (eS fs) .none .none doc pm an (.ref cda) ct cc), osl⟩) (c1 : codeIn K (.ref cda) qn = true)
    (kC : keepIn K (.ref C) = true) (tyC : typeIn K (.ref C) = some (.type "type")) (hdC : hasDictIn K C = true)
    (lcd : K.lookup cda = some ⟨ccl, cdd, .fields vs, ccs⟩) (hvs : vs[2]? = some (.str file tf)) (hfile : ((P.main.file : Str) == file) = true)
    (lcc : K.lookup cc = some ⟨cl, cld, .cell (some (.ref C)), csl⟩) : Made P K mg Ap x fs C fI := by
  have hcl : clsIn K C = some { name := nm, bases := bs, mro := chain C Ap, ns := N, qualname := q, hasDict := true, slotNames := sn, subclasses := sub, abstract := ab, collection := col, hasDel := false } := by unfold clsIn; rw [xL] <;> rfl
  have hm : ∀ v : Value, PySem.W.mroIn K C v = some ((chain C Ap).contains v) := fun v => by
    unfold PySem.W.mroIn
    rw [hcl]
    rfl
  have exC : PySem.W.subIn K (.ref C) (.type "BaseException") = some true := (hm _).trans (by rfl)
  have xf : XfC K C := ⟨ga, gg, exC, hdC⟩
  refine ⟨?_, ⟨xf, gc, hn, ht, (hm _).trans (by rfl)⟩, by rw [hcl]; rfl⟩
  refine ⟨PySem.W.mg_of X G aC, PySem.W.mg_none_of X G zS, ⟨nm, q, N, bs, _, sn, sub, ab, col, dd, m0, m1, m2, m3, m5, xL, by rfl⟩, sup, (hm _).trans (by rfl), (hm _).trans ?_, hop, sa, noN, iC, tC, kC, tyC, xf, fok, nd, top,
    ⟨oc, od, doc, pm, an, cda, ct, osl, cc, qn, p0, a0, a1, a2, a3, a4, ap, bp, line, la, lb, l1, c1, hbt, ⟨ccl, cdd, vs, ccs, file, tf, lcd, hvs, hfile⟩, cl, cld, csl, lcc⟩⟩
  show some ((Value.ref C == Value.ref C || _)) = some true
  rw [beq_self_eq_true]
  rfl
end Kk

namespace Kk
open PySem PySem.Spec PyProof.Rows L2 FA
theorem getD_mem {l : List Addr} : ∀ {i : Nat}, i < l.length → l.getD i 0 ∈ l := by
  intro i hi
  rw [List.getD_eq_getElem?_getD, List.getElem?_eq_getElem hi, Option.getD_some]
  exact List.getElem_mem hi
theorem inj_nd : ∀ {l : List Addr}, l.Nodup → ∀ {i j : Nat}, i < l.length → j < l.length → l.getD i 0 = l.getD j 0 → i = j
  | [], _, _, _, hi, _, _ => absurd hi (Nat.not_lt_zero _)
  | a :: l, h, 0, 0, _, _, _ => rfl
  | a :: l, h, 0, j + 1, _, hj, e => absurd (show a ∈ l from (show a = l.getD j 0 from e) ▸ getD_mem (l := l) (i := j) (by simpa using hj)) (List.nodup_cons.mp h).1
  | a :: l, h, i + 1, 0, hi, _, e => absurd (show a ∈ l from (show l.getD i 0 = a from e) ▸ getD_mem (l := l) (i := i) (by simpa using hi)) (List.nodup_cons.mp h).1
  | a :: l, h, i + 1, j + 1, hi, hj, e => by
    have := inj_nd (List.nodup_cons.mp h).2 (i := i) (j := j) (by simpa using hi) (by simpa using hj) e
    omega
theorem inj_of {Ap : Addr} {l : List Addr} (h : (Ap :: l).Nodup) {i j : Nat} (hi : i < l.length) (hj : j < l.length) (e : l.getD i 0 = l.getD j 0) : i = j := inj_nd (List.nodup_cons.mp h).2 hi hj e
theorem ap_of {Ap : Addr} {l : List Addr} (h : (Ap :: l).Nodup) {i : Nat} (hi : i < l.length) (e : l.getD i 0 = Ap) : False := (List.nodup_cons.mp h).1 (e ▸ getD_mem hi)
theorem all_mk {P : Program} {w : World} {K : PySem.W.Frag} {h : Heap} {mg : Str → Option Value} {fa : Addr} (X : K.In h) (G : h.Ns mainGlobals mg) (hfa : mg "law" = some (.ref fa))
    (ptop : (P.main.scope.names.lookup ("super" : Str)).isSome = false)
    {f0 : Addr} {od0 an0 : Option Addr} {sl0 : Array (Option Value)} {oc0 kV0 dc0 pm0 cd0 ct0 : Value}
    (a0 : PySem.W.nsIn K mainGlobals "_law_bag" = some (some (.ref f0))) (l0 : K.lookup f0 = some ⟨oc0, od0, .func (PySem.W.fnOf "_law_bag" "_law_bag" (defArgs s_law_bag) (defBody s_law_bag) (defScope s_law_bag) .none kV0 dc0 pm0 an0 cd0 ct0), sl0⟩) (c0 : PySem.W.codeIn K cd0 "_law_bag" = true) (k0 : PySem.W.keepIn K (.ref f0) = true)
    {f1 : Addr} {od1 an1 : Option Addr} {sl1 : Array (Option Value)} {oc1 kV1 dc1 pm1 cd1 ct1 : Value}
    (a1 : PySem.W.nsIn K mainGlobals "_law_take" = some (some (.ref f1))) (l1 : K.lookup f1 = some ⟨oc1, od1, .func (PySem.W.fnOf "_law_take" "_law_take" (defArgs s_law_take) (defBody s_law_take) (defScope s_law_take) .none kV1 dc1 pm1 an1 cd1 ct1), sl1⟩) (c1 : PySem.W.codeIn K cd1 "_law_take" = true) (k1 : PySem.W.keepIn K (.ref f1) = true)
    {f2 : Addr} {od2 an2 : Option Addr} {sl2 : Array (Option Value)} {oc2 kV2 dc2 pm2 cd2 ct2 : Value}
    (a2 : PySem.W.nsIn K mainGlobals "_law_alike" = some (some (.ref f2))) (l2 : K.lookup f2 = some ⟨oc2, od2, .func (PySem.W.fnOf "_law_alike" "_law_alike" (defArgs s_law_alike) (defBody s_law_alike) (defScope s_law_alike) .none kV2 dc2 pm2 an2 cd2 ct2), sl2⟩) (c2 : PySem.W.codeIn K cd2 "_law_alike" = true) (k2 : PySem.W.keepIn K (.ref f2) = true)
    {f3 : Addr} {od3 an3 : Option Addr} {sl3 : Array (Option Value)} {oc3 kV3 dc3 pm3 cd3 ct3 : Value}
    (a3 : PySem.W.nsIn K mainGlobals "_law_odd" = some (some (.ref f3))) (l3 : K.lookup f3 = some ⟨oc3, od3, .func (PySem.W.fnOf "_law_odd" "_law_odd" (defArgs s_law_odd) (defBody s_law_odd) (defScope s_law_odd) .none kV3 dc3 pm3 an3 cd3 ct3), sl3⟩) (c3 : PySem.W.codeIn K cd3 "_law_odd" = true) (k3 : PySem.W.keepIn K (.ref f3) = true)
    {f4 : Addr} {od4 an4 : Option Addr} {sl4 : Array (Option Value)} {oc4 kV4 dc4 pm4 cd4 ct4 : Value}
    (a4 : PySem.W.nsIn K mainGlobals "_law_raise_one" = some (some (.ref f4))) (l4 : K.lookup f4 = some ⟨oc4, od4, .func (PySem.W.fnOf "_law_raise_one" "_law_raise_one" (defArgs s_law_raise_one) (defBody s_law_raise_one) (defScope s_law_raise_one) .none kV4 dc4 pm4 an4 cd4 ct4), sl4⟩) (c4 : PySem.W.codeIn K cd4 "_law_raise_one" = true) (k4 : PySem.W.keepIn K (.ref f4) = true)
    {f5 : Addr} {od5 an5 : Option Addr} {sl5 : Array (Option Value)} {oc5 kV5 dc5 pm5 cd5 ct5 : Value}
    (a5 : PySem.W.nsIn K mainGlobals "_law_raise_none" = some (some (.ref f5))) (l5 : K.lookup f5 = some ⟨oc5, od5, .func (PySem.W.fnOf "_law_raise_none" "_law_raise_none" (defArgs s_law_raise_none) (defBody s_law_raise_none) (defScope s_law_raise_none) .none kV5 dc5 pm5 an5 cd5 ct5), sl5⟩) (c5 : PySem.W.codeIn K cd5 "_law_raise_none" = true) (k5 : PySem.W.keepIn K (.ref f5) = true)
    {f6 : Addr} {od6 an6 : Option Addr} {sl6 : Array (Option Value)} {oc6 kV6 dc6 pm6 cd6 ct6 : Value}
    (a6 : PySem.W.nsIn K mainGlobals "_law_classes" = some (some (.ref f6))) (l6 : K.lookup f6 = some ⟨oc6, od6, .func (PySem.W.fnOf "_law_classes" "_law_classes" (defArgs s_law_classes) (defBody s_law_classes) (defScope s_law_classes) .none kV6 dc6 pm6 an6 cd6 ct6), sl6⟩) (c6 : PySem.W.codeIn K cd6 "_law_classes" = true) (k6 : PySem.W.keepIn K (.ref f6) = true)
    {f7 : Addr} {od7 an7 : Option Addr} {sl7 : Array (Option Value)} {oc7 kV7 dc7 pm7 cd7 ct7 : Value}
    (a7 : PySem.W.nsIn K mainGlobals "_law_fields" = some (some (.ref f7))) (l7 : K.lookup f7 = some ⟨oc7, od7, .func (PySem.W.fnOf "_law_fields" "_law_fields" (defArgs s_law_fields) (defBody s_law_fields) (defScope s_law_fields) .none kV7 dc7 pm7 an7 cd7 ct7), sl7⟩) (c7 : PySem.W.codeIn K cd7 "_law_fields" = true) (k7 : PySem.W.keepIn K (.ref f7) = true)
    {f8 : Addr} {od8 an8 : Option Addr} {sl8 : Array (Option Value)} {oc8 kV8 dc8 pm8 cd8 ct8 : Value}
    (a8 : PySem.W.nsIn K mainGlobals "_law_taken" = some (some (.ref f8))) (l8 : K.lookup f8 = some ⟨oc8, od8, .func (PySem.W.fnOf "_law_taken" "_law_taken" (defArgs s_law_taken) (defBody s_law_taken) (defScope s_law_taken) .none kV8 dc8 pm8 an8 cd8 ct8), sl8⟩) (c8 : PySem.W.codeIn K cd8 "_law_taken" = true) (k8 : PySem.W.keepIn K (.ref f8) = true)
    {f9 : Addr} {od9 an9 : Option Addr} {sl9 : Array (Option Value)} {oc9 kV9 dc9 pm9 cd9 ct9 : Value}
    (a9 : PySem.W.nsIn K mainGlobals "law" = some (some (.ref f9))) (l9 : K.lookup f9 = some ⟨oc9, od9, .func (PySem.W.fnOf "law" "law" (defArgs s_law) (defBody s_law) (defScope s_law) .none kV9 dc9 pm9 an9 cd9 ct9), sl9⟩) (c9 : PySem.W.codeIn K cd9 "law" = true) (k9 : PySem.W.keepIn K (.ref f9) = true)
    (z_len : PySem.W.nsIn K mainGlobals "len" = some none)
    (z_int : PySem.W.nsIn K mainGlobals "int" = some none)
    (z_abs : PySem.W.nsIn K mainGlobals "abs" = some none)
    (z_range : PySem.W.nsIn K mainGlobals "range" = some none)
    (z_repr : PySem.W.nsIn K mainGlobals "repr" = some none)
    (z_isinstance : PySem.W.nsIn K mainGlobals "isinstance" = some none)
    (z_str : PySem.W.nsIn K mainGlobals "str" = some none)
    (z_bool : PySem.W.nsIn K mainGlobals "bool" = some none)
    (z_all : PySem.W.nsIn K mainGlobals "all" = some none)
    (z_super : PySem.W.nsIn K mainGlobals "super" = some none)
    (z_ValueError : PySem.W.nsIn K mainGlobals "ValueError" = some none)
    (z_LookupError : PySem.W.nsIn K mainGlobals "LookupError" = some none)
    (eop : PySem.W.nsIn K cStatics "thirdparty.any" = some none) (ehn : PySem.W.specialIn K (.builtin "object.__class__") "__get__" = some (some (.builtin "getset_descriptor.__get__"))) (eht : PySem.W.takesIn K (.builtin "object.__class__") = some true)
    {Ap : Addr} (hA1 : PySem.W.nsIn K mainGlobals "ApartError" = some (some (.ref Ap))) (hA2 : PySem.W.isClsIn K Ap = true) (hA3 : PySem.W.typeIn K (.ref Ap) = some (.type "type")) (hA4 : PySem.W.subIn K (.ref Ap) (.type "BaseException") = some true)
    {Cx0 fIx0 Nx0 cdax0 ccx0 : Addr} {nmx0 qx0 : Str} {bsx0 subx0 : List Value} {snx0 : List Str} {abx0 : Bool} {colx0 : Option Bool} {ddx0 odx0 anx0 cddx0 cldx0 : Option Addr} {m0x0 m1x0 m2x0 m3x0 m5x0 : Option Value} {ocx0 docx0 pmx0 ctx0 cclx0 clx0 : Value} {oslx0 ccsx0 cslx0 : Array (Option Value)} {vsx0 : Array Value} {filex0 : Str} {tfx0 : Tok}
    (x0a : PySem.W.nsIn K mainGlobals "Wrong" = some (some (.ref Cx0))) (x0b : K.lookup Cx0 = some (excClassObj nmx0 qx0 Cx0 Nx0 bsx0 [.ref Ap, .type "ValueError", .type "Exception", .type "BaseException", .type "object"] true snx0 subx0 abx0 colx0 ddx0 m0x0 m1x0 m2x0 m3x0 m5x0 "ValueError.__new__")) (x0c : PySem.W.ks_superIn K Cx0 Cx0 "__init__" = some (some (.builtin "ValueError.__init__"))) (x0d : PySem.W.findIn K (.ref Cx0) "__setattr__" = some (some (.builtin "object.__setattr__"))) (x0e : PySem.W.findIn K (.ref Cx0) "__getattribute__" = some (some (.builtin "BaseException.__getattribute__"))) (x0f : PySem.W.findIn K (.ref Cx0) "__getattr__" = some none) (x0g : PySem.W.findIn K (.ref Cx0) "__class__" = some (some (.builtin "object.__class__"))) (x0h0 : PySem.W.findIn K (.ref Cx0) "place" = some none) (x0i : PySem.W.findIn K (.ref Cx0) "__init__" = some (some (.ref fIx0))) (x0j : PySem.W.typeIn K (.ref fIx0) = some (.type "function")) (x0k : K.lookup fIx0 = some ⟨ocx0, odx0, .func (PySem.W.ksFn "__init__" "Wrong.__init__" (eA ⟨6, 17, 6, 21⟩ ((["place"] : List Str).zip ([⟨6, 23, 6, 28⟩] : List Pos))) (eB ⟨7, 8, 7, 13⟩ ⟨7, 8, 7, 15⟩ ⟨7, 8, 7, 24⟩ ⟨7, 8, 7, 31⟩ ⟨7, 8, 7, 31⟩ ((["place"] : List Str).zip ([(⟨7, 25, 7, 30⟩, ⟨8, 8, 8, 12⟩, ⟨8, 8, 8, 18⟩, ⟨8, 21, 8, 26⟩, ⟨8, 8, 8, 26⟩)] : List (Pos × PP)))) (eS ["place"]) .none .none docx0 pmx0 anx0 (.ref cdax0) ctx0 ccx0), oslx0⟩) (x0l : PySem.W.codeIn K (.ref cdax0) "Wrong.__init__" = true) (x0m : PySem.W.keepIn K (.ref Cx0) = true) (x0n : PySem.W.typeIn K (.ref Cx0) = some (.type "type")) (x0o : PySem.W.hasDictIn K Cx0 = true) (x0p : K.lookup cdax0 = some ⟨cclx0, cddx0, .fields vsx0, ccsx0⟩) (x0q : vsx0[2]? = some (.str filex0 tfx0)) (x0r : ((P.main.file : Str) == filex0) = true) (x0s : K.lookup ccx0 = some ⟨clx0, cldx0, .cell (some (.ref Cx0)), cslx0⟩)
    {Cx1 fIx1 Nx1 cdax1 ccx1 : Addr} {nmx1 qx1 : Str} {bsx1 subx1 : List Value} {snx1 : List Str} {abx1 : Bool} {colx1 : Option Bool} {ddx1 odx1 anx1 cddx1 cldx1 : Option Addr} {m0x1 m1x1 m2x1 m3x1 m5x1 : Option Value} {ocx1 docx1 pmx1 ctx1 cclx1 clx1 : Value} {oslx1 ccsx1 cslx1 : Array (Option Value)} {vsx1 : Array Value} {filex1 : Str} {tfx1 : Tok}
    (x1a : PySem.W.nsIn K mainGlobals "NoName" = some (some (.ref Cx1))) (x1b : K.lookup Cx1 = some (excClassObj nmx1 qx1 Cx1 Nx1 bsx1 [.ref Ap, .type "ValueError", .type "Exception", .type "BaseException", .type "object"] true snx1 subx1 abx1 colx1 ddx1 m0x1 m1x1 m2x1 m3x1 m5x1 "ValueError.__new__")) (x1c : PySem.W.ks_superIn K Cx1 Cx1 "__init__" = some (some (.builtin "ValueError.__init__"))) (x1d : PySem.W.findIn K (.ref Cx1) "__setattr__" = some (some (.builtin "object.__setattr__"))) (x1e : PySem.W.findIn K (.ref Cx1) "__getattribute__" = some (some (.builtin "BaseException.__getattribute__"))) (x1f : PySem.W.findIn K (.ref Cx1) "__getattr__" = some none) (x1g : PySem.W.findIn K (.ref Cx1) "__class__" = some (some (.builtin "object.__class__"))) (x1h0 : PySem.W.findIn K (.ref Cx1) "name" = some none) (x1i : PySem.W.findIn K (.ref Cx1) "__init__" = some (some (.ref fIx1))) (x1j : PySem.W.typeIn K (.ref fIx1) = some (.type "function")) (x1k : K.lookup fIx1 = some ⟨ocx1, odx1, .func (PySem.W.ksFn "__init__" "NoName.__init__" (eA ⟨11, 17, 11, 21⟩ ((["name"] : List Str).zip ([⟨11, 23, 11, 27⟩] : List Pos))) (eB ⟨12, 8, 12, 13⟩ ⟨12, 8, 12, 15⟩ ⟨12, 8, 12, 24⟩ ⟨12, 8, 12, 30⟩ ⟨12, 8, 12, 30⟩ ((["name"] : List Str).zip ([(⟨12, 25, 12, 29⟩, ⟨13, 8, 13, 12⟩, ⟨13, 8, 13, 17⟩, ⟨13, 20, 13, 24⟩, ⟨13, 8, 13, 24⟩)] : List (Pos × PP)))) (eS ["name"]) .none .none docx1 pmx1 anx1 (.ref cdax1) ctx1 ccx1), oslx1⟩) (x1l : PySem.W.codeIn K (.ref cdax1) "NoName.__init__" = true) (x1m : PySem.W.keepIn K (.ref Cx1) = true) (x1n : PySem.W.typeIn K (.ref Cx1) = some (.type "type")) (x1o : PySem.W.hasDictIn K Cx1 = true) (x1p : K.lookup cdax1 = some ⟨cclx1, cddx1, .fields vsx1, ccsx1⟩) (x1q : vsx1[2]? = some (.str filex1 tfx1)) (x1r : ((P.main.file : Str) == filex1) = true) (x1s : K.lookup ccx1 = some ⟨clx1, cldx1, .cell (some (.ref Cx1)), cslx1⟩)
    {Cx2 fIx2 Nx2 cdax2 ccx2 : Addr} {nmx2 qx2 : Str} {bsx2 subx2 : List Value} {snx2 : List Str} {abx2 : Bool} {colx2 : Option Bool} {ddx2 odx2 anx2 cddx2 cldx2 : Option Addr} {m0x2 m1x2 m2x2 m3x2 m5x2 : Option Value} {ocx2 docx2 pmx2 ctx2 cclx2 clx2 : Value} {oslx2 ccsx2 cslx2 : Array (Option Value)} {vsx2 : Array Value} {filex2 : Str} {tfx2 : Tok}
    (x2a : PySem.W.nsIn K mainGlobals "BadKind" = some (some (.ref Cx2))) (x2b : K.lookup Cx2 = some (excClassObj nmx2 qx2 Cx2 Nx2 bsx2 [.ref Ap, .type "ValueError", .type "Exception", .type "BaseException", .type "object"] true snx2 subx2 abx2 colx2 ddx2 m0x2 m1x2 m2x2 m3x2 m5x2 "ValueError.__new__")) (x2c : PySem.W.ks_superIn K Cx2 Cx2 "__init__" = some (some (.builtin "ValueError.__init__"))) (x2d : PySem.W.findIn K (.ref Cx2) "__setattr__" = some (some (.builtin "object.__setattr__"))) (x2e : PySem.W.findIn K (.ref Cx2) "__getattribute__" = some (some (.builtin "BaseException.__getattribute__"))) (x2f : PySem.W.findIn K (.ref Cx2) "__getattr__" = some none) (x2g : PySem.W.findIn K (.ref Cx2) "__class__" = some (some (.builtin "object.__class__"))) (x2h0 : PySem.W.findIn K (.ref Cx2) "name" = some none) (x2i : PySem.W.findIn K (.ref Cx2) "__init__" = some (some (.ref fIx2))) (x2j : PySem.W.typeIn K (.ref fIx2) = some (.type "function")) (x2k : K.lookup fIx2 = some ⟨ocx2, odx2, .func (PySem.W.ksFn "__init__" "BadKind.__init__" (eA ⟨16, 17, 16, 21⟩ ((["name"] : List Str).zip ([⟨16, 23, 16, 27⟩] : List Pos))) (eB ⟨17, 8, 17, 13⟩ ⟨17, 8, 17, 15⟩ ⟨17, 8, 17, 24⟩ ⟨17, 8, 17, 30⟩ ⟨17, 8, 17, 30⟩ ((["name"] : List Str).zip ([(⟨17, 25, 17, 29⟩, ⟨18, 8, 18, 12⟩, ⟨18, 8, 18, 17⟩, ⟨18, 20, 18, 24⟩, ⟨18, 8, 18, 24⟩)] : List (Pos × PP)))) (eS ["name"]) .none .none docx2 pmx2 anx2 (.ref cdax2) ctx2 ccx2), oslx2⟩) (x2l : PySem.W.codeIn K (.ref cdax2) "BadKind.__init__" = true) (x2m : PySem.W.keepIn K (.ref Cx2) = true) (x2n : PySem.W.typeIn K (.ref Cx2) = some (.type "type")) (x2o : PySem.W.hasDictIn K Cx2 = true) (x2p : K.lookup cdax2 = some ⟨cclx2, cddx2, .fields vsx2, ccsx2⟩) (x2q : vsx2[2]? = some (.str filex2 tfx2)) (x2r : ((P.main.file : Str) == filex2) = true) (x2s : K.lookup ccx2 = some ⟨clx2, cldx2, .cell (some (.ref Cx2)), cslx2⟩)
    {Cx3 fIx3 Nx3 cdax3 ccx3 : Addr} {nmx3 qx3 : Str} {bsx3 subx3 : List Value} {snx3 : List Str} {abx3 : Bool} {colx3 : Option Bool} {ddx3 odx3 anx3 cddx3 cldx3 : Option Addr} {m0x3 m1x3 m2x3 m3x3 m5x3 : Option Value} {ocx3 docx3 pmx3 ctx3 cclx3 clx3 : Value} {oslx3 ccsx3 cslx3 : Array (Option Value)} {vsx3 : Array Value} {filex3 : Str} {tfx3 : Tok}
    (x3a : PySem.W.nsIn K mainGlobals "NoPlace" = some (some (.ref Cx3))) (x3b : K.lookup Cx3 = some (excClassObj nmx3 qx3 Cx3 Nx3 bsx3 [.ref Ap, .type "ValueError", .type "Exception", .type "BaseException", .type "object"] true snx3 subx3 abx3 colx3 ddx3 m0x3 m1x3 m2x3 m3x3 m5x3 "ValueError.__new__")) (x3c : PySem.W.ks_superIn K Cx3 Cx3 "__init__" = some (some (.builtin "ValueError.__init__"))) (x3d : PySem.W.findIn K (.ref Cx3) "__setattr__" = some (some (.builtin "object.__setattr__"))) (x3e : PySem.W.findIn K (.ref Cx3) "__getattribute__" = some (some (.builtin "BaseException.__getattribute__"))) (x3f : PySem.W.findIn K (.ref Cx3) "__getattr__" = some none) (x3g : PySem.W.findIn K (.ref Cx3) "__class__" = some (some (.builtin "object.__class__"))) (x3h0 : PySem.W.findIn K (.ref Cx3) "place" = some none) (x3i : PySem.W.findIn K (.ref Cx3) "__init__" = some (some (.ref fIx3))) (x3j : PySem.W.typeIn K (.ref fIx3) = some (.type "function")) (x3k : K.lookup fIx3 = some ⟨ocx3, odx3, .func (PySem.W.ksFn "__init__" "NoPlace.__init__" (eA ⟨21, 17, 21, 21⟩ ((["place"] : List Str).zip ([⟨21, 23, 21, 28⟩] : List Pos))) (eB ⟨22, 8, 22, 13⟩ ⟨22, 8, 22, 15⟩ ⟨22, 8, 22, 24⟩ ⟨22, 8, 22, 31⟩ ⟨22, 8, 22, 31⟩ ((["place"] : List Str).zip ([(⟨22, 25, 22, 30⟩, ⟨23, 8, 23, 12⟩, ⟨23, 8, 23, 18⟩, ⟨23, 21, 23, 26⟩, ⟨23, 8, 23, 26⟩)] : List (Pos × PP)))) (eS ["place"]) .none .none docx3 pmx3 anx3 (.ref cdax3) ctx3 ccx3), oslx3⟩) (x3l : PySem.W.codeIn K (.ref cdax3) "NoPlace.__init__" = true) (x3m : PySem.W.keepIn K (.ref Cx3) = true) (x3n : PySem.W.typeIn K (.ref Cx3) = some (.type "type")) (x3o : PySem.W.hasDictIn K Cx3 = true) (x3p : K.lookup cdax3 = some ⟨cclx3, cddx3, .fields vsx3, ccsx3⟩) (x3q : vsx3[2]? = some (.str filex3 tfx3)) (x3r : ((P.main.file : Str) == filex3) = true) (x3s : K.lookup ccx3 = some ⟨clx3, cldx3, .cell (some (.ref Cx3)), cslx3⟩)
    {Cx4 fIx4 Nx4 cdax4 ccx4 : Addr} {nmx4 qx4 : Str} {bsx4 subx4 : List Value} {snx4 : List Str} {abx4 : Bool} {colx4 : Option Bool} {ddx4 odx4 anx4 cddx4 cldx4 : Option Addr} {m0x4 m1x4 m2x4 m3x4 m5x4 : Option Value} {ocx4 docx4 pmx4 ctx4 cclx4 clx4 : Value} {oslx4 ccsx4 cslx4 : Array (Option Value)} {vsx4 : Array Value} {filex4 : Str} {tfx4 : Tok}
    (x4a : PySem.W.nsIn K mainGlobals "NoWay" = some (some (.ref Cx4))) (x4b : K.lookup Cx4 = some (excClassObj nmx4 qx4 Cx4 Nx4 bsx4 [.ref Ap, .type "ValueError", .type "Exception", .type "BaseException", .type "object"] true snx4 subx4 abx4 colx4 ddx4 m0x4 m1x4 m2x4 m3x4 m5x4 "ValueError.__new__")) (x4c : PySem.W.ks_superIn K Cx4 Cx4 "__init__" = some (some (.builtin "ValueError.__init__"))) (x4d : PySem.W.findIn K (.ref Cx4) "__setattr__" = some (some (.builtin "object.__setattr__"))) (x4e : PySem.W.findIn K (.ref Cx4) "__getattribute__" = some (some (.builtin "BaseException.__getattribute__"))) (x4f : PySem.W.findIn K (.ref Cx4) "__getattr__" = some none) (x4g : PySem.W.findIn K (.ref Cx4) "__class__" = some (some (.builtin "object.__class__"))) (x4h0 : PySem.W.findIn K (.ref Cx4) "index" = some none) (x4i : PySem.W.findIn K (.ref Cx4) "__init__" = some (some (.ref fIx4))) (x4j : PySem.W.typeIn K (.ref fIx4) = some (.type "function")) (x4k : K.lookup fIx4 = some ⟨ocx4, odx4, .func (PySem.W.ksFn "__init__" "NoWay.__init__" (eA ⟨26, 17, 26, 21⟩ ((["index"] : List Str).zip ([⟨26, 23, 26, 28⟩] : List Pos))) (eB ⟨27, 8, 27, 13⟩ ⟨27, 8, 27, 15⟩ ⟨27, 8, 27, 24⟩ ⟨27, 8, 27, 31⟩ ⟨27, 8, 27, 31⟩ ((["index"] : List Str).zip ([(⟨27, 25, 27, 30⟩, ⟨28, 8, 28, 12⟩, ⟨28, 8, 28, 18⟩, ⟨28, 21, 28, 26⟩, ⟨28, 8, 28, 26⟩)] : List (Pos × PP)))) (eS ["index"]) .none .none docx4 pmx4 anx4 (.ref cdax4) ctx4 ccx4), oslx4⟩) (x4l : PySem.W.codeIn K (.ref cdax4) "NoWay.__init__" = true) (x4m : PySem.W.keepIn K (.ref Cx4) = true) (x4n : PySem.W.typeIn K (.ref Cx4) = some (.type "type")) (x4o : PySem.W.hasDictIn K Cx4 = true) (x4p : K.lookup cdax4 = some ⟨cclx4, cddx4, .fields vsx4, ccsx4⟩) (x4q : vsx4[2]? = some (.str filex4 tfx4)) (x4r : ((P.main.file : Str) == filex4) = true) (x4s : K.lookup ccx4 = some ⟨clx4, cldx4, .cell (some (.ref Cx4)), cslx4⟩)
    {Cx5 fIx5 Nx5 cdax5 ccx5 : Addr} {nmx5 qx5 : Str} {bsx5 subx5 : List Value} {snx5 : List Str} {abx5 : Bool} {colx5 : Option Bool} {ddx5 odx5 anx5 cddx5 cldx5 : Option Addr} {m0x5 m1x5 m2x5 m3x5 m5x5 : Option Value} {ocx5 docx5 pmx5 ctx5 cclx5 clx5 : Value} {oslx5 ccsx5 cslx5 : Array (Option Value)} {vsx5 : Array Value} {filex5 : Str} {tfx5 : Tok}
    (x5a : PySem.W.nsIn K mainGlobals "NoProc" = some (some (.ref Cx5))) (x5b : K.lookup Cx5 = some (excClassObj nmx5 qx5 Cx5 Nx5 bsx5 [.ref Ap, .type "ValueError", .type "Exception", .type "BaseException", .type "object"] true snx5 subx5 abx5 colx5 ddx5 m0x5 m1x5 m2x5 m3x5 m5x5 "ValueError.__new__")) (x5c : PySem.W.ks_superIn K Cx5 Cx5 "__init__" = some (some (.builtin "ValueError.__init__"))) (x5d : PySem.W.findIn K (.ref Cx5) "__setattr__" = some (some (.builtin "object.__setattr__"))) (x5e : PySem.W.findIn K (.ref Cx5) "__getattribute__" = some (some (.builtin "BaseException.__getattribute__"))) (x5f : PySem.W.findIn K (.ref Cx5) "__getattr__" = some none) (x5g : PySem.W.findIn K (.ref Cx5) "__class__" = some (some (.builtin "object.__class__"))) (x5h0 : PySem.W.findIn K (.ref Cx5) "name" = some none) (x5i : PySem.W.findIn K (.ref Cx5) "__init__" = some (some (.ref fIx5))) (x5j : PySem.W.typeIn K (.ref fIx5) = some (.type "function")) (x5k : K.lookup fIx5 = some ⟨ocx5, odx5, .func (PySem.W.ksFn "__init__" "NoProc.__init__" (eA ⟨31, 17, 31, 21⟩ ((["name"] : List Str).zip ([⟨31, 23, 31, 27⟩] : List Pos))) (eB ⟨32, 8, 32, 13⟩ ⟨32, 8, 32, 15⟩ ⟨32, 8, 32, 24⟩ ⟨32, 8, 32, 30⟩ ⟨32, 8, 32, 30⟩ ((["name"] : List Str).zip ([(⟨32, 25, 32, 29⟩, ⟨33, 8, 33, 12⟩, ⟨33, 8, 33, 17⟩, ⟨33, 20, 33, 24⟩, ⟨33, 8, 33, 24⟩)] : List (Pos × PP)))) (eS ["name"]) .none .none docx5 pmx5 anx5 (.ref cdax5) ctx5 ccx5), oslx5⟩) (x5l : PySem.W.codeIn K (.ref cdax5) "NoProc.__init__" = true) (x5m : PySem.W.keepIn K (.ref Cx5) = true) (x5n : PySem.W.typeIn K (.ref Cx5) = some (.type "type")) (x5o : PySem.W.hasDictIn K Cx5 = true) (x5p : K.lookup cdax5 = some ⟨cclx5, cddx5, .fields vsx5, ccsx5⟩) (x5q : vsx5[2]? = some (.str filex5 tfx5)) (x5r : ((P.main.file : Str) == filex5) = true) (x5s : K.lookup ccx5 = some ⟨clx5, cldx5, .cell (some (.ref Cx5)), cslx5⟩)
    {Cx6 fIx6 Nx6 cdax6 ccx6 : Addr} {nmx6 qx6 : Str} {bsx6 subx6 : List Value} {snx6 : List Str} {abx6 : Bool} {colx6 : Option Bool} {ddx6 odx6 anx6 cddx6 cldx6 : Option Addr} {m0x6 m1x6 m2x6 m3x6 m5x6 : Option Value} {ocx6 docx6 pmx6 ctx6 cclx6 clx6 : Value} {oslx6 ccsx6 cslx6 : Array (Option Value)} {vsx6 : Array Value} {filex6 : Str} {tfx6 : Tok}
    (x6a : PySem.W.nsIn K mainGlobals "NotFar" = some (some (.ref Cx6))) (x6b : K.lookup Cx6 = some (excClassObj nmx6 qx6 Cx6 Nx6 bsx6 [.ref Ap, .type "ValueError", .type "Exception", .type "BaseException", .type "object"] true snx6 subx6 abx6 colx6 ddx6 m0x6 m1x6 m2x6 m3x6 m5x6 "ValueError.__new__")) (x6c : PySem.W.ks_superIn K Cx6 Cx6 "__init__" = some (some (.builtin "ValueError.__init__"))) (x6d : PySem.W.findIn K (.ref Cx6) "__setattr__" = some (some (.builtin "object.__setattr__"))) (x6e : PySem.W.findIn K (.ref Cx6) "__getattribute__" = some (some (.builtin "BaseException.__getattribute__"))) (x6f : PySem.W.findIn K (.ref Cx6) "__getattr__" = some none) (x6g : PySem.W.findIn K (.ref Cx6) "__class__" = some (some (.builtin "object.__class__"))) (x6h0 : PySem.W.findIn K (.ref Cx6) "name" = some none) (x6i : PySem.W.findIn K (.ref Cx6) "__init__" = some (some (.ref fIx6))) (x6j : PySem.W.typeIn K (.ref fIx6) = some (.type "function")) (x6k : K.lookup fIx6 = some ⟨ocx6, odx6, .func (PySem.W.ksFn "__init__" "NotFar.__init__" (eA ⟨50, 17, 50, 21⟩ ((["name"] : List Str).zip ([⟨50, 23, 50, 27⟩] : List Pos))) (eB ⟨51, 8, 51, 13⟩ ⟨51, 8, 51, 15⟩ ⟨51, 8, 51, 24⟩ ⟨51, 8, 51, 30⟩ ⟨51, 8, 51, 30⟩ ((["name"] : List Str).zip ([(⟨51, 25, 51, 29⟩, ⟨52, 8, 52, 12⟩, ⟨52, 8, 52, 17⟩, ⟨52, 20, 52, 24⟩, ⟨52, 8, 52, 24⟩)] : List (Pos × PP)))) (eS ["name"]) .none .none docx6 pmx6 anx6 (.ref cdax6) ctx6 ccx6), oslx6⟩) (x6l : PySem.W.codeIn K (.ref cdax6) "NotFar.__init__" = true) (x6m : PySem.W.keepIn K (.ref Cx6) = true) (x6n : PySem.W.typeIn K (.ref Cx6) = some (.type "type")) (x6o : PySem.W.hasDictIn K Cx6 = true) (x6p : K.lookup cdax6 = some ⟨cclx6, cddx6, .fields vsx6, ccsx6⟩) (x6q : vsx6[2]? = some (.str filex6 tfx6)) (x6r : ((P.main.file : Str) == filex6) = true) (x6s : K.lookup ccx6 = some ⟨clx6, cldx6, .cell (some (.ref Cx6)), cslx6⟩)
    {Cx7 fIx7 Nx7 cdax7 ccx7 : Addr} {nmx7 qx7 : Str} {bsx7 subx7 : List Value} {snx7 : List Str} {abx7 : Bool} {colx7 : Option Bool} {ddx7 odx7 anx7 cddx7 cldx7 : Option Addr} {m0x7 m1x7 m2x7 m3x7 m5x7 : Option Value} {ocx7 docx7 pmx7 ctx7 cclx7 clx7 : Value} {oslx7 ccsx7 cslx7 : Array (Option Value)} {vsx7 : Array Value} {filex7 : Str} {tfx7 : Tok}
    (x7a : PySem.W.nsIn K mainGlobals "BadRow" = some (some (.ref Cx7))) (x7b : K.lookup Cx7 = some (excClassObj nmx7 qx7 Cx7 Nx7 bsx7 [.ref Ap, .type "ValueError", .type "Exception", .type "BaseException", .type "object"] true snx7 subx7 abx7 colx7 ddx7 m0x7 m1x7 m2x7 m3x7 m5x7 "ValueError.__new__")) (x7c : PySem.W.ks_superIn K Cx7 Cx7 "__init__" = some (some (.builtin "ValueError.__init__"))) (x7d : PySem.W.findIn K (.ref Cx7) "__setattr__" = some (some (.builtin "object.__setattr__"))) (x7e : PySem.W.findIn K (.ref Cx7) "__getattribute__" = some (some (.builtin "BaseException.__getattribute__"))) (x7f : PySem.W.findIn K (.ref Cx7) "__getattr__" = some none) (x7g : PySem.W.findIn K (.ref Cx7) "__class__" = some (some (.builtin "object.__class__"))) (x7h0 : PySem.W.findIn K (.ref Cx7) "row" = some none) (x7i : PySem.W.findIn K (.ref Cx7) "__init__" = some (some (.ref fIx7))) (x7j : PySem.W.typeIn K (.ref fIx7) = some (.type "function")) (x7k : K.lookup fIx7 = some ⟨ocx7, odx7, .func (PySem.W.ksFn "__init__" "BadRow.__init__" (eA ⟨55, 17, 55, 21⟩ ((["row"] : List Str).zip ([⟨55, 23, 55, 26⟩] : List Pos))) (eB ⟨56, 8, 56, 13⟩ ⟨56, 8, 56, 15⟩ ⟨56, 8, 56, 24⟩ ⟨56, 8, 56, 29⟩ ⟨56, 8, 56, 29⟩ ((["row"] : List Str).zip ([(⟨56, 25, 56, 28⟩, ⟨57, 8, 57, 12⟩, ⟨57, 8, 57, 16⟩, ⟨57, 19, 57, 22⟩, ⟨57, 8, 57, 22⟩)] : List (Pos × PP)))) (eS ["row"]) .none .none docx7 pmx7 anx7 (.ref cdax7) ctx7 ccx7), oslx7⟩) (x7l : PySem.W.codeIn K (.ref cdax7) "BadRow.__init__" = true) (x7m : PySem.W.keepIn K (.ref Cx7) = true) (x7n : PySem.W.typeIn K (.ref Cx7) = some (.type "type")) (x7o : PySem.W.hasDictIn K Cx7 = true) (x7p : K.lookup cdax7 = some ⟨cclx7, cddx7, .fields vsx7, ccsx7⟩) (x7q : vsx7[2]? = some (.str filex7 tfx7)) (x7r : ((P.main.file : Str) == filex7) = true) (x7s : K.lookup ccx7 = some ⟨clx7, cldx7, .cell (some (.ref Cx7)), cslx7⟩)
    {Cx8 fIx8 Nx8 cdax8 ccx8 : Addr} {nmx8 qx8 : Str} {bsx8 subx8 : List Value} {snx8 : List Str} {abx8 : Bool} {colx8 : Option Bool} {ddx8 odx8 anx8 cddx8 cldx8 : Option Addr} {m0x8 m1x8 m2x8 m3x8 m5x8 : Option Value} {ocx8 docx8 pmx8 ctx8 cclx8 clx8 : Value} {oslx8 ccsx8 cslx8 : Array (Option Value)} {vsx8 : Array Value} {filex8 : Str} {tfx8 : Tok}
    (x8a : PySem.W.nsIn K mainGlobals "NotSo" = some (some (.ref Cx8))) (x8b : K.lookup Cx8 = some (excClassObj nmx8 qx8 Cx8 Nx8 bsx8 [.ref Ap, .type "ValueError", .type "Exception", .type "BaseException", .type "object"] true snx8 subx8 abx8 colx8 ddx8 m0x8 m1x8 m2x8 m3x8 m5x8 "ValueError.__new__")) (x8c : PySem.W.ks_superIn K Cx8 Cx8 "__init__" = some (some (.builtin "ValueError.__init__"))) (x8d : PySem.W.findIn K (.ref Cx8) "__setattr__" = some (some (.builtin "object.__setattr__"))) (x8e : PySem.W.findIn K (.ref Cx8) "__getattribute__" = some (some (.builtin "BaseException.__getattribute__"))) (x8f : PySem.W.findIn K (.ref Cx8) "__getattr__" = some none) (x8g : PySem.W.findIn K (.ref Cx8) "__class__" = some (some (.builtin "object.__class__"))) (x8h0 : PySem.W.findIn K (.ref Cx8) "row" = some none) (x8i : PySem.W.findIn K (.ref Cx8) "__init__" = some (some (.ref fIx8))) (x8j : PySem.W.typeIn K (.ref fIx8) = some (.type "function")) (x8k : K.lookup fIx8 = some ⟨ocx8, odx8, .func (PySem.W.ksFn "__init__" "NotSo.__init__" (eA ⟨60, 17, 60, 21⟩ ((["row"] : List Str).zip ([⟨60, 23, 60, 26⟩] : List Pos))) (eB ⟨61, 8, 61, 13⟩ ⟨61, 8, 61, 15⟩ ⟨61, 8, 61, 24⟩ ⟨61, 8, 61, 29⟩ ⟨61, 8, 61, 29⟩ ((["row"] : List Str).zip ([(⟨61, 25, 61, 28⟩, ⟨62, 8, 62, 12⟩, ⟨62, 8, 62, 16⟩, ⟨62, 19, 62, 22⟩, ⟨62, 8, 62, 22⟩)] : List (Pos × PP)))) (eS ["row"]) .none .none docx8 pmx8 anx8 (.ref cdax8) ctx8 ccx8), oslx8⟩) (x8l : PySem.W.codeIn K (.ref cdax8) "NotSo.__init__" = true) (x8m : PySem.W.keepIn K (.ref Cx8) = true) (x8n : PySem.W.typeIn K (.ref Cx8) = some (.type "type")) (x8o : PySem.W.hasDictIn K Cx8 = true) (x8p : K.lookup cdax8 = some ⟨cclx8, cddx8, .fields vsx8, ccsx8⟩) (x8q : vsx8[2]? = some (.str filex8 tfx8)) (x8r : ((P.main.file : Str) == filex8) = true) (x8s : K.lookup ccx8 = some ⟨clx8, cldx8, .cell (some (.ref Cx8)), cslx8⟩)
    {Cx9 fIx9 Nx9 cdax9 ccx9 : Addr} {nmx9 qx9 : Str} {bsx9 subx9 : List Value} {snx9 : List Str} {abx9 : Bool} {colx9 : Option Bool} {ddx9 odx9 anx9 cddx9 cldx9 : Option Addr} {m0x9 m1x9 m2x9 m3x9 m5x9 : Option Value} {ocx9 docx9 pmx9 ctx9 cclx9 clx9 : Value} {oslx9 ccsx9 cslx9 : Array (Option Value)} {vsx9 : Array Value} {filex9 : Str} {tfx9 : Tok}
    (x9a : PySem.W.nsIn K mainGlobals "TooMany" = some (some (.ref Cx9))) (x9b : K.lookup Cx9 = some (excClassObj nmx9 qx9 Cx9 Nx9 bsx9 [.ref Ap, .type "ValueError", .type "Exception", .type "BaseException", .type "object"] true snx9 subx9 abx9 colx9 ddx9 m0x9 m1x9 m2x9 m3x9 m5x9 "ValueError.__new__")) (x9c : PySem.W.ks_superIn K Cx9 Cx9 "__init__" = some (some (.builtin "ValueError.__init__"))) (x9d : PySem.W.findIn K (.ref Cx9) "__setattr__" = some (some (.builtin "object.__setattr__"))) (x9e : PySem.W.findIn K (.ref Cx9) "__getattribute__" = some (some (.builtin "BaseException.__getattribute__"))) (x9f : PySem.W.findIn K (.ref Cx9) "__getattr__" = some none) (x9g : PySem.W.findIn K (.ref Cx9) "__class__" = some (some (.builtin "object.__class__"))) (x9h0 : PySem.W.findIn K (.ref Cx9) "most" = some none) (x9i : PySem.W.findIn K (.ref Cx9) "__init__" = some (some (.ref fIx9))) (x9j : PySem.W.typeIn K (.ref fIx9) = some (.type "function")) (x9k : K.lookup fIx9 = some ⟨ocx9, odx9, .func (PySem.W.ksFn "__init__" "TooMany.__init__" (eA ⟨65, 17, 65, 21⟩ ((["most"] : List Str).zip ([⟨65, 23, 65, 27⟩] : List Pos))) (eB ⟨66, 8, 66, 13⟩ ⟨66, 8, 66, 15⟩ ⟨66, 8, 66, 24⟩ ⟨66, 8, 66, 30⟩ ⟨66, 8, 66, 30⟩ ((["most"] : List Str).zip ([(⟨66, 25, 66, 29⟩, ⟨67, 8, 67, 12⟩, ⟨67, 8, 67, 17⟩, ⟨67, 20, 67, 24⟩, ⟨67, 8, 67, 24⟩)] : List (Pos × PP)))) (eS ["most"]) .none .none docx9 pmx9 anx9 (.ref cdax9) ctx9 ccx9), oslx9⟩) (x9l : PySem.W.codeIn K (.ref cdax9) "TooMany.__init__" = true) (x9m : PySem.W.keepIn K (.ref Cx9) = true) (x9n : PySem.W.typeIn K (.ref Cx9) = some (.type "type")) (x9o : PySem.W.hasDictIn K Cx9 = true) (x9p : K.lookup cdax9 = some ⟨cclx9, cddx9, .fields vsx9, ccsx9⟩) (x9q : vsx9[2]? = some (.str filex9 tfx9)) (x9r : ((P.main.file : Str) == filex9) = true) (x9s : K.lookup ccx9 = some ⟨clx9, cldx9, .cell (some (.ref Cx9)), cslx9⟩)
    {Cx10 fIx10 Nx10 cdax10 ccx10 : Addr} {nmx10 qx10 : Str} {bsx10 subx10 : List Value} {snx10 : List Str} {abx10 : Bool} {colx10 : Option Bool} {ddx10 odx10 anx10 cddx10 cldx10 : Option Addr} {m0x10 m1x10 m2x10 m3x10 m5x10 : Option Value} {ocx10 docx10 pmx10 ctx10 cclx10 clx10 : Value} {oslx10 ccsx10 cslx10 : Array (Option Value)} {vsx10 : Array Value} {filex10 : Str} {tfx10 : Tok}
    (x10a : PySem.W.nsIn K mainGlobals "NoEntry" = some (some (.ref Cx10))) (x10b : K.lookup Cx10 = some (excClassObj nmx10 qx10 Cx10 Nx10 bsx10 [.ref Ap, .type "ValueError", .type "Exception", .type "BaseException", .type "object"] true snx10 subx10 abx10 colx10 ddx10 m0x10 m1x10 m2x10 m3x10 m5x10 "ValueError.__new__")) (x10c : PySem.W.ks_superIn K Cx10 Cx10 "__init__" = some (some (.builtin "ValueError.__init__"))) (x10d : PySem.W.findIn K (.ref Cx10) "__setattr__" = some (some (.builtin "object.__setattr__"))) (x10e : PySem.W.findIn K (.ref Cx10) "__getattribute__" = some (some (.builtin "BaseException.__getattribute__"))) (x10f : PySem.W.findIn K (.ref Cx10) "__getattr__" = some none) (x10g : PySem.W.findIn K (.ref Cx10) "__class__" = some (some (.builtin "object.__class__"))) (x10h0 : PySem.W.findIn K (.ref Cx10) "many" = some none) (x10i : PySem.W.findIn K (.ref Cx10) "__init__" = some (some (.ref fIx10))) (x10j : PySem.W.typeIn K (.ref fIx10) = some (.type "function")) (x10k : K.lookup fIx10 = some ⟨ocx10, odx10, .func (PySem.W.ksFn "__init__" "NoEntry.__init__" (eA ⟨78, 17, 78, 21⟩ ((["many"] : List Str).zip ([⟨78, 23, 78, 27⟩] : List Pos))) (eB ⟨79, 8, 79, 13⟩ ⟨79, 8, 79, 15⟩ ⟨79, 8, 79, 24⟩ ⟨79, 8, 79, 30⟩ ⟨79, 8, 79, 30⟩ ((["many"] : List Str).zip ([(⟨79, 25, 79, 29⟩, ⟨80, 8, 80, 12⟩, ⟨80, 8, 80, 17⟩, ⟨80, 20, 80, 24⟩, ⟨80, 8, 80, 24⟩)] : List (Pos × PP)))) (eS ["many"]) .none .none docx10 pmx10 anx10 (.ref cdax10) ctx10 ccx10), oslx10⟩) (x10l : PySem.W.codeIn K (.ref cdax10) "NoEntry.__init__" = true) (x10m : PySem.W.keepIn K (.ref Cx10) = true) (x10n : PySem.W.typeIn K (.ref Cx10) = some (.type "type")) (x10o : PySem.W.hasDictIn K Cx10 = true) (x10p : K.lookup cdax10 = some ⟨cclx10, cddx10, .fields vsx10, ccsx10⟩) (x10q : vsx10[2]? = some (.str filex10 tfx10)) (x10r : ((P.main.file : Str) == filex10) = true) (x10s : K.lookup ccx10 = some ⟨clx10, cldx10, .cell (some (.ref Cx10)), cslx10⟩)
    {Cx11 fIx11 Nx11 cdax11 ccx11 : Addr} {nmx11 qx11 : Str} {bsx11 subx11 : List Value} {snx11 : List Str} {abx11 : Bool} {colx11 : Option Bool} {ddx11 odx11 anx11 cddx11 cldx11 : Option Addr} {m0x11 m1x11 m2x11 m3x11 m5x11 : Option Value} {ocx11 docx11 pmx11 ctx11 cclx11 clx11 : Value} {oslx11 ccsx11 cslx11 : Array (Option Value)} {vsx11 : Array Value} {filex11 : Str} {tfx11 : Tok}
    (x11a : PySem.W.nsIn K mainGlobals "Full" = some (some (.ref Cx11))) (x11b : K.lookup Cx11 = some (excClassObj nmx11 qx11 Cx11 Nx11 bsx11 [.ref Ap, .type "ValueError", .type "Exception", .type "BaseException", .type "object"] true snx11 subx11 abx11 colx11 ddx11 m0x11 m1x11 m2x11 m3x11 m5x11 "ValueError.__new__")) (x11c : PySem.W.ks_superIn K Cx11 Cx11 "__init__" = some (some (.builtin "ValueError.__init__"))) (x11d : PySem.W.findIn K (.ref Cx11) "__setattr__" = some (some (.builtin "object.__setattr__"))) (x11e : PySem.W.findIn K (.ref Cx11) "__getattribute__" = some (some (.builtin "BaseException.__getattribute__"))) (x11f : PySem.W.findIn K (.ref Cx11) "__getattr__" = some none) (x11g : PySem.W.findIn K (.ref Cx11) "__class__" = some (some (.builtin "object.__class__"))) (x11h0 : PySem.W.findIn K (.ref Cx11) "most" = some none) (x11i : PySem.W.findIn K (.ref Cx11) "__init__" = some (some (.ref fIx11))) (x11j : PySem.W.typeIn K (.ref fIx11) = some (.type "function")) (x11k : K.lookup fIx11 = some ⟨ocx11, odx11, .func (PySem.W.ksFn "__init__" "Full.__init__" (eA ⟨87, 17, 87, 21⟩ ((["most"] : List Str).zip ([⟨87, 23, 87, 27⟩] : List Pos))) (eB ⟨88, 8, 88, 13⟩ ⟨88, 8, 88, 15⟩ ⟨88, 8, 88, 24⟩ ⟨88, 8, 88, 30⟩ ⟨88, 8, 88, 30⟩ ((["most"] : List Str).zip ([(⟨88, 25, 88, 29⟩, ⟨89, 8, 89, 12⟩, ⟨89, 8, 89, 17⟩, ⟨89, 20, 89, 24⟩, ⟨89, 8, 89, 24⟩)] : List (Pos × PP)))) (eS ["most"]) .none .none docx11 pmx11 anx11 (.ref cdax11) ctx11 ccx11), oslx11⟩) (x11l : PySem.W.codeIn K (.ref cdax11) "Full.__init__" = true) (x11m : PySem.W.keepIn K (.ref Cx11) = true) (x11n : PySem.W.typeIn K (.ref Cx11) = some (.type "type")) (x11o : PySem.W.hasDictIn K Cx11 = true) (x11p : K.lookup cdax11 = some ⟨cclx11, cddx11, .fields vsx11, ccsx11⟩) (x11q : vsx11[2]? = some (.str filex11 tfx11)) (x11r : ((P.main.file : Str) == filex11) = true) (x11s : K.lookup ccx11 = some ⟨clx11, cldx11, .cell (some (.ref Cx11)), cslx11⟩)
    {Cx12 fIx12 Nx12 cdax12 ccx12 : Addr} {nmx12 qx12 : Str} {bsx12 subx12 : List Value} {snx12 : List Str} {abx12 : Bool} {colx12 : Option Bool} {ddx12 odx12 anx12 cddx12 cldx12 : Option Addr} {m0x12 m1x12 m2x12 m3x12 m5x12 : Option Value} {ocx12 docx12 pmx12 ctx12 cclx12 clx12 : Value} {oslx12 ccsx12 cslx12 : Array (Option Value)} {vsx12 : Array Value} {filex12 : Str} {tfx12 : Tok}
    (x12a : PySem.W.nsIn K mainGlobals "Refused" = some (some (.ref Cx12))) (x12b : K.lookup Cx12 = some (excClassObj nmx12 qx12 Cx12 Nx12 bsx12 [.ref Ap, .type "ValueError", .type "Exception", .type "BaseException", .type "object"] true snx12 subx12 abx12 colx12 ddx12 m0x12 m1x12 m2x12 m3x12 m5x12 "ValueError.__new__")) (x12c : PySem.W.ks_superIn K Cx12 Cx12 "__init__" = some (some (.builtin "ValueError.__init__"))) (x12d : PySem.W.findIn K (.ref Cx12) "__setattr__" = some (some (.builtin "object.__setattr__"))) (x12e : PySem.W.findIn K (.ref Cx12) "__getattribute__" = some (some (.builtin "BaseException.__getattribute__"))) (x12f : PySem.W.findIn K (.ref Cx12) "__getattr__" = some none) (x12g : PySem.W.findIn K (.ref Cx12) "__class__" = some (some (.builtin "object.__class__"))) (x12h0 : PySem.W.findIn K (.ref Cx12) "deed" = some none) (x12i : PySem.W.findIn K (.ref Cx12) "__init__" = some (some (.ref fIx12))) (x12j : PySem.W.typeIn K (.ref fIx12) = some (.type "function")) (x12k : K.lookup fIx12 = some ⟨ocx12, odx12, .func (PySem.W.ksFn "__init__" "Refused.__init__" (eA ⟨92, 17, 92, 21⟩ ((["deed"] : List Str).zip ([⟨92, 23, 92, 27⟩] : List Pos))) (eB ⟨93, 8, 93, 13⟩ ⟨93, 8, 93, 15⟩ ⟨93, 8, 93, 24⟩ ⟨93, 8, 93, 30⟩ ⟨93, 8, 93, 30⟩ ((["deed"] : List Str).zip ([(⟨93, 25, 93, 29⟩, ⟨94, 8, 94, 12⟩, ⟨94, 8, 94, 17⟩, ⟨94, 20, 94, 24⟩, ⟨94, 8, 94, 24⟩)] : List (Pos × PP)))) (eS ["deed"]) .none .none docx12 pmx12 anx12 (.ref cdax12) ctx12 ccx12), oslx12⟩) (x12l : PySem.W.codeIn K (.ref cdax12) "Refused.__init__" = true) (x12m : PySem.W.keepIn K (.ref Cx12) = true) (x12n : PySem.W.typeIn K (.ref Cx12) = some (.type "type")) (x12o : PySem.W.hasDictIn K Cx12 = true) (x12p : K.lookup cdax12 = some ⟨cclx12, cddx12, .fields vsx12, ccsx12⟩) (x12q : vsx12[2]? = some (.str filex12 tfx12)) (x12r : ((P.main.file : Str) == filex12) = true) (x12s : K.lookup ccx12 = some ⟨clx12, cldx12, .cell (some (.ref Cx12)), cslx12⟩)
    {Cx13 fIx13 Nx13 cdax13 ccx13 : Addr} {nmx13 qx13 : Str} {bsx13 subx13 : List Value} {snx13 : List Str} {abx13 : Bool} {colx13 : Option Bool} {ddx13 odx13 anx13 cddx13 cldx13 : Option Addr} {m0x13 m1x13 m2x13 m3x13 m5x13 : Option Value} {ocx13 docx13 pmx13 ctx13 cclx13 clx13 : Value} {oslx13 ccsx13 cslx13 : Array (Option Value)} {vsx13 : Array Value} {filex13 : Str} {tfx13 : Tok}
    (x13a : PySem.W.nsIn K mainGlobals "BadCall" = some (some (.ref Cx13))) (x13b : K.lookup Cx13 = some (excClassObj nmx13 qx13 Cx13 Nx13 bsx13 [.ref Ap, .type "ValueError", .type "Exception", .type "BaseException", .type "object"] true snx13 subx13 abx13 colx13 ddx13 m0x13 m1x13 m2x13 m3x13 m5x13 "ValueError.__new__")) (x13c : PySem.W.ks_superIn K Cx13 Cx13 "__init__" = some (some (.builtin "ValueError.__init__"))) (x13d : PySem.W.findIn K (.ref Cx13) "__setattr__" = some (some (.builtin "object.__setattr__"))) (x13e : PySem.W.findIn K (.ref Cx13) "__getattribute__" = some (some (.builtin "BaseException.__getattribute__"))) (x13f : PySem.W.findIn K (.ref Cx13) "__getattr__" = some none) (x13g : PySem.W.findIn K (.ref Cx13) "__class__" = some (some (.builtin "object.__class__"))) (x13h0 : PySem.W.findIn K (.ref Cx13) "name" = some none) (x13h1 : PySem.W.findIn K (.ref Cx13) "index" = some none) (x13i : PySem.W.findIn K (.ref Cx13) "__init__" = some (some (.ref fIx13))) (x13j : PySem.W.typeIn K (.ref fIx13) = some (.type "function")) (x13k : K.lookup fIx13 = some ⟨ocx13, odx13, .func (PySem.W.ksFn "__init__" "BadCall.__init__" (eA ⟨36, 17, 36, 21⟩ ((["name", "index"] : List Str).zip ([⟨36, 23, 36, 27⟩, ⟨36, 29, 36, 34⟩] : List Pos))) (eB ⟨37, 8, 37, 13⟩ ⟨37, 8, 37, 15⟩ ⟨37, 8, 37, 24⟩ ⟨37, 8, 37, 37⟩ ⟨37, 8, 37, 37⟩ ((["name", "index"] : List Str).zip ([(⟨37, 25, 37, 29⟩, ⟨38, 8, 38, 12⟩, ⟨38, 8, 38, 17⟩, ⟨38, 20, 38, 24⟩, ⟨38, 8, 38, 24⟩), (⟨37, 31, 37, 36⟩, ⟨39, 8, 39, 12⟩, ⟨39, 8, 39, 18⟩, ⟨39, 21, 39, 26⟩, ⟨39, 8, 39, 26⟩)] : List (Pos × PP)))) (eS ["name", "index"]) .none .none docx13 pmx13 anx13 (.ref cdax13) ctx13 ccx13), oslx13⟩) (x13l : PySem.W.codeIn K (.ref cdax13) "BadCall.__init__" = true) (x13m : PySem.W.keepIn K (.ref Cx13) = true) (x13n : PySem.W.typeIn K (.ref Cx13) = some (.type "type")) (x13o : PySem.W.hasDictIn K Cx13 = true) (x13p : K.lookup cdax13 = some ⟨cclx13, cddx13, .fields vsx13, ccsx13⟩) (x13q : vsx13[2]? = some (.str filex13 tfx13)) (x13r : ((P.main.file : Str) == filex13) = true) (x13s : K.lookup ccx13 = some ⟨clx13, cldx13, .cell (some (.ref Cx13)), cslx13⟩)
    {Cx14 fIx14 Nx14 cdax14 ccx14 : Addr} {nmx14 qx14 : Str} {bsx14 subx14 : List Value} {snx14 : List Str} {abx14 : Bool} {colx14 : Option Bool} {ddx14 odx14 anx14 cddx14 cldx14 : Option Addr} {m0x14 m1x14 m2x14 m3x14 m5x14 : Option Value} {ocx14 docx14 pmx14 ctx14 cclx14 clx14 : Value} {oslx14 ccsx14 cslx14 : Array (Option Value)} {vsx14 : Array Value} {filex14 : Str} {tfx14 : Tok}
    (x14a : PySem.W.nsIn K mainGlobals "NoStart" = some (some (.ref Cx14))) (x14b : K.lookup Cx14 = some (excClassObj nmx14 qx14 Cx14 Nx14 bsx14 [.ref Ap, .type "ValueError", .type "Exception", .type "BaseException", .type "object"] true snx14 subx14 abx14 colx14 ddx14 m0x14 m1x14 m2x14 m3x14 m5x14 "ValueError.__new__")) (x14c : PySem.W.ks_superIn K Cx14 Cx14 "__init__" = some (some (.builtin "ValueError.__init__"))) (x14d : PySem.W.findIn K (.ref Cx14) "__setattr__" = some (some (.builtin "object.__setattr__"))) (x14e : PySem.W.findIn K (.ref Cx14) "__getattribute__" = some (some (.builtin "BaseException.__getattribute__"))) (x14f : PySem.W.findIn K (.ref Cx14) "__getattr__" = some none) (x14g : PySem.W.findIn K (.ref Cx14) "__class__" = some (some (.builtin "object.__class__"))) (x14i : PySem.W.findIn K (.ref Cx14) "__init__" = some (some (.ref fIx14))) (x14j : PySem.W.typeIn K (.ref fIx14) = some (.type "function")) (x14k : K.lookup fIx14 = some ⟨ocx14, odx14, .func (PySem.W.ksFn "__init__" "NoStart.__init__" (eA ⟨42, 17, 42, 21⟩ (([] : List Str).zip ([] : List Pos))) (eB ⟨43, 8, 43, 13⟩ ⟨43, 8, 43, 15⟩ ⟨43, 8, 43, 24⟩ ⟨43, 8, 43, 26⟩ ⟨43, 8, 43, 26⟩ (([] : List Str).zip ([] : List (Pos × PP)))) (eS []) .none .none docx14 pmx14 anx14 (.ref cdax14) ctx14 ccx14), oslx14⟩) (x14l : PySem.W.codeIn K (.ref cdax14) "NoStart.__init__" = true) (x14m : PySem.W.keepIn K (.ref Cx14) = true) (x14n : PySem.W.typeIn K (.ref Cx14) = some (.type "type")) (x14o : PySem.W.hasDictIn K Cx14 = true) (x14p : K.lookup cdax14 = some ⟨cclx14, cddx14, .fields vsx14, ccsx14⟩) (x14q : vsx14[2]? = some (.str filex14 tfx14)) (x14r : ((P.main.file : Str) == filex14) = true) (x14s : K.lookup ccx14 = some ⟨clx14, cldx14, .cell (some (.ref Cx14)), cslx14⟩)
    {Cx15 fIx15 Nx15 cdax15 ccx15 : Addr} {nmx15 qx15 : Str} {bsx15 subx15 : List Value} {snx15 : List Str} {abx15 : Bool} {colx15 : Option Bool} {ddx15 odx15 anx15 cddx15 cldx15 : Option Addr} {m0x15 m1x15 m2x15 m3x15 m5x15 : Option Value} {ocx15 docx15 pmx15 ctx15 cclx15 clx15 : Value} {oslx15 ccsx15 cslx15 : Array (Option Value)} {vsx15 : Array Value} {filex15 : Str} {tfx15 : Tok}
    (x15a : PySem.W.nsIn K mainGlobals "Unlike" = some (some (.ref Cx15))) (x15b : K.lookup Cx15 = some (excClassObj nmx15 qx15 Cx15 Nx15 bsx15 [.ref Ap, .type "ValueError", .type "Exception", .type "BaseException", .type "object"] true snx15 subx15 abx15 colx15 ddx15 m0x15 m1x15 m2x15 m3x15 m5x15 "ValueError.__new__")) (x15c : PySem.W.ks_superIn K Cx15 Cx15 "__init__" = some (some (.builtin "ValueError.__init__"))) (x15d : PySem.W.findIn K (.ref Cx15) "__setattr__" = some (some (.builtin "object.__setattr__"))) (x15e : PySem.W.findIn K (.ref Cx15) "__getattribute__" = some (some (.builtin "BaseException.__getattribute__"))) (x15f : PySem.W.findIn K (.ref Cx15) "__getattr__" = some none) (x15g : PySem.W.findIn K (.ref Cx15) "__class__" = some (some (.builtin "object.__class__"))) (x15i : PySem.W.findIn K (.ref Cx15) "__init__" = some (some (.ref fIx15))) (x15j : PySem.W.typeIn K (.ref fIx15) = some (.type "function")) (x15k : K.lookup fIx15 = some ⟨ocx15, odx15, .func (PySem.W.ksFn "__init__" "Unlike.__init__" (eA ⟨46, 17, 46, 21⟩ (([] : List Str).zip ([] : List Pos))) (eB ⟨47, 8, 47, 13⟩ ⟨47, 8, 47, 15⟩ ⟨47, 8, 47, 24⟩ ⟨47, 8, 47, 26⟩ ⟨47, 8, 47, 26⟩ (([] : List Str).zip ([] : List (Pos × PP)))) (eS []) .none .none docx15 pmx15 anx15 (.ref cdax15) ctx15 ccx15), oslx15⟩) (x15l : PySem.W.codeIn K (.ref cdax15) "Unlike.__init__" = true) (x15m : PySem.W.keepIn K (.ref Cx15) = true) (x15n : PySem.W.typeIn K (.ref Cx15) = some (.type "type")) (x15o : PySem.W.hasDictIn K Cx15 = true) (x15p : K.lookup cdax15 = some ⟨cclx15, cddx15, .fields vsx15, ccsx15⟩) (x15q : vsx15[2]? = some (.str filex15 tfx15)) (x15r : ((P.main.file : Str) == filex15) = true) (x15s : K.lookup ccx15 = some ⟨clx15, cldx15, .cell (some (.ref Cx15)), cslx15⟩)
    {Cx16 fIx16 Nx16 cdax16 ccx16 : Addr} {nmx16 qx16 : Str} {bsx16 subx16 : List Value} {snx16 : List Str} {abx16 : Bool} {colx16 : Option Bool} {ddx16 odx16 anx16 cddx16 cldx16 : Option Addr} {m0x16 m1x16 m2x16 m3x16 m5x16 : Option Value} {ocx16 docx16 pmx16 ctx16 cclx16 clx16 : Value} {oslx16 ccsx16 cslx16 : Array (Option Value)} {vsx16 : Array Value} {filex16 : Str} {tfx16 : Tok}
    (x16a : PySem.W.nsIn K mainGlobals "Never" = some (some (.ref Cx16))) (x16b : K.lookup Cx16 = some (excClassObj nmx16 qx16 Cx16 Nx16 bsx16 [.ref Ap, .type "ValueError", .type "Exception", .type "BaseException", .type "object"] true snx16 subx16 abx16 colx16 ddx16 m0x16 m1x16 m2x16 m3x16 m5x16 "ValueError.__new__")) (x16c : PySem.W.ks_superIn K Cx16 Cx16 "__init__" = some (some (.builtin "ValueError.__init__"))) (x16d : PySem.W.findIn K (.ref Cx16) "__setattr__" = some (some (.builtin "object.__setattr__"))) (x16e : PySem.W.findIn K (.ref Cx16) "__getattribute__" = some (some (.builtin "BaseException.__getattribute__"))) (x16f : PySem.W.findIn K (.ref Cx16) "__getattr__" = some none) (x16g : PySem.W.findIn K (.ref Cx16) "__class__" = some (some (.builtin "object.__class__"))) (x16i : PySem.W.findIn K (.ref Cx16) "__init__" = some (some (.ref fIx16))) (x16j : PySem.W.typeIn K (.ref fIx16) = some (.type "function")) (x16k : K.lookup fIx16 = some ⟨ocx16, odx16, .func (PySem.W.ksFn "__init__" "Never.__init__" (eA ⟨70, 17, 70, 21⟩ (([] : List Str).zip ([] : List Pos))) (eB ⟨71, 8, 71, 13⟩ ⟨71, 8, 71, 15⟩ ⟨71, 8, 71, 24⟩ ⟨71, 8, 71, 26⟩ ⟨71, 8, 71, 26⟩ (([] : List Str).zip ([] : List (Pos × PP)))) (eS []) .none .none docx16 pmx16 anx16 (.ref cdax16) ctx16 ccx16), oslx16⟩) (x16l : PySem.W.codeIn K (.ref cdax16) "Never.__init__" = true) (x16m : PySem.W.keepIn K (.ref Cx16) = true) (x16n : PySem.W.typeIn K (.ref Cx16) = some (.type "type")) (x16o : PySem.W.hasDictIn K Cx16 = true) (x16p : K.lookup cdax16 = some ⟨cclx16, cddx16, .fields vsx16, ccsx16⟩) (x16q : vsx16[2]? = some (.str filex16 tfx16)) (x16r : ((P.main.file : Str) == filex16) = true) (x16s : K.lookup ccx16 = some ⟨clx16, cldx16, .cell (some (.ref Cx16)), cslx16⟩)
    {Cx17 fIx17 Nx17 cdax17 ccx17 : Addr} {nmx17 qx17 : Str} {bsx17 subx17 : List Value} {snx17 : List Str} {abx17 : Bool} {colx17 : Option Bool} {ddx17 odx17 anx17 cddx17 cldx17 : Option Addr} {m0x17 m1x17 m2x17 m3x17 m5x17 : Option Value} {ocx17 docx17 pmx17 ctx17 cclx17 clx17 : Value} {oslx17 ccsx17 cslx17 : Array (Option Value)} {vsx17 : Array Value} {filex17 : Str} {tfx17 : Tok}
    (x17a : PySem.W.nsIn K mainGlobals "Endless" = some (some (.ref Cx17))) (x17b : K.lookup Cx17 = some (excClassObj nmx17 qx17 Cx17 Nx17 bsx17 [.ref Ap, .type "ValueError", .type "Exception", .type "BaseException", .type "object"] true snx17 subx17 abx17 colx17 ddx17 m0x17 m1x17 m2x17 m3x17 m5x17 "ValueError.__new__")) (x17c : PySem.W.ks_superIn K Cx17 Cx17 "__init__" = some (some (.builtin "ValueError.__init__"))) (x17d : PySem.W.findIn K (.ref Cx17) "__setattr__" = some (some (.builtin "object.__setattr__"))) (x17e : PySem.W.findIn K (.ref Cx17) "__getattribute__" = some (some (.builtin "BaseException.__getattribute__"))) (x17f : PySem.W.findIn K (.ref Cx17) "__getattr__" = some none) (x17g : PySem.W.findIn K (.ref Cx17) "__class__" = some (some (.builtin "object.__class__"))) (x17i : PySem.W.findIn K (.ref Cx17) "__init__" = some (some (.ref fIx17))) (x17j : PySem.W.typeIn K (.ref fIx17) = some (.type "function")) (x17k : K.lookup fIx17 = some ⟨ocx17, odx17, .func (PySem.W.ksFn "__init__" "Endless.__init__" (eA ⟨74, 17, 74, 21⟩ (([] : List Str).zip ([] : List Pos))) (eB ⟨75, 8, 75, 13⟩ ⟨75, 8, 75, 15⟩ ⟨75, 8, 75, 24⟩ ⟨75, 8, 75, 26⟩ ⟨75, 8, 75, 26⟩ (([] : List Str).zip ([] : List (Pos × PP)))) (eS []) .none .none docx17 pmx17 anx17 (.ref cdax17) ctx17 ccx17), oslx17⟩) (x17l : PySem.W.codeIn K (.ref cdax17) "Endless.__init__" = true) (x17m : PySem.W.keepIn K (.ref Cx17) = true) (x17n : PySem.W.typeIn K (.ref Cx17) = some (.type "type")) (x17o : PySem.W.hasDictIn K Cx17 = true) (x17p : K.lookup cdax17 = some ⟨cclx17, cddx17, .fields vsx17, ccsx17⟩) (x17q : vsx17[2]? = some (.str filex17 tfx17)) (x17r : ((P.main.file : Str) == filex17) = true) (x17s : K.lookup ccx17 = some ⟨clx17, cldx17, .cell (some (.ref Cx17)), cslx17⟩)
    {Cx18 fIx18 Nx18 cdax18 ccx18 : Addr} {nmx18 qx18 : Str} {bsx18 subx18 : List Value} {snx18 : List Str} {abx18 : Bool} {colx18 : Option Bool} {ddx18 odx18 anx18 cddx18 cldx18 : Option Addr} {m0x18 m1x18 m2x18 m3x18 m5x18 : Option Value} {ocx18 docx18 pmx18 ctx18 cclx18 clx18 : Value} {oslx18 ccsx18 cslx18 : Array (Option Value)} {vsx18 : Array Value} {filex18 : Str} {tfx18 : Tok}
    (x18a : PySem.W.nsIn K mainGlobals "NoDeed" = some (some (.ref Cx18))) (x18b : K.lookup Cx18 = some (excClassObj nmx18 qx18 Cx18 Nx18 bsx18 [.ref Ap, .type "ValueError", .type "Exception", .type "BaseException", .type "object"] true snx18 subx18 abx18 colx18 ddx18 m0x18 m1x18 m2x18 m3x18 m5x18 "ValueError.__new__")) (x18c : PySem.W.ks_superIn K Cx18 Cx18 "__init__" = some (some (.builtin "ValueError.__init__"))) (x18d : PySem.W.findIn K (.ref Cx18) "__setattr__" = some (some (.builtin "object.__setattr__"))) (x18e : PySem.W.findIn K (.ref Cx18) "__getattribute__" = some (some (.builtin "BaseException.__getattribute__"))) (x18f : PySem.W.findIn K (.ref Cx18) "__getattr__" = some none) (x18g : PySem.W.findIn K (.ref Cx18) "__class__" = some (some (.builtin "object.__class__"))) (x18i : PySem.W.findIn K (.ref Cx18) "__init__" = some (some (.ref fIx18))) (x18j : PySem.W.typeIn K (.ref fIx18) = some (.type "function")) (x18k : K.lookup fIx18 = some ⟨ocx18, odx18, .func (PySem.W.ksFn "__init__" "NoDeed.__init__" (eA ⟨83, 17, 83, 21⟩ (([] : List Str).zip ([] : List Pos))) (eB ⟨84, 8, 84, 13⟩ ⟨84, 8, 84, 15⟩ ⟨84, 8, 84, 24⟩ ⟨84, 8, 84, 26⟩ ⟨84, 8, 84, 26⟩ (([] : List Str).zip ([] : List (Pos × PP)))) (eS []) .none .none docx18 pmx18 anx18 (.ref cdax18) ctx18 ccx18), oslx18⟩) (x18l : PySem.W.codeIn K (.ref cdax18) "NoDeed.__init__" = true) (x18m : PySem.W.keepIn K (.ref Cx18) = true) (x18n : PySem.W.typeIn K (.ref Cx18) = some (.type "type")) (x18o : PySem.W.hasDictIn K Cx18 = true) (x18p : K.lookup cdax18 = some ⟨cclx18, cddx18, .fields vsx18, ccsx18⟩) (x18q : vsx18[2]? = some (.str filex18 tfx18)) (x18r : ((P.main.file : Str) == filex18) = true) (x18s : K.lookup ccx18 = some ⟨clx18, cldx18, .cell (some (.ref Cx18)), cslx18⟩)
    {Cx19 fIx19 Nx19 cdax19 ccx19 : Addr} {nmx19 qx19 : Str} {bsx19 subx19 : List Value} {snx19 : List Str} {abx19 : Bool} {colx19 : Option Bool} {ddx19 odx19 anx19 cddx19 cldx19 : Option Addr} {m0x19 m1x19 m2x19 m3x19 m5x19 : Option Value} {ocx19 docx19 pmx19 ctx19 cclx19 clx19 : Value} {oslx19 ccsx19 cslx19 : Array (Option Value)} {vsx19 : Array Value} {filex19 : Str} {tfx19 : Tok}
    (x19a : PySem.W.nsIn K mainGlobals "Nothing" = some (some (.ref Cx19))) (x19b : K.lookup Cx19 = some (excClassObj nmx19 qx19 Cx19 Nx19 bsx19 [.ref Ap, .type "ValueError", .type "Exception", .type "BaseException", .type "object"] true snx19 subx19 abx19 colx19 ddx19 m0x19 m1x19 m2x19 m3x19 m5x19 "ValueError.__new__")) (x19c : PySem.W.ks_superIn K Cx19 Cx19 "__init__" = some (some (.builtin "ValueError.__init__"))) (x19d : PySem.W.findIn K (.ref Cx19) "__setattr__" = some (some (.builtin "object.__setattr__"))) (x19e : PySem.W.findIn K (.ref Cx19) "__getattribute__" = some (some (.builtin "BaseException.__getattribute__"))) (x19f : PySem.W.findIn K (.ref Cx19) "__getattr__" = some none) (x19g : PySem.W.findIn K (.ref Cx19) "__class__" = some (some (.builtin "object.__class__"))) (x19i : PySem.W.findIn K (.ref Cx19) "__init__" = some (some (.ref fIx19))) (x19j : PySem.W.typeIn K (.ref fIx19) = some (.type "function")) (x19k : K.lookup fIx19 = some ⟨ocx19, odx19, .func (PySem.W.ksFn "__init__" "Nothing.__init__" (eA ⟨97, 17, 97, 21⟩ (([] : List Str).zip ([] : List Pos))) (eB ⟨98, 8, 98, 13⟩ ⟨98, 8, 98, 15⟩ ⟨98, 8, 98, 24⟩ ⟨98, 8, 98, 26⟩ ⟨98, 8, 98, 26⟩ (([] : List Str).zip ([] : List (Pos × PP)))) (eS []) .none .none docx19 pmx19 anx19 (.ref cdax19) ctx19 ccx19), oslx19⟩) (x19l : PySem.W.codeIn K (.ref cdax19) "Nothing.__init__" = true) (x19m : PySem.W.keepIn K (.ref Cx19) = true) (x19n : PySem.W.typeIn K (.ref Cx19) = some (.type "type")) (x19o : PySem.W.hasDictIn K Cx19 = true) (x19p : K.lookup cdax19 = some ⟨cclx19, cddx19, .fields vsx19, ccsx19⟩) (x19q : vsx19[2]? = some (.str filex19 tfx19)) (x19r : ((P.main.file : Str) == filex19) = true) (x19s : K.lookup ccx19 = some ⟨clx19, cldx19, .cell (some (.ref Cx19)), cslx19⟩)
    {Cx20 fIx20 Nx20 cdax20 ccx20 : Addr} {nmx20 qx20 : Str} {bsx20 subx20 : List Value} {snx20 : List Str} {abx20 : Bool} {colx20 : Option Bool} {ddx20 odx20 anx20 cddx20 cldx20 : Option Addr} {m0x20 m1x20 m2x20 m3x20 m5x20 : Option Value} {ocx20 docx20 pmx20 ctx20 cclx20 clx20 : Value} {oslx20 ccsx20 cslx20 : Array (Option Value)} {vsx20 : Array Value} {filex20 : Str} {tfx20 : Tok}
    (x20a : PySem.W.nsIn K mainGlobals "NoText" = some (some (.ref Cx20))) (x20b : K.lookup Cx20 = some (excClassObj nmx20 qx20 Cx20 Nx20 bsx20 [.ref Ap, .type "ValueError", .type "Exception", .type "BaseException", .type "object"] true snx20 subx20 abx20 colx20 ddx20 m0x20 m1x20 m2x20 m3x20 m5x20 "ValueError.__new__")) (x20c : PySem.W.ks_superIn K Cx20 Cx20 "__init__" = some (some (.builtin "ValueError.__init__"))) (x20d : PySem.W.findIn K (.ref Cx20) "__setattr__" = some (some (.builtin "object.__setattr__"))) (x20e : PySem.W.findIn K (.ref Cx20) "__getattribute__" = some (some (.builtin "BaseException.__getattribute__"))) (x20f : PySem.W.findIn K (.ref Cx20) "__getattr__" = some none) (x20g : PySem.W.findIn K (.ref Cx20) "__class__" = some (some (.builtin "object.__class__"))) (x20i : PySem.W.findIn K (.ref Cx20) "__init__" = some (some (.ref fIx20))) (x20j : PySem.W.typeIn K (.ref fIx20) = some (.type "function")) (x20k : K.lookup fIx20 = some ⟨ocx20, odx20, .func (PySem.W.ksFn "__init__" "NoText.__init__" (eA ⟨101, 17, 101, 21⟩ (([] : List Str).zip ([] : List Pos))) (eB ⟨102, 8, 102, 13⟩ ⟨102, 8, 102, 15⟩ ⟨102, 8, 102, 24⟩ ⟨102, 8, 102, 26⟩ ⟨102, 8, 102, 26⟩ (([] : List Str).zip ([] : List (Pos × PP)))) (eS []) .none .none docx20 pmx20 anx20 (.ref cdax20) ctx20 ccx20), oslx20⟩) (x20l : PySem.W.codeIn K (.ref cdax20) "NoText.__init__" = true) (x20m : PySem.W.keepIn K (.ref Cx20) = true) (x20n : PySem.W.typeIn K (.ref Cx20) = some (.type "type")) (x20o : PySem.W.hasDictIn K Cx20 = true) (x20p : K.lookup cdax20 = some ⟨cclx20, cddx20, .fields vsx20, ccsx20⟩) (x20q : vsx20[2]? = some (.str filex20 tfx20)) (x20r : ((P.main.file : Str) == filex20) = true) (x20s : K.lookup ccx20 = some ⟨clx20, cldx20, .cell (some (.ref Cx20)), cslx20⟩)
    {Cx21 fIx21 Nx21 cdax21 ccx21 : Addr} {nmx21 qx21 : Str} {bsx21 subx21 : List Value} {snx21 : List Str} {abx21 : Bool} {colx21 : Option Bool} {ddx21 odx21 anx21 cddx21 cldx21 : Option Addr} {m0x21 m1x21 m2x21 m3x21 m5x21 : Option Value} {ocx21 docx21 pmx21 ctx21 cclx21 clx21 : Value} {oslx21 ccsx21 cslx21 : Array (Option Value)} {vsx21 : Array Value} {filex21 : Str} {tfx21 : Tok}
    (x21a : PySem.W.nsIn K mainGlobals "NoCommand" = some (some (.ref Cx21))) (x21b : K.lookup Cx21 = some (excClassObj nmx21 qx21 Cx21 Nx21 bsx21 [.ref Ap, .type "ValueError", .type "Exception", .type "BaseException", .type "object"] true snx21 subx21 abx21 colx21 ddx21 m0x21 m1x21 m2x21 m3x21 m5x21 "ValueError.__new__")) (x21c : PySem.W.ks_superIn K Cx21 Cx21 "__init__" = some (some (.builtin "ValueError.__init__"))) (x21d : PySem.W.findIn K (.ref Cx21) "__setattr__" = some (some (.builtin "object.__setattr__"))) (x21e : PySem.W.findIn K (.ref Cx21) "__getattribute__" = some (some (.builtin "BaseException.__getattribute__"))) (x21f : PySem.W.findIn K (.ref Cx21) "__getattr__" = some none) (x21g : PySem.W.findIn K (.ref Cx21) "__class__" = some (some (.builtin "object.__class__"))) (x21i : PySem.W.findIn K (.ref Cx21) "__init__" = some (some (.ref fIx21))) (x21j : PySem.W.typeIn K (.ref fIx21) = some (.type "function")) (x21k : K.lookup fIx21 = some ⟨ocx21, odx21, .func (PySem.W.ksFn "__init__" "NoCommand.__init__" (eA ⟨105, 17, 105, 21⟩ (([] : List Str).zip ([] : List Pos))) (eB ⟨106, 8, 106, 13⟩ ⟨106, 8, 106, 15⟩ ⟨106, 8, 106, 24⟩ ⟨106, 8, 106, 26⟩ ⟨106, 8, 106, 26⟩ (([] : List Str).zip ([] : List (Pos × PP)))) (eS []) .none .none docx21 pmx21 anx21 (.ref cdax21) ctx21 ccx21), oslx21⟩) (x21l : PySem.W.codeIn K (.ref cdax21) "NoCommand.__init__" = true) (x21m : PySem.W.keepIn K (.ref Cx21) = true) (x21n : PySem.W.typeIn K (.ref Cx21) = some (.type "type")) (x21o : PySem.W.hasDictIn K Cx21 = true) (x21p : K.lookup cdax21 = some ⟨cclx21, cddx21, .fields vsx21, ccsx21⟩) (x21q : vsx21[2]? = some (.str filex21 tfx21)) (x21r : ((P.main.file : Str) == filex21) = true) (x21s : K.lookup ccx21 = some ⟨clx21, cldx21, .cell (some (.ref Cx21)), cslx21⟩)
    (hnd : (Ap :: ([Cx0, Cx1, Cx2, Cx3, Cx4, Cx5, Cx6, Cx7, Cx8, Cx9, Cx10, Cx11, Cx12, Cx13, Cx14, Cx15, Cx16, Cx17, Cx18, Cx19, Cx20, Cx21] : List Addr)).Nodup)
    : ∃ fd : FuncData, (∀ (s : Shared) (v : Value), BindsTo s fd ⟨[v], []⟩ [("_law_script", v)]) ∧ ∀ base : Heap, K.In base → base.Ns mainGlobals mg → FnG P w K mg base CX0 6 fa fd ["_law_script"] (spLaw K) := by
  have E_Wrong : Made P K mg Ap "Wrong" ["place"] Cx0 fIx0 := mk_err X G eop z_super ehn eht ptop (by decide +kernel) (by decide +kernel) (by decide) rfl rfl (fun _ _ us hl => match us, hl with | [_], _ => .of_eq rfl) x0a x0b x0c x0d x0e x0f x0g (fun f hf => by cases List.mem_singleton.mp hf; exact x0h0) x0i x0j x0k x0l x0m x0n x0o x0p x0q x0r x0s
  have E_NoName : Made P K mg Ap "NoName" ["name"] Cx1 fIx1 := mk_err X G eop z_super ehn eht ptop (by decide +kernel) (by decide +kernel) (by decide) rfl rfl (fun _ _ us hl => match us, hl with | [_], _ => .of_eq rfl) x1a x1b x1c x1d x1e x1f x1g (fun f hf => by cases List.mem_singleton.mp hf; exact x1h0) x1i x1j x1k x1l x1m x1n x1o x1p x1q x1r x1s
  have E_BadKind : Made P K mg Ap "BadKind" ["name"] Cx2 fIx2 := mk_err X G eop z_super ehn eht ptop (by decide +kernel) (by decide +kernel) (by decide) rfl rfl (fun _ _ us hl => match us, hl with | [_], _ => .of_eq rfl) x2a x2b x2c x2d x2e x2f x2g (fun f hf => by cases List.mem_singleton.mp hf; exact x2h0) x2i x2j x2k x2l x2m x2n x2o x2p x2q x2r x2s
  have E_NoPlace : Made P K mg Ap "NoPlace" ["place"] Cx3 fIx3 := mk_err X G eop z_super ehn eht ptop (by decide +kernel) (by decide +kernel) (by decide) rfl rfl (fun _ _ us hl => match us, hl with | [_], _ => .of_eq rfl) x3a x3b x3c x3d x3e x3f x3g (fun f hf => by cases List.mem_singleton.mp hf; exact x3h0) x3i x3j x3k x3l x3m x3n x3o x3p x3q x3r x3s
  have E_NoWay : Made P K mg Ap "NoWay" ["index"] Cx4 fIx4 := mk_err X G eop z_super ehn eht ptop (by decide +kernel) (by decide +kernel) (by decide) rfl rfl (fun _ _ us hl => match us, hl with | [_], _ => .of_eq rfl) x4a x4b x4c x4d x4e x4f x4g (fun f hf => by cases List.mem_singleton.mp hf; exact x4h0) x4i x4j x4k x4l x4m x4n x4o x4p x4q x4r x4s
  have E_NoProc : Made P K mg Ap "NoProc" ["name"] Cx5 fIx5 := mk_err X G eop z_super ehn eht ptop (by decide +kernel) (by decide +kernel) (by decide) rfl rfl (fun _ _ us hl => match us, hl with | [_], _ => .of_eq rfl) x5a x5b x5c x5d x5e x5f x5g (fun f hf => by cases List.mem_singleton.mp hf; exact x5h0) x5i x5j x5k x5l x5m x5n x5o x5p x5q x5r x5s
  have E_NotFar : Made P K mg Ap "NotFar" ["name"] Cx6 fIx6 := mk_err X G eop z_super ehn eht ptop (by decide +kernel) (by decide +kernel) (by decide) rfl rfl (fun _ _ us hl => match us, hl with | [_], _ => .of_eq rfl) x6a x6b x6c x6d x6e x6f x6g (fun f hf => by cases List.mem_singleton.mp hf; exact x6h0) x6i x6j x6k x6l x6m x6n x6o x6p x6q x6r x6s
  have E_BadRow : Made P K mg Ap "BadRow" ["row"] Cx7 fIx7 := mk_err X G eop z_super ehn eht ptop (by decide +kernel) (by decide +kernel) (by decide) rfl rfl (fun _ _ us hl => match us, hl with | [_], _ => .of_eq rfl) x7a x7b x7c x7d x7e x7f x7g (fun f hf => by cases List.mem_singleton.mp hf; exact x7h0) x7i x7j x7k x7l x7m x7n x7o x7p x7q x7r x7s
  have E_NotSo : Made P K mg Ap "NotSo" ["row"] Cx8 fIx8 := mk_err X G eop z_super ehn eht ptop (by decide +kernel) (by decide +kernel) (by decide) rfl rfl (fun _ _ us hl => match us, hl with | [_], _ => .of_eq rfl) x8a x8b x8c x8d x8e x8f x8g (fun f hf => by cases List.mem_singleton.mp hf; exact x8h0) x8i x8j x8k x8l x8m x8n x8o x8p x8q x8r x8s
  have E_TooMany : Made P K mg Ap "TooMany" ["most"] Cx9 fIx9 := mk_err X G eop z_super ehn eht ptop (by decide +kernel) (by decide +kernel) (by decide) rfl rfl (fun _ _ us hl => match us, hl with | [_], _ => .of_eq rfl) x9a x9b x9c x9d x9e x9f x9g (fun f hf => by cases List.mem_singleton.mp hf; exact x9h0) x9i x9j x9k x9l x9m x9n x9o x9p x9q x9r x9s
  have E_NoEntry : Made P K mg Ap "NoEntry" ["many"] Cx10 fIx10 := mk_err X G eop z_super ehn eht ptop (by decide +kernel) (by decide +kernel) (by decide) rfl rfl (fun _ _ us hl => match us, hl with | [_], _ => .of_eq rfl) x10a x10b x10c x10d x10e x10f x10g (fun f hf => by cases List.mem_singleton.mp hf; exact x10h0) x10i x10j x10k x10l x10m x10n x10o x10p x10q x10r x10s
  have E_Full : Made P K mg Ap "Full" ["most"] Cx11 fIx11 := mk_err X G eop z_super ehn eht ptop (by decide +kernel) (by decide +kernel) (by decide) rfl rfl (fun _ _ us hl => match us, hl with | [_], _ => .of_eq rfl) x11a x11b x11c x11d x11e x11f x11g (fun f hf => by cases List.mem_singleton.mp hf; exact x11h0) x11i x11j x11k x11l x11m x11n x11o x11p x11q x11r x11s
  have E_Refused : Made P K mg Ap "Refused" ["deed"] Cx12 fIx12 := mk_err X G eop z_super ehn eht ptop (by decide +kernel) (by decide +kernel) (by decide) rfl rfl (fun _ _ us hl => match us, hl with | [_], _ => .of_eq rfl) x12a x12b x12c x12d x12e x12f x12g (fun f hf => by cases List.mem_singleton.mp hf; exact x12h0) x12i x12j x12k x12l x12m x12n x12o x12p x12q x12r x12s
  have E_BadCall : Made P K mg Ap "BadCall" ["name", "index"] Cx13 fIx13 := mk_err X G eop z_super ehn eht ptop (by decide +kernel) (by decide +kernel) (by decide) rfl rfl (fun _ _ us hl => match us, hl with | [_, _], _ => .of_eq rfl) x13a x13b x13c x13d x13e x13f x13g (fun f hf => by rcases List.mem_cons.mp hf with rfl | hf; exact x13h0; cases List.mem_singleton.mp hf; exact x13h1) x13i x13j x13k x13l x13m x13n x13o x13p x13q x13r x13s
  have E_NoStart : Made P K mg Ap "NoStart" [] Cx14 fIx14 := mk_err X G eop z_super ehn eht ptop (by decide +kernel) (by decide +kernel) (by decide) rfl rfl (fun _ _ us hl => match us, hl with | [], _ => .of_eq rfl) x14a x14b x14c x14d x14e x14f x14g (fun f hf => by cases hf) x14i x14j x14k x14l x14m x14n x14o x14p x14q x14r x14s
  have E_Unlike : Made P K mg Ap "Unlike" [] Cx15 fIx15 := mk_err X G eop z_super ehn eht ptop (by decide +kernel) (by decide +kernel) (by decide) rfl rfl (fun _ _ us hl => match us, hl with | [], _ => .of_eq rfl) x15a x15b x15c x15d x15e x15f x15g (fun f hf => by cases hf) x15i x15j x15k x15l x15m x15n x15o x15p x15q x15r x15s
  have E_Never : Made P K mg Ap "Never" [] Cx16 fIx16 := mk_err X G eop z_super ehn eht ptop (by decide +kernel) (by decide +kernel) (by decide) rfl rfl (fun _ _ us hl => match us, hl with | [], _ => .of_eq rfl) x16a x16b x16c x16d x16e x16f x16g (fun f hf => by cases hf) x16i x16j x16k x16l x16m x16n x16o x16p x16q x16r x16s
  have E_Endless : Made P K mg Ap "Endless" [] Cx17 fIx17 := mk_err X G eop z_super ehn eht ptop (by decide +kernel) (by decide +kernel) (by decide) rfl rfl (fun _ _ us hl => match us, hl with | [], _ => .of_eq rfl) x17a x17b x17c x17d x17e x17f x17g (fun f hf => by cases hf) x17i x17j x17k x17l x17m x17n x17o x17p x17q x17r x17s
  have E_NoDeed : Made P K mg Ap "NoDeed" [] Cx18 fIx18 := mk_err X G eop z_super ehn eht ptop (by decide +kernel) (by decide +kernel) (by decide) rfl rfl (fun _ _ us hl => match us, hl with | [], _ => .of_eq rfl) x18a x18b x18c x18d x18e x18f x18g (fun f hf => by cases hf) x18i x18j x18k x18l x18m x18n x18o x18p x18q x18r x18s
  have E_Nothing : Made P K mg Ap "Nothing" [] Cx19 fIx19 := mk_err X G eop z_super ehn eht ptop (by decide +kernel) (by decide +kernel) (by decide) rfl rfl (fun _ _ us hl => match us, hl with | [], _ => .of_eq rfl) x19a x19b x19c x19d x19e x19f x19g (fun f hf => by cases hf) x19i x19j x19k x19l x19m x19n x19o x19p x19q x19r x19s
  have E_NoText : Made P K mg Ap "NoText" [] Cx20 fIx20 := mk_err X G eop z_super ehn eht ptop (by decide +kernel) (by decide +kernel) (by decide) rfl rfl (fun _ _ us hl => match us, hl with | [], _ => .of_eq rfl) x20a x20b x20c x20d x20e x20f x20g (fun f hf => by cases hf) x20i x20j x20k x20l x20m x20n x20o x20p x20q x20r x20s
  have E_NoCommand : Made P K mg Ap "NoCommand" [] Cx21 fIx21 := mk_err X G eop z_super ehn eht ptop (by decide +kernel) (by decide +kernel) (by decide) rfl rfl (fun _ _ us hl => match us, hl with | [], _ => .of_eq rfl) x21a x21b x21c x21d x21e x21f x21g (fun f hf => by cases hf) x21i x21j x21k x21l x21m x21n x21o x21p x21q x21r x21s
  have g_law_bag := PySem.W.mg_of X G a0
  have F_law_bag := fun_mk (st := s_law_bag) l0 c0 k0
  have b_law_bag := F_law_bag.binds (ps := ["_law_script"]) fun _ _ _ _ _ _ us hl => match us, hl with | [_], _ => rfl
  have g_law_take := PySem.W.mg_of X G a1
  have F_law_take := fun_mk (st := s_law_take) l1 c1 k1
  have b_law_take := F_law_take.binds (ps := ["_law_bag_here", "_law_many"]) fun _ _ _ _ _ _ us hl => match us, hl with | [_, _], _ => rfl
  have g_law_alike := PySem.W.mg_of X G a2
  have F_law_alike := fun_mk (st := s_law_alike) l2 c2 k2
  have b_law_alike := F_law_alike.binds (ps := ["_law_found", "_law_due"]) fun _ _ _ _ _ _ us hl => match us, hl with | [_, _], _ => rfl
  have g_law_odd := PySem.W.mg_of X G a3
  have F_law_odd := fun_mk (st := s_law_odd) l3 c3 k3
  have b_law_odd := F_law_odd.binds (ps := ["_law_bag_here", "_law_name"]) fun _ _ _ _ _ _ us hl => match us, hl with | [_, _], _ => rfl
  have g_law_raise_one := PySem.W.mg_of X G a4
  have F_law_raise_one := fun_mk (st := s_law_raise_one) l4 c4 k4
  have b_law_raise_one := F_law_raise_one.binds (ps := ["_law_k", "_law_one", "_law_two"]) fun _ _ _ _ _ _ us hl => match us, hl with | [_, _, _], _ => rfl
  have g_law_raise_none := PySem.W.mg_of X G a5
  have F_law_raise_none := fun_mk (st := s_law_raise_none) l5 c5 k5
  have b_law_raise_none := F_law_raise_none.binds (ps := ["_law_k"]) fun _ _ _ _ _ _ us hl => match us, hl with | [_], _ => rfl
  have g_law_classes := PySem.W.mg_of X G a6
  have F_law_classes := fun_mk (st := s_law_classes) l6 c6 k6
  have b_law_classes := F_law_classes.binds (ps := ["_law_e"]) fun _ _ _ _ _ _ us hl => match us, hl with | [_], _ => rfl
  have g_law_fields := PySem.W.mg_of X G a7
  have F_law_fields := fun_mk (st := s_law_fields) l7 c7 k7
  have b_law_fields := F_law_fields.binds (ps := ["_law_k", "_law_e"]) fun _ _ _ _ _ _ us hl => match us, hl with | [_, _], _ => rfl
  have g_law_taken := PySem.W.mg_of X G a8
  have F_law_taken := fun_mk (st := s_law_taken) l8 c8 k8
  have b_law_taken := F_law_taken.binds (ps := ["_law_k", "_law_one", "_law_two"]) fun _ _ _ _ _ _ us hl => match us, hl with | [_, _, _], _ => rfl
  have g_law := PySem.W.mg_of X G a9
  have F_law := fun_mk (st := s_law) l9 c9 k9
  have b_law := F_law.binds (ps := ["_law_script"]) fun _ _ _ _ _ _ us hl => match us, hl with | [_], _ => rfl
  have e := hfa.symm.trans g_law
  cases e
  have B : Blt mg := ⟨PySem.W.mg_none_of X G z_len, PySem.W.mg_none_of X G z_int, PySem.W.mg_none_of X G z_abs, PySem.W.mg_none_of X G z_range, PySem.W.mg_none_of X G z_repr, PySem.W.mg_none_of X G z_isinstance, PySem.W.mg_none_of X G z_str, PySem.W.mg_none_of X G z_bool, PySem.W.mg_none_of X G z_all⟩
  have M : Fam P K mg Ap (fun k => ([Cx0, Cx1, Cx2, Cx3, Cx4, Cx5, Cx6, Cx7, Cx8, Cx9, Cx10, Cx11, Cx12, Cx13, Cx14, Cx15, Cx16, Cx17, Cx18, Cx19, Cx20, Cx21] : List Addr).getD k 0) (fun k => ([fIx0, fIx1, fIx2, fIx3, fIx4, fIx5, fIx6, fIx7, fIx8, fIx9, fIx10, fIx11, fIx12, fIx13, fIx14, fIx15, fIx16, fIx17, fIx18, fIx19, fIx20, fIx21] : List Addr).getD k 0) :=
    ⟨(fun k hk => match k, hk with | 0, _ => E_Wrong.txt | 1, _ => E_NoName.txt | 2, _ => E_BadKind.txt | 3, _ => E_NoPlace.txt | 4, _ => E_NoWay.txt | 5, _ => E_NoProc.txt | 6, _ => E_NotFar.txt | 7, _ => E_BadRow.txt | 8, _ => E_NotSo.txt | 9, _ => E_TooMany.txt | 10, _ => E_NoEntry.txt | 11, _ => E_Full.txt | 12, _ => E_Refused.txt | 13, _ => E_BadCall.txt | 14, _ => E_NoStart.txt | 15, _ => E_Unlike.txt | 16, _ => E_Never.txt | 17, _ => E_Endless.txt | 18, _ => E_NoDeed.txt | 19, _ => E_Nothing.txt | 20, _ => E_NoText.txt | 21, _ => E_NoCommand.txt | m + 22, hk => absurd hk (by omega)), (fun k hk => match k, hk with | 0, _ => E_Wrong.is | 1, _ => E_NoName.is | 2, _ => E_BadKind.is | 3, _ => E_NoPlace.is | 4, _ => E_NoWay.is | 5, _ => E_NoProc.is | 6, _ => E_NotFar.is | 7, _ => E_BadRow.is | 8, _ => E_NotSo.is | 9, _ => E_TooMany.is | 10, _ => E_NoEntry.is | 11, _ => E_Full.is | 12, _ => E_Refused.is | 13, _ => E_BadCall.is | 14, _ => E_NoStart.is | 15, _ => E_Unlike.is | 16, _ => E_Never.is | 17, _ => E_Endless.is | 18, _ => E_NoDeed.is | 19, _ => E_Nothing.is | 20, _ => E_NoText.is | 21, _ => E_NoCommand.is | m + 22, hk => absurd hk (by omega)), (fun k hk => match k, hk with | 0, _ => E_Wrong.mro | 1, _ => E_NoName.mro | 2, _ => E_BadKind.mro | 3, _ => E_NoPlace.mro | 4, _ => E_NoWay.mro | 5, _ => E_NoProc.mro | 6, _ => E_NotFar.mro | 7, _ => E_BadRow.mro | 8, _ => E_NotSo.mro | 9, _ => E_TooMany.mro | 10, _ => E_NoEntry.mro | 11, _ => E_Full.mro | 12, _ => E_Refused.mro | 13, _ => E_BadCall.mro | 14, _ => E_NoStart.mro | 15, _ => E_Unlike.mro | 16, _ => E_Never.mro | 17, _ => E_Endless.mro | 18, _ => E_NoDeed.mro | 19, _ => E_Nothing.mro | 20, _ => E_NoText.mro | 21, _ => E_NoCommand.mro | m + 22, hk => absurd hk (by omega)),
     fun i j hi hj e => inj_of hnd (by simpa using hi) (by simpa using hj) e, fun k hk e => ap_of hnd (by simpa using hk) e,
     PySem.W.mg_of X G hA1, hA2, hA3, hA4⟩
  have gV := PySem.W.mg_none_of X G z_ValueError
  have gL := PySem.W.mg_none_of X G z_LookupError
  refine ⟨PySem.W.fnOf "law" "law" (defArgs s_law) (defBody s_law) (defScope s_law) .none kV9 dc9 pm9 an9 cd9 ct9, fun s v => .of_eq rfl, fun base _ _ => ?_⟩
  have C_bag : Cl P w K mg base 1 "_law_bag" ["_law_script"] (spBag K) := ⟨_, _, ok_law_bag F_law_bag B, g_law_bag, k0, b_law_bag⟩
  have C_take : Cl P w K mg base 1 "_law_take" ["_law_bag_here", "_law_many"] spTake := ⟨_, _, FnG.of (ok_take F_law_take B), g_law_take, k1, b_law_take⟩
  have C_alike : Cl P w K mg base 1 "_law_alike" ["_law_found", "_law_due"] (spAlikeD K) := ⟨_, _, ok_law_alike F_law_alike B, g_law_alike, k2, b_law_alike⟩
  have C_odd : Cl P w K mg base 2 "_law_odd" ["_law_bag_here", "_law_name"] (spOdd K) := ⟨_, _, ok_law_odd F_law_odd B C_take, g_law_odd, k3, b_law_odd⟩
  have C_1 : ClN P w K mg base 3 "_law_raise_one" ["_law_k", "_law_one", "_law_two"] (spR1 _) := ⟨_, _, ok_raise_one F_law_raise_one M, g_law_raise_one, k4, b_law_raise_one⟩
  have C_0 : ClN P w K mg base 3 "_law_raise_none" ["_law_k"] (spR0 _) := ⟨_, _, ok_raise_none F_law_raise_none M, g_law_raise_none, k5, b_law_raise_none⟩
  have C_c : ClE P w K mg base 3 "_law_classes" ["_law_e"] (spCla _) := ⟨_, _, ok_classes F_law_classes B gV gL M, g_law_classes, k6, b_law_classes⟩
  have C_f : ClE P w K mg base 3 "_law_fields" ["_law_k", "_law_e"] (spFld _) := ⟨_, _, ok_fields F_law_fields B M, g_law_fields, k7, b_law_fields⟩
  have C_t : Cl P w K mg base 5 "_law_taken" ["_law_k", "_law_one", "_law_two"] spTkn := ⟨_, _, ok_taken F_law_taken M C_1 C_0 C_c C_f, g_law_taken, k8, b_law_taken⟩
  exact ok_law F_law B C_bag C_take C_odd C_alike C_t
theorem walk {l : PySem.W.OpenLaw} {q : Program} {loose : List Str} {XP : (Str → Option Value) → Heap → Prop} {YP : World → Heap → Prop} {d : DefRec} {K : Params → PySem.W.Frag} (hn : l.most = some 63) (hdf : d.params.defaults = [])
    (hY : ∀ (w : World) (h : Heap), YP w h → (K w.params).In h)
    (F : ∀ (w : World) (mg : Str → Option Value) (fa : Addr) (h : Heap), (K w.params).In h → h.Ns mainGlobals mg → mg d.name = some (.ref fa) →
      ∃ fd : FuncData, (∀ (s : Shared) (u : Value), BindsTo s fd ⟨[u], []⟩ [("_law_script", u)]) ∧ ∀ base : Heap, (K w.params).In base → base.Ns mainGlobals mg → FnG l.prog w (K w.params) mg base CX0 6 fa fd ["_law_script"] (spLaw (K w.params))) :
    PySem.W.WalkO q loose XP YP l.row.toRowW d [] (fun f vs => PySem.call f vs) :=
  walk_g (n := 63) (k := 6) (x := "_law_script") (sp := fun w => spLaw (K w.params)) hn (by decide) hdf ⟨rfl, by decide, by decide⟩ hY F fun _ _ a ns hl _ _ hS => ⟨a, ns, rfl, hS, hl, fun _ => rfl⟩
end Kk

open PySem PySem.W PyProof.Rows
set_option maxRecDepth 100000 in
set_option maxHeartbeats 0 in
theorem PySem.Challenge.cw_farapart_k12_errors_kept_holds : PySem.Challenge.rw_farapart_k12_errors_kept.Holds := by
  w_on; o_law; k_head; (case hw => w_witness2)
  k_fill
  refine Kk.walk (l := PySem.Challenge.rw_farapart_k12_errors_kept) rfl rfl (fun w h Y => PySem.W.kIn_of Y) ?F
  case F =>
    intro w mg fa h KX G hmg
    refine' Kk.all_mk KX G hmg ?ptop ?a0 ?l0 ?c0 ?k0 ?a1 ?l1 ?c1 ?k1 ?a2 ?l2 ?c2 ?k2 ?a3 ?l3 ?c3 ?k3 ?a4 ?l4 ?c4 ?k4 ?a5 ?l5 ?c5 ?k5 ?a6 ?l6 ?c6 ?k6 ?a7 ?l7 ?c7 ?k7 ?a8 ?l8 ?c8 ?k8 ?a9 ?l9 ?c9 ?k9 ?z_len ?z_int ?z_abs ?z_range ?z_repr ?z_isinstance ?z_str ?z_bool ?z_all ?z_super ?z_ValueError ?z_LookupError ?eop ?ehn ?eht ?hA1 ?hA2 ?hA3 ?hA4 ?x0a ?x0b ?x0c ?x0d ?x0e ?x0f ?x0g ?x0h0 ?x0i ?x0j ?x0k ?x0l ?x0m ?x0n ?x0o ?x0p ?x0q ?x0r ?x0s ?x1a ?x1b ?x1c ?x1d ?x1e ?x1f ?x1g ?x1h0 ?x1i ?x1j ?x1k ?x1l ?x1m ?x1n ?x1o ?x1p ?x1q ?x1r ?x1s ?x2a ?x2b ?x2c ?x2d ?x2e ?x2f ?x2g ?x2h0 ?x2i ?x2j ?x2k ?x2l ?x2m ?x2n ?x2o ?x2p ?x2q ?x2r ?x2s ?x3a ?x3b ?x3c ?x3d ?x3e ?x3f ?x3g ?x3h0 ?x3i ?x3j ?x3k ?x3l ?x3m ?x3n ?x3o ?x3p ?x3q ?x3r ?x3s ?x4a ?x4b ?x4c ?x4d ?x4e ?x4f ?x4g ?x4h0 ?x4i ?x4j ?x4k ?x4l ?x4m ?x4n ?x4o ?x4p ?x4q ?x4r ?x4s ?x5a ?x5b ?x5c ?x5d ?x5e ?x5f ?x5g ?x5h0 ?x5i ?x5j ?x5k ?x5l ?x5m ?x5n ?x5o ?x5p ?x5q ?x5r ?x5s ?x6a ?x6b ?x6c ?x6d ?x6e ?x6f ?x6g ?x6h0 ?x6i ?x6j ?x6k ?x6l ?x6m ?x6n ?x6o ?x6p ?x6q ?x6r ?x6s ?x7a ?x7b ?x7c ?x7d ?x7e ?x7f ?x7g ?x7h0 ?x7i ?x7j ?x7k ?x7l ?x7m ?x7n ?x7o ?x7p ?x7q ?x7r ?x7s ?x8a ?x8b ?x8c ?x8d ?x8e ?x8f ?x8g ?x8h0 ?x8i ?x8j ?x8k ?x8l ?x8m ?x8n ?x8o ?x8p ?x8q ?x8r ?x8s ?x9a ?x9b ?x9c ?x9d ?x9e ?x9f ?x9g ?x9h0 ?x9i ?x9j ?x9k ?x9l ?x9m ?x9n ?x9o ?x9p ?x9q ?x9r ?x9s ?x10a ?x10b ?x10c ?x10d ?x10e ?x10f ?x10g ?x10h0 ?x10i ?x10j ?x10k ?x10l ?x10m ?x10n ?x10o ?x10p ?x10q ?x10r ?x10s ?x11a ?x11b ?x11c ?x11d ?x11e ?x11f ?x11g ?x11h0 ?x11i ?x11j ?x11k ?x11l ?x11m ?x11n ?x11o ?x11p ?x11q ?x11r ?x11s ?x12a ?x12b ?x12c ?x12d ?x12e ?x12f ?x12g ?x12h0 ?x12i ?x12j ?x12k ?x12l ?x12m ?x12n ?x12o ?x12p ?x12q ?x12r ?x12s ?x13a ?x13b ?x13c ?x13d ?x13e ?x13f ?x13g ?x13h0 ?x13h1 ?x13i ?x13j ?x13k ?x13l ?x13m ?x13n ?x13o ?x13p ?x13q ?x13r ?x13s ?x14a ?x14b ?x14c ?x14d ?x14e ?x14f ?x14g ?x14i ?x14j ?x14k ?x14l ?x14m ?x14n ?x14o ?x14p ?x14q ?x14r ?x14s ?x15a ?x15b ?x15c ?x15d ?x15e ?x15f ?x15g ?x15i ?x15j ?x15k ?x15l ?x15m ?x15n ?x15o ?x15p ?x15q ?x15r ?x15s ?x16a ?x16b ?x16c ?x16d ?x16e ?x16f ?x16g ?x16i ?x16j ?x16k ?x16l ?x16m ?x16n ?x16o ?x16p ?x16q ?x16r ?x16s ?x17a ?x17b ?x17c ?x17d ?x17e ?x17f ?x17g ?x17i ?x17j ?x17k ?x17l ?x17m ?x17n ?x17o ?x17p ?x17q ?x17r ?x17s ?x18a ?x18b ?x18c ?x18d ?x18e ?x18f ?x18g ?x18i ?x18j ?x18k ?x18l ?x18m ?x18n ?x18o ?x18p ?x18q ?x18r ?x18s ?x19a ?x19b ?x19c ?x19d ?x19e ?x19f ?x19g ?x19i ?x19j ?x19k ?x19l ?x19m ?x19n ?x19o ?x19p ?x19q ?x19r ?x19s ?x20a ?x20b ?x20c ?x20d ?x20e ?x20f ?x20g ?x20i ?x20j ?x20k ?x20l ?x20m ?x20n ?x20o ?x20p ?x20q ?x20r ?x20s ?x21a ?x21b ?x21c ?x21d ?x21e ?x21f ?x21g ?x21i ?x21j ?x21k ?x21l ?x21m ?x21n ?x21o ?x21p ?x21q ?x21r ?x21s ?hnd
    (case ptop => first | rfl | decide | k_is)
    (case a0 => first | k_is | rfl)
    (case l0 => first | k_is | rfl)
    (case c0 => first | k_is | rfl)
    (case k0 => first | k_is | rfl)
    (case a1 => first | k_is | rfl)
    (case l1 => first | k_is | rfl)
    (case c1 => first | k_is | rfl)
    (case k1 => first | k_is | rfl)
    (case a2 => first | k_is | rfl)
    (case l2 => first | k_is | rfl)
    (case c2 => first | k_is | rfl)
    (case k2 => first | k_is | rfl)
    (case a3 => first | k_is | rfl)
    (case l3 => first | k_is | rfl)
    (case c3 => first | k_is | rfl)
    (case k3 => first | k_is | rfl)
    (case a4 => first | k_is | rfl)
    (case l4 => first | k_is | rfl)
    (case c4 => first | k_is | rfl)
    (case k4 => first | k_is | rfl)
    (case a5 => first | k_is | rfl)
    (case l5 => first | k_is | rfl)
    (case c5 => first | k_is | rfl)
    (case k5 => first | k_is | rfl)
    (case a6 => first | k_is | rfl)
    (case l6 => first | k_is | rfl)
    (case c6 => first | k_is | rfl)
    (case k6 => first | k_is | rfl)
    (case a7 => first | k_is | rfl)
    (case l7 => first | k_is | rfl)
    (case c7 => first | k_is | rfl)
    (case k7 => first | k_is | rfl)
    (case a8 => first | k_is | rfl)
    (case l8 => first | k_is | rfl)
    (case c8 => first | k_is | rfl)
    (case k8 => first | k_is | rfl)
    (case a9 => first | k_is | rfl)
    (case l9 => first | k_is | rfl)
    (case c9 => first | k_is | rfl)
    (case k9 => first | k_is | rfl)
    (case z_len => first | k_is | rfl)
    (case z_int => first | k_is | rfl)
    (case z_abs => first | k_is | rfl)
    (case z_range => first | k_is | rfl)
    (case z_repr => first | k_is | rfl)
    (case z_isinstance => first | k_is | rfl)
    (case z_str => first | k_is | rfl)
    (case z_bool => first | k_is | rfl)
    (case z_all => first | k_is | rfl)
    (case z_super => first | k_is | rfl)
    (case z_ValueError => first | k_is | rfl)
    (case z_LookupError => first | k_is | rfl)
    (case eop => first | k_is | rfl)
    (case ehn => first | k_is | rfl)
    (case eht => first | k_is | rfl)
    (case hA1 => first | k_is | rfl)
    (case hA2 => first | k_is | rfl)
    (case hA3 => first | k_is | rfl)
    (case hA4 => first | k_is | rfl)
    (case x0a => first | k_is | rfl)
    (case x0b => first | k_is | rfl)
    (case x0c => first | k_is | rfl)
    (case x0d => first | k_is | rfl)
    (case x0e => first | k_is | rfl)
    (case x0f => first | k_is | rfl)
    (case x0g => first | k_is | rfl)
    (case x0h0 => first | k_is | rfl)
    (case x0i => first | k_is | rfl)
    (case x0j => first | k_is | rfl)
    (case x0k => first | k_is | rfl)
    (case x0l => first | k_is | rfl)
    (case x0m => first | k_is | rfl)
    (case x0n => first | k_is | rfl)
    (case x0o => first | k_is | rfl)
    (case x0p => first | k_is | rfl)
    (case x0q => first | rfl | decide | k_is)
    (case x0r => first | rfl | decide | k_is)
    (case x0s => first | k_is | rfl)
    (case x1a => first | k_is | rfl)
    (case x1b => first | k_is | rfl)
    (case x1c => first | k_is | rfl)
    (case x1d => first | k_is | rfl)
    (case x1e => first | k_is | rfl)
    (case x1f => first | k_is | rfl)
    (case x1g => first | k_is | rfl)
    (case x1h0 => first | k_is | rfl)
    (case x1i => first | k_is | rfl)
    (case x1j => first | k_is | rfl)
    (case x1k => first | k_is | rfl)
    (case x1l => first | k_is | rfl)
    (case x1m => first | k_is | rfl)
    (case x1n => first | k_is | rfl)
    (case x1o => first | k_is | rfl)
    (case x1p => first | k_is | rfl)
    (case x1q => first | rfl | decide | k_is)
    (case x1r => first | rfl | decide | k_is)
    (case x1s => first | k_is | rfl)
    (case x2a => first | k_is | rfl)
    (case x2b => first | k_is | rfl)
    (case x2c => first | k_is | rfl)
    (case x2d => first | k_is | rfl)
    (case x2e => first | k_is | rfl)
    (case x2f => first | k_is | rfl)
    (case x2g => first | k_is | rfl)
    (case x2h0 => first | k_is | rfl)
    (case x2i => first | k_is | rfl)
    (case x2j => first | k_is | rfl)
    (case x2k => first | k_is | rfl)
    (case x2l => first | k_is | rfl)
    (case x2m => first | k_is | rfl)
    (case x2n => first | k_is | rfl)
    (case x2o => first | k_is | rfl)
    (case x2p => first | k_is | rfl)
    (case x2q => first | rfl | decide | k_is)
    (case x2r => first | rfl | decide | k_is)
    (case x2s => first | k_is | rfl)
    (case x3a => first | k_is | rfl)
    (case x3b => first | k_is | rfl)
    (case x3c => first | k_is | rfl)
    (case x3d => first | k_is | rfl)
    (case x3e => first | k_is | rfl)
    (case x3f => first | k_is | rfl)
    (case x3g => first | k_is | rfl)
    (case x3h0 => first | k_is | rfl)
    (case x3i => first | k_is | rfl)
    (case x3j => first | k_is | rfl)
    (case x3k => first | k_is | rfl)
    (case x3l => first | k_is | rfl)
    (case x3m => first | k_is | rfl)
    (case x3n => first | k_is | rfl)
    (case x3o => first | k_is | rfl)
    (case x3p => first | k_is | rfl)
    (case x3q => first | rfl | decide | k_is)
    (case x3r => first | rfl | decide | k_is)
    (case x3s => first | k_is | rfl)
    (case x4a => first | k_is | rfl)
    (case x4b => first | k_is | rfl)
    (case x4c => first | k_is | rfl)
    (case x4d => first | k_is | rfl)
    (case x4e => first | k_is | rfl)
    (case x4f => first | k_is | rfl)
    (case x4g => first | k_is | rfl)
    (case x4h0 => first | k_is | rfl)
    (case x4i => first | k_is | rfl)
    (case x4j => first | k_is | rfl)
    (case x4k => first | k_is | rfl)
    (case x4l => first | k_is | rfl)
    (case x4m => first | k_is | rfl)
    (case x4n => first | k_is | rfl)
    (case x4o => first | k_is | rfl)
    (case x4p => first | k_is | rfl)
    (case x4q => first | rfl | decide | k_is)
    (case x4r => first | rfl | decide | k_is)
    (case x4s => first | k_is | rfl)
    (case x5a => first | k_is | rfl)
    (case x5b => first | k_is | rfl)
    (case x5c => first | k_is | rfl)
    (case x5d => first | k_is | rfl)
    (case x5e => first | k_is | rfl)
    (case x5f => first | k_is | rfl)
    (case x5g => first | k_is | rfl)
    (case x5h0 => first | k_is | rfl)
    (case x5i => first | k_is | rfl)
    (case x5j => first | k_is | rfl)
    (case x5k => first | k_is | rfl)
    (case x5l => first | k_is | rfl)
    (case x5m => first | k_is | rfl)
    (case x5n => first | k_is | rfl)
    (case x5o => first | k_is | rfl)
    (case x5p => first | k_is | rfl)
    (case x5q => first | rfl | decide | k_is)
    (case x5r => first | rfl | decide | k_is)
    (case x5s => first | k_is | rfl)
    (case x6a => first | k_is | rfl)
    (case x6b => first | k_is | rfl)
    (case x6c => first | k_is | rfl)
    (case x6d => first | k_is | rfl)
    (case x6e => first | k_is | rfl)
    (case x6f => first | k_is | rfl)
    (case x6g => first | k_is | rfl)
    (case x6h0 => first | k_is | rfl)
    (case x6i => first | k_is | rfl)
    (case x6j => first | k_is | rfl)
    (case x6k => first | k_is | rfl)
    (case x6l => first | k_is | rfl)
    (case x6m => first | k_is | rfl)
    (case x6n => first | k_is | rfl)
    (case x6o => first | k_is | rfl)
    (case x6p => first | k_is | rfl)
    (case x6q => first | rfl | decide | k_is)
    (case x6r => first | rfl | decide | k_is)
    (case x6s => first | k_is | rfl)
    (case x7a => first | k_is | rfl)
    (case x7b => first | k_is | rfl)
    (case x7c => first | k_is | rfl)
    (case x7d => first | k_is | rfl)
    (case x7e => first | k_is | rfl)
    (case x7f => first | k_is | rfl)
    (case x7g => first | k_is | rfl)
    (case x7h0 => first | k_is | rfl)
    (case x7i => first | k_is | rfl)
    (case x7j => first | k_is | rfl)
    (case x7k => first | k_is | rfl)
    (case x7l => first | k_is | rfl)
    (case x7m => first | k_is | rfl)
    (case x7n => first | k_is | rfl)
    (case x7o => first | k_is | rfl)
    (case x7p => first | k_is | rfl)
    (case x7q => first | rfl | decide | k_is)
    (case x7r => first | rfl | decide | k_is)
    (case x7s => first | k_is | rfl)
    (case x8a => first | k_is | rfl)
    (case x8b => first | k_is | rfl)
    (case x8c => first | k_is | rfl)
    (case x8d => first | k_is | rfl)
    (case x8e => first | k_is | rfl)
    (case x8f => first | k_is | rfl)
    (case x8g => first | k_is | rfl)
    (case x8h0 => first | k_is | rfl)
    (case x8i => first | k_is | rfl)
    (case x8j => first | k_is | rfl)
    (case x8k => first | k_is | rfl)
    (case x8l => first | k_is | rfl)
    (case x8m => first | k_is | rfl)
    (case x8n => first | k_is | rfl)
    (case x8o => first | k_is | rfl)
    (case x8p => first | k_is | rfl)
    (case x8q => first | rfl | decide | k_is)
    (case x8r => first | rfl | decide | k_is)
    (case x8s => first | k_is | rfl)
    (case x9a => first | k_is | rfl)
    (case x9b => first | k_is | rfl)
    (case x9c => first | k_is | rfl)
    (case x9d => first | k_is | rfl)
    (case x9e => first | k_is | rfl)
    (case x9f => first | k_is | rfl)
    (case x9g => first | k_is | rfl)
    (case x9h0 => first | k_is | rfl)
    (case x9i => first | k_is | rfl)
    (case x9j => first | k_is | rfl)
    (case x9k => first | k_is | rfl)
    (case x9l => first | k_is | rfl)
    (case x9m => first | k_is | rfl)
    (case x9n => first | k_is | rfl)
    (case x9o => first | k_is | rfl)
    (case x9p => first | k_is | rfl)
    (case x9q => first | rfl | decide | k_is)
    (case x9r => first | rfl | decide | k_is)
    (case x9s => first | k_is | rfl)
    (case x10a => first | k_is | rfl)
    (case x10b => first | k_is | rfl)
    (case x10c => first | k_is | rfl)
    (case x10d => first | k_is | rfl)
    (case x10e => first | k_is | rfl)
    (case x10f => first | k_is | rfl)
    (case x10g => first | k_is | rfl)
    (case x10h0 => first | k_is | rfl)
    (case x10i => first | k_is | rfl)
    (case x10j => first | k_is | rfl)
    (case x10k => first | k_is | rfl)
    (case x10l => first | k_is | rfl)
    (case x10m => first | k_is | rfl)
    (case x10n => first | k_is | rfl)
    (case x10o => first | k_is | rfl)
    (case x10p => first | k_is | rfl)
    (case x10q => first | rfl | decide | k_is)
    (case x10r => first | rfl | decide | k_is)
    (case x10s => first | k_is | rfl)
    (case x11a => first | k_is | rfl)
    (case x11b => first | k_is | rfl)
    (case x11c => first | k_is | rfl)
    (case x11d => first | k_is | rfl)
    (case x11e => first | k_is | rfl)
    (case x11f => first | k_is | rfl)
    (case x11g => first | k_is | rfl)
    (case x11h0 => first | k_is | rfl)
    (case x11i => first | k_is | rfl)
    (case x11j => first | k_is | rfl)
    (case x11k => first | k_is | rfl)
    (case x11l => first | k_is | rfl)
    (case x11m => first | k_is | rfl)
    (case x11n => first | k_is | rfl)
    (case x11o => first | k_is | rfl)
    (case x11p => first | k_is | rfl)
    (case x11q => first | rfl | decide | k_is)
    (case x11r => first | rfl | decide | k_is)
    (case x11s => first | k_is | rfl)
    (case x12a => first | k_is | rfl)
    (case x12b => first | k_is | rfl)
    (case x12c => first | k_is | rfl)
    (case x12d => first | k_is | rfl)
    (case x12e => first | k_is | rfl)
    (case x12f => first | k_is | rfl)
    (case x12g => first | k_is | rfl)
    (case x12h0 => first | k_is | rfl)
    (case x12i => first | k_is | rfl)
    (case x12j => first | k_is | rfl)
    (case x12k => first | k_is | rfl)
    (case x12l => first | k_is | rfl)
    (case x12m => first | k_is | rfl)
    (case x12n => first | k_is | rfl)
    (case x12o => first | k_is | rfl)
    (case x12p => first | k_is | rfl)
    (case x12q => first | rfl | decide | k_is)
    (case x12r => first | rfl | decide | k_is)
    (case x12s => first | k_is | rfl)
    (case x13a => first | k_is | rfl)
    (case x13b => first | k_is | rfl)
    (case x13c => first | k_is | rfl)
    (case x13d => first | k_is | rfl)
    (case x13e => first | k_is | rfl)
    (case x13f => first | k_is | rfl)
    (case x13g => first | k_is | rfl)
    (case x13h0 => first | k_is | rfl)
    (case x13h1 => first | k_is | rfl)
    (case x13i => first | k_is | rfl)
    (case x13j => first | k_is | rfl)
    (case x13k => first | k_is | rfl)
    (case x13l => first | k_is | rfl)
    (case x13m => first | k_is | rfl)
    (case x13n => first | k_is | rfl)
    (case x13o => first | k_is | rfl)
    (case x13p => first | k_is | rfl)
    (case x13q => first | rfl | decide | k_is)
    (case x13r => first | rfl | decide | k_is)
    (case x13s => first | k_is | rfl)
    (case x14a => first | k_is | rfl)
    (case x14b => first | k_is | rfl)
    (case x14c => first | k_is | rfl)
    (case x14d => first | k_is | rfl)
    (case x14e => first | k_is | rfl)
    (case x14f => first | k_is | rfl)
    (case x14g => first | k_is | rfl)
    (case x14i => first | k_is | rfl)
    (case x14j => first | k_is | rfl)
    (case x14k => first | k_is | rfl)
    (case x14l => first | k_is | rfl)
    (case x14m => first | k_is | rfl)
    (case x14n => first | k_is | rfl)
    (case x14o => first | k_is | rfl)
    (case x14p => first | k_is | rfl)
    (case x14q => first | rfl | decide | k_is)
    (case x14r => first | rfl | decide | k_is)
    (case x14s => first | k_is | rfl)
    (case x15a => first | k_is | rfl)
    (case x15b => first | k_is | rfl)
    (case x15c => first | k_is | rfl)
    (case x15d => first | k_is | rfl)
    (case x15e => first | k_is | rfl)
    (case x15f => first | k_is | rfl)
    (case x15g => first | k_is | rfl)
    (case x15i => first | k_is | rfl)
    (case x15j => first | k_is | rfl)
    (case x15k => first | k_is | rfl)
    (case x15l => first | k_is | rfl)
    (case x15m => first | k_is | rfl)
    (case x15n => first | k_is | rfl)
    (case x15o => first | k_is | rfl)
    (case x15p => first | k_is | rfl)
    (case x15q => first | rfl | decide | k_is)
    (case x15r => first | rfl | decide | k_is)
    (case x15s => first | k_is | rfl)
    (case x16a => first | k_is | rfl)
    (case x16b => first | k_is | rfl)
    (case x16c => first | k_is | rfl)
    (case x16d => first | k_is | rfl)
    (case x16e => first | k_is | rfl)
    (case x16f => first | k_is | rfl)
    (case x16g => first | k_is | rfl)
    (case x16i => first | k_is | rfl)
    (case x16j => first | k_is | rfl)
    (case x16k => first | k_is | rfl)
    (case x16l => first | k_is | rfl)
    (case x16m => first | k_is | rfl)
    (case x16n => first | k_is | rfl)
    (case x16o => first | k_is | rfl)
    (case x16p => first | k_is | rfl)
    (case x16q => first | rfl | decide | k_is)
    (case x16r => first | rfl | decide | k_is)
    (case x16s => first | k_is | rfl)
    (case x17a => first | k_is | rfl)
    (case x17b => first | k_is | rfl)
    (case x17c => first | k_is | rfl)
    (case x17d => first | k_is | rfl)
    (case x17e => first | k_is | rfl)
    (case x17f => first | k_is | rfl)
    (case x17g => first | k_is | rfl)
    (case x17i => first | k_is | rfl)
    (case x17j => first | k_is | rfl)
    (case x17k => first | k_is | rfl)
    (case x17l => first | k_is | rfl)
    (case x17m => first | k_is | rfl)
    (case x17n => first | k_is | rfl)
    (case x17o => first | k_is | rfl)
    (case x17p => first | k_is | rfl)
    (case x17q => first | rfl | decide | k_is)
    (case x17r => first | rfl | decide | k_is)
    (case x17s => first | k_is | rfl)
    (case x18a => first | k_is | rfl)
    (case x18b => first | k_is | rfl)
    (case x18c => first | k_is | rfl)
    (case x18d => first | k_is | rfl)
    (case x18e => first | k_is | rfl)
    (case x18f => first | k_is | rfl)
    (case x18g => first | k_is | rfl)
    (case x18i => first | k_is | rfl)
    (case x18j => first | k_is | rfl)
    (case x18k => first | k_is | rfl)
    (case x18l => first | k_is | rfl)
    (case x18m => first | k_is | rfl)
    (case x18n => first | k_is | rfl)
    (case x18o => first | k_is | rfl)
    (case x18p => first | k_is | rfl)
    (case x18q => first | rfl | decide | k_is)
    (case x18r => first | rfl | decide | k_is)
    (case x18s => first | k_is | rfl)
    (case x19a => first | k_is | rfl)
    (case x19b => first | k_is | rfl)
    (case x19c => first | k_is | rfl)
    (case x19d => first | k_is | rfl)
    (case x19e => first | k_is | rfl)
    (case x19f => first | k_is | rfl)
    (case x19g => first | k_is | rfl)
    (case x19i => first | k_is | rfl)
    (case x19j => first | k_is | rfl)
    (case x19k => first | k_is | rfl)
    (case x19l => first | k_is | rfl)
    (case x19m => first | k_is | rfl)
    (case x19n => first | k_is | rfl)
    (case x19o => first | k_is | rfl)
    (case x19p => first | k_is | rfl)
    (case x19q => first | rfl | decide | k_is)
    (case x19r => first | rfl | decide | k_is)
    (case x19s => first | k_is | rfl)
    (case x20a => first | k_is | rfl)
    (case x20b => first | k_is | rfl)
    (case x20c => first | k_is | rfl)
    (case x20d => first | k_is | rfl)
    (case x20e => first | k_is | rfl)
    (case x20f => first | k_is | rfl)
    (case x20g => first | k_is | rfl)
    (case x20i => first | k_is | rfl)
    (case x20j => first | k_is | rfl)
    (case x20k => first | k_is | rfl)
    (case x20l => first | k_is | rfl)
    (case x20m => first | k_is | rfl)
    (case x20n => first | k_is | rfl)
    (case x20o => first | k_is | rfl)
    (case x20p => first | k_is | rfl)
    (case x20q => first | rfl | decide | k_is)
    (case x20r => first | rfl | decide | k_is)
    (case x20s => first | k_is | rfl)
    (case x21a => first | k_is | rfl)
    (case x21b => first | k_is | rfl)
    (case x21c => first | k_is | rfl)
    (case x21d => first | k_is | rfl)
    (case x21e => first | k_is | rfl)
    (case x21f => first | k_is | rfl)
    (case x21g => first | k_is | rfl)
    (case x21i => first | k_is | rfl)
    (case x21j => first | k_is | rfl)
    (case x21k => first | k_is | rfl)
    (case x21l => first | k_is | rfl)
    (case x21m => first | k_is | rfl)
    (case x21n => first | k_is | rfl)
    (case x21o => first | k_is | rfl)
    (case x21p => first | k_is | rfl)
    (case x21q => first | rfl | decide | k_is)
    (case x21r => first | rfl | decide | k_is)
    (case x21s => first | k_is | rfl)
    (case hnd => first | rfl | decide | k_is)
#print axioms PySem.Challenge.cw_farapart_k12_errors_kept_holds

